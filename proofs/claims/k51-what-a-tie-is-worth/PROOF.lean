import PyProof.Rows.All
import Wide.All
import OpenK.AllK
import Wide.FinOn
import HandS.ForMost
import HandS.More
import HandS.SetFor
import HandS.Strs
import HandS.Defaults
import HandS.Walk
import KE.DataEq
import HandS.SortInts
import HandS.Style
import HandS.Star
import KE.GoesEnum
import KE.GoesMore
import HandS.IsInst
import KE.SortKeyed
import KE.DataCmp
import HandS.TupAny
import HandS.TupMul
import HandS.Conv
import HandS.OwnEq
import HandS.TryOnly
import HandS.DictComp
import OpenK.KOps
import KE.KRevSl
import HandS.Zip
import KE.KDictSum
import PyProof.ReprRoads
import PyProof.ReprLen
import PyProof.CallFns
import HandS.HeadEnd
import HandS.Text
import KE.KFmtOwn
import KE.KCallOwn
import HandS.Codes
import HandS.NamedTupSort
import KE.KStateDown
import HandS.Head0
import HandS.Head1
import HandS.Head2
import HandS.HeadHook1
import HandS.HeadHook2
import HandS.HeadHook3
import HandS.HeadHook4
import PySem.Challenge.RW_levelties_k51_what_a_tie_is_worth
set_option Elab.async false
set_option linter.all false
set_option maxRecDepth 100000
set_option maxHeartbeats 4000000
namespace DL
open PySem PySem.Spec PyProof.Rows L2
/-! ### set(xs) of a list: made, then filled by a walk -/
section
variable {P : Program} {w : World} {A : Around} {E : Value → Shared → Prop} {s : Shared}
/-- the empty set as it is made -/
abbrev setO0 (w : World) : Obj := { cls := .type "set", dict := none, data := .set #[] 0 (.fresh 0 0 (!w.params.followText "set-order")) }
/-- the heap where the filling starts -/
abbrev fillH (w : World) (h : Heap) (l : Addr) : Heap := (h.push (setO0 w)).push { cls := .type "list_iterator", data := .fields #[.ref l, .int 0 0] }
/-- how a list's items fill a set -/
def Fills (P : Program) (w : World) (E : Value → Shared → Prop) (s : Shared) (l : Addr) (Fd : Heap → Prop) : Prop :=
  ∀ (B : Around) (R : Result → Shared → Prop) (t : Shared), B.handled = none → t.heap = fillH w s.heap l →
    (∀ t', t'.gens = t.gens → t'.drawn = t.drawn → t'.os = t.os → Fd t'.heap → (∀ b o, b ≠ s.heap.objs.size → b ≠ s.heap.objs.size + 1 → t.heap.get? b = some o → t'.heap.get? b = some o) → R (.ok (.ret .none)) t') →
    codeAny (model P w) B (.builtin "set.update.loop" ⟨[.ref s.heap.objs.size, .ref (s.heap.objs.size + 1)], []⟩) R t
set_option maxHeartbeats 3200000 in
theorem set_filled {l : Addr} {items : Array Value} {Fd : Heap → Prop} {Q : Value → Shared → Prop} (hh : A.handled = none) (hl : s.heap.IsList l items) (fill : Fills P w E s l Fd)
    (k : ∀ (h2 : Heap) (tk : Nat), Fd h2 → (∀ b o, s.heap.get? b = some o → h2.get? b = some o) → Q (.ref s.heap.objs.size) { s with heap := h2, toks := tk }) :
    wpAny (model P w) A (call (.type "set") [.ref l]) Q E s := by
  have ⟨_, _, _⟩ := F.called_set.mro
  have _ := F.called_set.made
  have _ := F.called_set.sub
  have _ := F.called_set.notType
  have _ := F.called_set.canCreate
  have _ := F.typeCall_set_1 (.ref l)
  refine wpAny_call <| codeAny_of_tree <| show wpAny _ _ (callAny (.type "set") _) _ _ _ from
    wpAny_pure ⟨Code.quiet_builtin _ (by decide +kernel), codeAny_builtin F.entry_type_call ?m⟩
  case m =>
    rw [Around.under_plain (weight_type_call_type "set" [.ref l] []) rfl]
    repeat any_goals first | assumption | wp_step
    refine codeAny_mono (code_set_led1 (.ref l) (E := E) (Q₁ := fun v t => v = .ref s.heap.objs.size ∧ t = { s with heap := s.heap.push (setO0 w) }) ⟨rfl, rfl⟩) fun r t hr => ?_
    rcases r with z | f
    · exact hr
    rcases f with _ | _ | _ | v
    any_goals exact hr.elim
    all_goals
      obtain ⟨rfl, rfl⟩ := hr
      have gS : (s.heap.push (setO0 w)).get? s.heap.objs.size = some (setO0 w) := Heap.get?_push_size _ rfl
      have tS : Shared.TypeIs { s with heap := s.heap.push (setO0 w) } (.ref s.heap.objs.size) "set" := ⟨_, gS, rfl⟩
      have _ := F.called_set.init.lookup
      have _ := F.called_set.init.bind (.ref s.heap.objs.size)
      repeat any_goals first | assumption | wp_step
      refine codeAny_mono (codeAny_call_builtin (R := wants (fun r t => r = .none ∧ ∃ h2 tk, t = { s with heap := h2, toks := tk } ∧ Fd h2 ∧ ∀ b o, s.heap.get? b = some o → h2.get? b = some o) E)
        F.called_set.init.plain F.entry_set_init (check_set_init_1 tS ?i)) fun r t ht => ?_
      case i =>
        obtain ⟨⟨oc, od, odt, os⟩, ho, hc, nn, hd⟩ := hl
        simp only at hc hd
        subst hc hd
        have ho2 : (s.heap.push (setO0 w)).get? l = some { cls := .type "list", dict := od, data := .seq items nn, slots := os } := Heap.get?_push_of_some _ ho
        have l2 : (s.heap.push (setO0 w)).IsList l items := ⟨_, ho2, rfl, nn, rfl⟩
        have _ := F.sub_list_set
        have _ := F.sub_list_frozenset
        have _ : (Value.type "list" == Value.type "dict") = false := by decide
        unfold Builtin.«set.__init__» noKeywords Builtin.Frozenset.updateFrom
        generalize hPI : pyIter = PI
        wp_walk
        subst hPI
        refine wpAny_pyIter_list l2 (wpAny_bind (wpAny_runValue ?_))
        have e1 : (s.heap.push (setO0 w)).objs.size = s.heap.objs.size + 1 := Heap.size_push ..
        rw [e1]
        refine fill _ _ _ (by simp [hh]) rfl fun t' g1 g2 g3 fd kp => ?_
        obtain ⟨h2, a1, a2, tk, a3⟩ := t'
        cases g1; cases g2; cases g3
        refine wpAny_pure (show wpAny _ _ (ret Value.none) _ _ _ from wpAny_pure ⟨rfl, h2, tk, rfl, fd, fun b o q => ?_⟩)
        have lt := Heap.lt_size q
        exact kp b o (Nat.ne_of_lt lt) (Nat.ne_of_lt (Nat.lt_succ_of_lt lt)) (Heap.get?_push_of_some _ (Heap.get?_push_of_some _ q))
      rcases r with z | f
      · exact ht
      rcases f with _ | _ | _ | v
      any_goals exact ht.elim
      all_goals
        obtain ⟨rfl, h2, tk, rfl, fd, kp⟩ := ht
        repeat any_goals first | assumption | wp_step
        exact k h2 tk fd kp
/-- ints: the members are the list's -/
theorem fills_ints {l : Addr} {items : Array Value} {ns : List Int} (hl : s.heap.IsList l items) (hi : IntsAre items.toList ns) (hb : ns.length + 1 < scanBound) :
    Fills P w E s l fun h2 => ∃ c, c ≤ ns.length ∧ SetR w h2 s.heap.objs.size (fun j => decide (j ∈ ns)) c := fun B R t hB ht k => by
  have hsz : items.size = ns.length := by
    have q := IntsAre.length hi
    rwa [Array.length_toList] at q
  obtain ⟨o, ho, hc, nn, hd⟩ := hl
  have hlS : l < s.heap.objs.size := Heap.lt_size ho
  have l2 : (fillH w s.heap l).IsList l items := ⟨o, Heap.get?_push_of_some _ (Heap.get?_push_of_some _ ho), hc, nn, hd⟩
  have e1 : (s.heap.push (setO0 w)).objs.size = s.heap.objs.size + 1 := Heap.size_push ..
  have it : (fillH w s.heap l).get? (s.heap.objs.size + 1) = some { cls := .type "list_iterator", data := .fields #[.ref l, .int 0 0] } := by
    rw [← e1]; exact Heap.get?_push_size _ rfl
  have gS : (fillH w s.heap l).get? s.heap.objs.size = some (setO0 w) := Heap.get?_push_of_some _ (Heap.get?_push_size _ rfl)
  refine set_update_ints ((Walks.list (A := B.in1) (by simp [hB]) (s.heap.objs.size + 1) l (Nat.ne_of_lt (Nat.lt_succ_of_lt hlS)) items).toS) s.heap.objs.size (by simp only [List.mem_cons, List.not_mem_nil, or_false, not_or]; exact ⟨Nat.ne_of_lt (Nat.lt_succ_self _), Nat.ne_of_gt hlS⟩) ns hsz hb (fun i v hv => ?_) (items.size - 0) 0 t (by omega) (Nat.zero_le _)
    (by rw [ht]; exact ⟨⟨_, it, rfl, rfl⟩, l2⟩) ⟨0, Nat.le_refl 0, by rw [ht]; exact setR_new_at gS⟩ fun t' c m hc hS => ?_
  · have hi2 : i < ns.length := by rw [← hsz]; exact (Array.getElem?_eq_some_iff.mp hv).1
    obtain ⟨z, e⟩ := IntsAre.int_at hi i v (by rw [Array.getElem?_toList]; exact hv)
    exact ⟨ns[i], z, List.getElem?_eq_getElem hi2, by rw [e, List.getD_eq_getElem?_getD, List.getElem?_eq_getElem hi2] <;> rfl⟩
  · exact k t' m.gens m.drawn m.os ⟨c, by omega, hS⟩ fun b o h1 h2 q => m.heap b o (by simp only [List.mem_cons, List.not_mem_nil, or_false, not_or]; exact ⟨h1, h2⟩) q
end
end DL

namespace DL
open PySem L2

/-! ### data -/
inductive D where
  | non
  | bl (b : Bool)
  | int (i : Int)
  | str (s : Str)
  | lst (xs : List D)
  | tup (xs : List D)
  | dic (kvs : List (Key × D))
  | obj (k : Nat) (fs : List (Str × D))
  | scr (ns : List Int)
  /-- the list that stands in cell j -/
  | cel (j : Nat)
  /-- a dict with tuples as keys -/
  | dtu (kvs : List (List Key × D))
  /-- a tuple whose object is known to have no dict -/
  | btu (xs : List D)
/-- the classes' addresses: 0 Net, 1 Flow, 2 Live, 3 Desk -/
structure CA where
  cls : Nat → Addr
  /-- where the list of a cell stands -/
  cel : Nat → Option Addr := fun _ => none
instance : CoeFun CA (fun _ => Nat → Addr) := ⟨CA.cls⟩
def pairD (q : Int × Int) : D := .tup [.int q.1, .int q.2]
def netD (p : Int) (ts : List (Int × Int)) : D := .obj 0 [("posts", .int p), ("ties", .tup (ts.map pairD))]

mutual
inductive Rp (K : PySem.W.Frag) (C : CA) (F : Hp) : V → D → Prop
  | non : Rp K C F .non .non
  | bl (b : Bool) : Rp K C F (.bl b) (.bl b)
  | int (i : Int) : Rp K C F (.int i) (.int i)
  | str (x : Str) : Rp K C F (.str x) (.str x)
  | lst {a : Addr} {vs : List V} {ds : List D} : F a = some (.lst vs) → vs.length ≤ sizeLine → RpAll K C F vs ds → Rp K C F (.ref a) (.lst ds)
  | scr {a : Addr} {ns : List Int} : SqL K F a (ns.map V.int) → Rp K C F (.ref a) (.scr ns)
  | tup {a : Addr} {vs : List V} {ds : List D} : SqT K F a vs → vs.length ≤ sizeLine → RpAll K C F vs ds → Rp K C F (.ref a) (.tup ds)
  | dic {a : Addr} {od : Obj} {kvs : List (Key × V)} {ks : List (Key × D)} : F a = some (.frz od (.dK kvs)) → RpKV K C F kvs ks → Rp K C F (.ref a) (.dic ks)
  | obj {a dx : Addr} {k : Nat} {vs : List (Str × V)} {fs : List (Str × D)} : F a = some (.ins (C k) dx vs) → RpFs K C F vs fs → Rp K C F (.ref a) (.obj k fs)
  | cel {a : Addr} (j : Nat) : C.cel j = some a → Rp K C F (.ref a) (.cel j)
  | dtu {a : Addr} {od : Obj} {kvs : List (List Key × V)} {ks : List (List Key × D)} : F a = some (.frz od (.dT kvs)) → RpTV K C F kvs ks → Rp K C F (.ref a) (.dtu ks)
  | btu {a : Addr} {od : Obj} {vs : List V} {ds : List D} : F a = some (.frz od (.tup vs)) → od.dict = none → vs.length ≤ sizeLine → RpAll K C F vs ds → Rp K C F (.ref a) (.btu ds)
inductive RpAll (K : PySem.W.Frag) (C : CA) (F : Hp) : List V → List D → Prop
  | nil : RpAll K C F [] []
  | cons {v : V} {vs : List V} {d : D} {ds : List D} : Rp K C F v d → RpAll K C F vs ds → RpAll K C F (v :: vs) (d :: ds)
inductive RpKV (K : PySem.W.Frag) (C : CA) (F : Hp) : List (Key × V) → List (Key × D) → Prop
  | nil : RpKV K C F [] []
  | cons {k : Key} {v : V} {vs : List (Key × V)} {d : D} {ds : List (Key × D)} : Rp K C F v d → RpKV K C F vs ds → RpKV K C F ((k, v) :: vs) ((k, d) :: ds)
inductive RpFs (K : PySem.W.Frag) (C : CA) (F : Hp) : List (Str × V) → List (Str × D) → Prop
  | nil : RpFs K C F [] []
  | cons {k : Str} {v : V} {vs : List (Str × V)} {d : D} {ds : List (Str × D)} : Rp K C F v d → RpFs K C F vs ds → RpFs K C F ((k, v) :: vs) ((k, d) :: ds)
inductive RpTV (K : PySem.W.Frag) (C : CA) (F : Hp) : List (List Key × V) → List (List Key × D) → Prop
  | nil : RpTV K C F [] []
  | cons {k : List Key} {v : V} {vs : List (List Key × V)} {d : D} {ds : List (List Key × D)} : Rp K C F v d → RpTV K C F vs ds → RpTV K C F ((k, v) :: vs) ((k, d) :: ds)
end

section
variable {K : PySem.W.Frag} {C : CA} {F F' H H' : Hp}
theorem SqL.sub {a : Addr} {xs : List V} (e : Same F F') (h : SqL K F a xs) : SqL K F' a xs := e.seq h
theorem SqT.sub {a : Addr} {xs : List V} (e : Same F F') (h : SqT K F a xs) : SqT K F' a xs := by
  rcases h with (h | ⟨o, h⟩) | h
  · exact .inl (.inl (e _ _ h))
  · exact .inl (.inr ⟨o, e _ _ h⟩)
  · exact .inr h
theorem Rd.sub {a : Addr} {u : HO} (e : Same F F') (h : Rd F a u) : Rd F' a u := by
  rcases h with h | ⟨o, h⟩
  · exact .inl (e _ _ h)
  · exact .inr ⟨o, e _ _ h⟩
mutual
theorem Rp.mono (e : Same F F') {v : V} {d : D} (h : Rp K C F v d) : Rp K C F' v d := match h with
  | .non => .non
  | .bl b => .bl b
  | .int i => .int i
  | .str x => .str x
  | .lst h1 hl h2 => .lst (e _ _ h1) hl (h2.mono e)
  | .scr h1 => .scr (SqL.sub e h1)
  | .tup h1 hl h2 => .tup (SqT.sub e h1) hl (h2.mono e)
  | .dic h1 h2 => .dic (e _ _ h1) (h2.mono e)
  | .obj h1 h2 => .obj (e _ _ h1) (h2.mono e)
  | .cel j h => .cel j h
  | .dtu h1 h2 => .dtu (e _ _ h1) (h2.mono e)
  | .btu h1 h2 h3 h4 => .btu (e _ _ h1) h2 h3 (h4.mono e)
theorem RpAll.mono (e : Same F F') {vs : List V} {ds : List D} (h : RpAll K C F vs ds) : RpAll K C F' vs ds := match h with
  | .nil => .nil
  | .cons h1 h2 => .cons (h1.mono e) (h2.mono e)
theorem RpKV.mono (e : Same F F') {vs : List (Key × V)} {ds : List (Key × D)} (h : RpKV K C F vs ds) : RpKV K C F' vs ds := match h with
  | .nil => .nil
  | .cons h1 h2 => .cons (h1.mono e) (h2.mono e)
theorem RpFs.mono (e : Same F F') {vs : List (Str × V)} {ds : List (Str × D)} (h : RpFs K C F vs ds) : RpFs K C F' vs ds := match h with
  | .nil => .nil
  | .cons h1 h2 => .cons (h1.mono e) (h2.mono e)
theorem RpTV.mono (e : Same F F') {vs : List (List Key × V)} {ds : List (List Key × D)} (h : RpTV K C F vs ds) : RpTV K C F' vs ds := match h with
  | .nil => .nil
  | .cons h1 h2 => .cons (h1.mono e) (h2.mono e)
end
theorem RpAll.length {vs : List V} {ds : List D} (h : RpAll K C F vs ds) : vs.length = ds.length := by
  induction vs generalizing ds with
  | nil => cases h; rfl
  | cons v vs ih => cases h with | cons h1 h2 => simp [ih h2]
theorem RpAll.app {vs ws : List V} {ds es : List D} (h : RpAll K C F vs ds) (g : RpAll K C F ws es) : RpAll K C F (vs ++ ws) (ds ++ es) := by
  induction vs generalizing ds with
  | nil => cases h; exact g
  | cons v vs ih => cases h with | cons h1 h2 => exact .cons h1 (ih h2)
theorem RpAll.get {vs : List V} {ds : List D} (h : RpAll K C F vs ds) {i : Nat} {v : V} (e : vs[i]? = some v) : ∃ d, ds[i]? = some d ∧ Rp K C F v d := by
  induction vs generalizing ds i with
  | nil => simp at e
  | cons w vs ih =>
    cases h with
    | cons h1 h2 =>
      cases i with
      | zero => simp at e; subst e; exact ⟨_, rfl, h1⟩
      | succ i => simpa using ih h2 (by simpa using e)
theorem RpAll.get' {vs : List V} {ds : List D} (h : RpAll K C F vs ds) {i : Nat} {d : D} (e : ds[i]? = some d) : ∃ v, vs[i]? = some v ∧ Rp K C F v d := by
  induction vs generalizing ds i with
  | nil => cases h; simp at e
  | cons w vs ih =>
    cases h with
    | cons h1 h2 =>
      cases i with
      | zero => simp at e; subst e; exact ⟨_, rfl, h1⟩
      | succ i => simpa using ih h2 (by simpa using e)
theorem RpAll.take {vs : List V} {ds : List D} (h : RpAll K C F vs ds) (n : Nat) : RpAll K C F (vs.take n) (ds.take n) := by
  induction vs generalizing ds n with
  | nil => cases h; simp; exact .nil
  | cons w vs ih => cases h with | cons h1 h2 => cases n with
    | zero => exact .nil
    | succ n => exact .cons h1 (ih h2 n)
theorem RpAll.drop {vs : List V} {ds : List D} (h : RpAll K C F vs ds) (n : Nat) : RpAll K C F (vs.drop n) (ds.drop n) := by
  induction vs generalizing ds n with
  | nil => cases h; simp; exact .nil
  | cons w vs ih => cases h with | cons h1 h2 => cases n with
    | zero => exact .cons h1 h2
    | succ n => exact ih h2 n
theorem RpAll.set {vs : List V} {ds : List D} (h : RpAll K C F vs ds) {v : V} {d : D} (r : Rp K C F v d) (n : Nat) : RpAll K C F (vs.set n v) (ds.set n d) := by
  induction vs generalizing ds n with
  | nil => cases h; simp; exact .nil
  | cons w vs ih => cases h with | cons h1 h2 => cases n with
    | zero => exact .cons r h2
    | succ n => exact .cons h1 (ih h2 n)
theorem RpAll.erase {vs : List V} {ds : List D} (h : RpAll K C F vs ds) (n : Nat) : RpAll K C F (vs.eraseIdx n) (ds.eraseIdx n) := by
  induction vs generalizing ds n with
  | nil => cases h; simp; exact .nil
  | cons w vs ih => cases h with | cons h1 h2 => cases n with
    | zero => exact h2
    | succ n => exact .cons h1 (ih h2 n)
theorem RpAll.dropLast {vs : List V} {ds : List D} (h : RpAll K C F vs ds) : RpAll K C F vs.dropLast ds.dropLast := by
  rw [List.dropLast_eq_take, List.dropLast_eq_take, h.length]
  exact h.take _
theorem RpAll.one {v : V} {d : D} (r : Rp K C F v d) : RpAll K C F [v] [d] := .cons r .nil
end

/-- what stands there once the object is data: a dict is locked -/
def Fz (u u' : HO) : Prop := match u with
  | .dK _ => ∃ od, u' = .frz od u
  | .dT _ => ∃ od, u' = .frz od u
  | _ => u' = u
theorem upd_self {H : Hp} {a : Addr} {o : HO} (h : H a = some o) : upd H a o = H := by
  funext b
  by_cases e : b = a
  · subst e; rw [upd_same, h]
  · rw [upd_ne e]
theorem Inv_fz {X : Cx} {pins : List (Addr × Obj)} {σ : St} {H : Hp} {s : Shared} {a : Addr} {u : HO} (I : Inv X pins σ H s) (h : H a = some u) : ∃ u', Fz u u' ∧ Inv X pins σ (upd H a u') s := by
  cases u with
  | dK kvs =>
    obtain ⟨od, I'⟩ := I.lock h trivial
    exact ⟨_, ⟨od, rfl⟩, I'⟩
  | dT kvs =>
    obtain ⟨od, I'⟩ := I.lock h trivial
    exact ⟨_, ⟨od, rfl⟩, I'⟩
  | _ => exact ⟨_, rfl, by rw [upd_self h]; exact I⟩

/-! ### a mutable object of one's own -/
def Own (K : PySem.W.Frag) (C : CA) (F H : Hp) (a : Addr) : D → Prop
  | .lst ds => ∃ vs, H a = some (.lst vs) ∧ vs.length ≤ sizeLine ∧ RpAll K C F vs ds
  | .dic ks => ∃ kvs, H a = some (.dK kvs) ∧ RpKV K C F kvs ks
  | .obj k fs => ∃ dx vs, H a = some (.ins (C k) dx vs) ∧ RpFs K C F vs fs
  | .dtu ks => ∃ kvs, H a = some (.dT kvs) ∧ RpTV K C F kvs ks
  | _ => False
section
variable {K : PySem.W.Frag} {C : CA} {F F' H H' : Hp} {a : Addr} {d : D}
theorem Own.some (h : Own K C F H a d) : ∃ o, H a = some o := by
  cases d <;> simp only [Own] at h
  · obtain ⟨vs, e, _⟩ := h; exact ⟨_, e⟩
  · obtain ⟨vs, e, _⟩ := h; exact ⟨_, e⟩
  · obtain ⟨dx, vs, e, _⟩ := h; exact ⟨_, e⟩
  · obtain ⟨vs, e, _⟩ := h; exact ⟨_, e⟩
theorem Own.mono (h : Own K C F H a d) (e : Same F F') (k : H' a = H a) : Own K C F' H' a d := by
  cases d <;> simp only [Own] at h ⊢
  · obtain ⟨vs, q, l, r⟩ := h; exact ⟨vs, k.trans q, l, r.mono e⟩
  · obtain ⟨vs, q, r⟩ := h; exact ⟨vs, k.trans q, r.mono e⟩
  · obtain ⟨dx, vs, q, r⟩ := h; exact ⟨dx, vs, k.trans q, r.mono e⟩
  · obtain ⟨vs, q, r⟩ := h; exact ⟨vs, k.trans q, r.mono e⟩
/-- an own object that is not written any more is data -/
theorem Own.froze (h : Own K C F H a d) (e : Same F F') {o o' : HO} (ho : H a = Option.some o) (fz : Fz o o') (k : F' a = Option.some o') : Rp K C F' (.ref a) d := by
  cases d <;> simp only [Own] at h
  · obtain ⟨vs, q, l, r⟩ := h; rw [ho] at q; cases q; cases fz; exact .lst k l (r.mono e)
  · obtain ⟨vs, q, r⟩ := h; rw [ho] at q; cases q; obtain ⟨od, rfl⟩ := fz; exact .dic k (r.mono e)
  · obtain ⟨dx, vs, q, r⟩ := h; rw [ho] at q; cases q; cases fz; exact .obj k (r.mono e)
  · obtain ⟨vs, q, r⟩ := h; rw [ho] at q; cases q; obtain ⟨od, rfl⟩ := fz; exact .dtu k (r.mono e)
end

/-- what can be read as d just now -/
def Rb (K : PySem.W.Frag) (C : CA) (F H : Hp) (v : V) (d : D) : Prop := Rp K C F v d ∨ ∃ a, v = .ref a ∧ Own K C F H a d
section
variable {K : PySem.W.Frag} {C : CA} {F F' H H' : Hp} {v : V}
theorem Rb.lst (s : Same F H) {ds : List D} (h : Rb K C F H v (.lst ds)) : ∃ a vs, v = .ref a ∧ H a = some (.lst vs) ∧ vs.length ≤ sizeLine ∧ RpAll K C F vs ds := by
  rcases h with h | ⟨a, rfl, vs, h, l, r⟩
  · cases h with | lst h1 hl h2 => exact ⟨_, _, rfl, s _ _ h1, hl, h2⟩
  · exact ⟨a, vs, rfl, h, l, r⟩
theorem Rb.tup (s : Same F H) {ds : List D} (h : Rb K C F H v (.tup ds)) : ∃ a vs, v = .ref a ∧ SqT K H a vs ∧ vs.length ≤ sizeLine ∧ RpAll K C F vs ds := by
  rcases h with h | ⟨a, rfl, h⟩
  · cases h with | tup h1 hl h2 => exact ⟨_, _, rfl, SqT.sub s h1, hl, h2⟩
  · exact h.elim
theorem Rb.dic (s : Same F H) {ks : List (Key × D)} (h : Rb K C F H v (.dic ks)) : ∃ a kvs, v = .ref a ∧ Rd H a (.dK kvs) ∧ RpKV K C F kvs ks := by
  rcases h with h | ⟨a, rfl, vs, h, r⟩
  · cases h with | dic h1 h2 => exact ⟨_, _, rfl, .inr ⟨_, s _ _ h1⟩, h2⟩
  · exact ⟨a, vs, rfl, .inl h, r⟩
theorem Rb.int {i : Int} (h : Rb K C F H v (.int i)) : v = .int i := by
  rcases h with h | ⟨a, rfl, h⟩
  · cases h; rfl
  · exact h.elim
theorem Rb.bl {i : Bool} (h : Rb K C F H v (.bl i)) : v = .bl i := by
  rcases h with h | ⟨a, rfl, h⟩
  · cases h; rfl
  · exact h.elim
theorem Rb.str {i : Str} (h : Rb K C F H v (.str i)) : v = .str i := by
  rcases h with h | ⟨a, rfl, h⟩
  · cases h; rfl
  · exact h.elim
theorem Rb.non (h : Rb K C F H v .non) : v = .non := by
  rcases h with h | ⟨a, rfl, h⟩
  · cases h; rfl
  · exact h.elim
theorem Rb.scr (s : Same F H) {ns : List Int} (h : Rb K C F H v (.scr ns)) : ∃ a, v = .ref a ∧ SqL K H a (ns.map V.int) := by
  rcases h with h | ⟨a, rfl, h⟩
  · cases h with | scr h1 => exact ⟨_, rfl, SqL.sub s h1⟩
  · exact h.elim
theorem Rb.obj (s : Same F H) {k : Nat} {fs : List (Str × D)} (h : Rb K C F H v (.obj k fs)) : ∃ a dx vs, v = .ref a ∧ H a = some (.ins (C k) dx vs) ∧ RpFs K C F vs fs := by
  rcases h with h | ⟨a, rfl, dx, vs, h, r⟩
  · cases h with | obj h1 h2 => exact ⟨_, _, _, rfl, s _ _ h1, h2⟩
  · exact ⟨a, dx, vs, rfl, h, r⟩
theorem RpFs.look {vs : List (Str × V)} {fs : List (Str × D)} (h : RpFs K C F vs fs) {f : Str} {d : D} (e : fs.lookup f = some d) : ∃ v, vs.lookup f = some v ∧ Rp K C F v d := by
  induction vs generalizing fs with
  | nil => cases h; cases e
  | cons p vs ih =>
    cases h with
    | @cons k v _ d' ds h1 h2 =>
      rw [List.lookup_cons] at e ⊢
      cases q : (f == k) with
      | true => rw [q] at e; cases e; exact ⟨v, rfl, h1⟩
      | false => rw [q] at e; exact ih h2 e
theorem RpFs.look_none {vs : List (Str × V)} {fs : List (Str × D)} (h : RpFs K C F vs fs) {f : Str} (e : fs.lookup f = none) : vs.lookup f = none := by
  induction vs generalizing fs with
  | nil => rfl
  | cons p vs ih =>
    cases h with
    | @cons k v _ d' ds h1 h2 =>
      rw [List.lookup_cons] at e ⊢
      cases q : (f == k) with
      | true => rw [q] at e; cases e
      | false => rw [q] at e; exact ih h2 e
theorem RpFs.length {vs : List (Str × V)} {fs : List (Str × D)} (h : RpFs K C F vs fs) : vs.length = fs.length := by
  induction vs generalizing fs with
  | nil => cases h; rfl
  | cons p vs ih => cases h with | cons h1 h2 => simp [ih h2]
end

/-- a step that writes nothing that stood -/
structure Ext (F H F' H' : Hp) : Prop where
  sub : Same F F'
  inn : Same F' H'
  keep : Same H H'
  new : ∀ b o, F' b = some o → F b = some o ∨ H b = none
theorem Ext.rfl' {F H : Hp} (s : Same F H) : Ext F H F H := ⟨Same.refl _, s, Same.refl _, fun _ _ h => .inl h⟩
theorem same_upd {H : Hp} {p : Addr} {o : HO} (h : H p = none) : Same H (upd H p o) := fun b q e => by rw [upd_ne (ne_of_none e h)]; exact e
/-- a new object laid, and held as data -/
theorem Ext.laid {F H : Hp} (s : Same F H) {p : Addr} {o : HO} (h : H p = none) : Ext F H (upd F p o) (upd H p o) := by
  refine ⟨same_upd (s.free h), fun b q e => ?_, same_upd h, fun b q e => ?_⟩
  · by_cases hb : b = p
    · subst hb; rw [upd_same] at e ⊢; exact e
    · rw [upd_ne hb] at e ⊢; exact s _ _ e
  · by_cases hb : b = p
    · subst hb; exact .inr h
    · rw [upd_ne hb] at e; exact .inl e
theorem Ext.trans {F H F1 H1 F2 H2 : Hp} (a : Ext F H F1 H1) (b : Ext F1 H1 F2 H2) : Ext F H F2 H2 :=
  ⟨a.sub.trans b.sub, b.inn, a.keep.trans b.keep, fun c o h => by
    rcases b.new c o h with q | q
    · exact a.new c o q
    · exact .inr (a.keep.free q)⟩

/-! ### the slots' data -/
abbrev Env := List (Option D)
def gt : Env → Nat → Option D
  | [], _ => none
  | x :: _, 0 => x
  | _ :: xs, n + 1 => gt xs n
def st : Env → Nat → Option D → Env
  | [], _, _ => []
  | _ :: xs, 0, d => d :: xs
  | x :: xs, n + 1, d => x :: st xs n d
theorem st_length (e : Env) (i : Nat) (d : Option D) : (st e i d).length = e.length := by
  induction e generalizing i with
  | nil => rfl
  | cons x xs ih => cases i with
    | zero => rfl
    | succ i => simp [st, ih]
theorem gt_st_ne {e : Env} {i j : Nat} {d : Option D} (h : i ≠ j) : gt (st e i d) j = gt e j := by
  induction e generalizing i j with
  | nil => rfl
  | cons x xs ih => cases i with
    | zero => cases j with
      | zero => exact absurd rfl h
      | succ j => rfl
    | succ i => cases j with
      | zero => rfl
      | succ j => exact ih (fun q => h (by rw [q]))
theorem gt_st {e : Env} {i : Nat} {d : Option D} (h : i < e.length) : gt (st e i d) i = d := by
  induction e generalizing i with
  | nil => simp at h
  | cons x xs ih => cases i with
    | zero => rfl
    | succ i => exact ih (by simpa using h)
theorem gt_lt {e : Env} {i : Nat} {d : D} (h : gt e i = some d) : i < e.length := by
  induction e generalizing i with
  | nil => cases h
  | cons x xs ih => cases i with
    | zero => simp
    | succ i => simpa using ih h
theorem gt_st_none {e : Env} {i j : Nat} {d : D} (h : gt (st e i none) j = some d) : i ≠ j ∧ gt e j = some d := by
  by_cases q : i = j
  · subst q
    by_cases l : i < e.length
    · rw [gt_st l] at h; cases h
    · have := gt_lt h; rw [st_length] at this; exact absurd this l
  · rw [gt_st_ne q] at h; exact ⟨q, h⟩

/-- what is told of a def's slots: O those that hold an object of one's own (whenever they hold something), io those whose object is the caller's -/
structure Cs where
  n : Nat
  O : List Nat
  io : List Nat
  ci : List Nat := []
  cn : List Nat := []
/-- the entry -/
structure Zn where
  F0 : Hp
  H0 : Hp
  ioA : List Addr
  gh : List (Addr × D) := []

structure SRo (K : PySem.W.Frag) (C : CA) (c : Cs) (z : Zn) (F : Hp) (env : Env) (σ : St) (H : Hp) : Prop where
  sub : Same F H
  f0 : Same z.F0 F
  new : ∀ b o, F b = some o → z.F0 b = some o ∨ z.H0 b = none
  keep : ∀ b o, z.H0 b = some o → b ∉ z.ioA → H b = some o
  len : env.length = σ.length
  num : env.length = c.n
  pur : ∀ i d, gt env i = some d → i ∉ c.O → ∃ v, σ[i]? = some (some v) ∧ Rp K C F v d
  own : ∀ i d, gt env i = some d → i ∈ c.O → ∃ a, σ[i]? = some (some (.ref a)) ∧ F a = none ∧ Own K C F H a d ∧ (z.H0 a = none ∨ i ∈ c.io ∧ a ∈ z.ioA)
  dist : ∀ i j di dj a, i ∈ c.O → j ∈ c.O → i ≠ j → gt env i = some di → gt env j = some dj → σ[i]? = some (some (.ref a)) → σ[j]? ≠ some (some (.ref a))
  iol : z.ioA.length = c.io.length
  gho : ∀ a d, (a, d) ∈ z.gh → F a = none ∧ Own K C F H a d ∧ z.H0 a = none
  ghd : ∀ a d i e, (a, d) ∈ z.gh → i ∈ c.O → gt env i = some e → σ[i]? ≠ some (some (.ref a))
  ghn : (z.gh.map (·.1)).Nodup
  ios : ∀ (k i : Nat), c.io[k]? = some i → i ∈ c.O ∧ ∃ a d, z.ioA[k]? = some a ∧ σ[i]? = some (some (.ref a)) ∧ gt env i = some d

section
variable {K : PySem.W.Frag} {C : CA} {c : Cs} {z : Zn} {F F' : Hp} {env env' : Env} {σ : St} {H H' : Hp}
/-- what stood at the entry stands -/
theorem SRo.stands (S : SRo K C c z F env σ H) {b : Addr} {o : HO} (h0 : z.H0 b = some o) : ∃ o', H b = some o' := by
  by_cases hb : b ∈ z.ioA
  · obtain ⟨k, hk⟩ := List.getElem?_of_mem hb
    have lk : k < c.io.length := by
      have := (List.getElem?_eq_some_iff.mp hk).1
      rw [← S.iol]; exact this
    obtain ⟨hO, a, d, ha, hs, hd⟩ := S.ios k c.io[k] (List.getElem?_eq_getElem lk)
    rw [hk] at ha; cases ha
    obtain ⟨a', hs', _, ho, _⟩ := S.own _ d hd hO
    rw [hs] at hs'; cases hs'
    exact ho.some
  · exact ⟨o, S.keep b o h0 hb⟩
theorem SRo.free0 (S : SRo K C c z F env σ H) {b : Addr} (h : H b = none) : z.H0 b = none := by
  cases h0 : z.H0 b with
  | none => rfl
  | some o => obtain ⟨o', q⟩ := S.stands h0; rw [h] at q; cases q
theorem SRo.ext (S : SRo K C c z F env σ H) (e : Ext F H F' H') : SRo K C c z F' env σ H' where
  sub := e.inn
  f0 := S.f0.trans e.sub
  new := fun b o h => by
    rcases e.new b o h with q | q
    · exact S.new b o q
    · exact .inr (S.free0 q)
  keep := fun b o h hb => e.keep _ _ (S.keep b o h hb)
  len := S.len
  num := S.num
  pur := fun i d h hi => let ⟨v, h1, h2⟩ := S.pur i d h hi; ⟨v, h1, h2.mono e.sub⟩
  own := fun i d h hi => by
    obtain ⟨a, h1, h2, h3, h4⟩ := S.own i d h hi
    obtain ⟨o, ho⟩ := h3.some
    refine ⟨a, h1, ?_, h3.mono e.sub ((e.keep _ _ ho).trans ho.symm), h4⟩
    cases q : F' a with
    | none => rfl
    | some o' =>
      rcases e.new a o' q with r | r
      · rw [h2] at r; cases r
      · rw [r] at ho; cases ho
  dist := S.dist
  iol := S.iol
  gho := fun a d h => by
    obtain ⟨h2, h3, h4⟩ := S.gho a d h
    obtain ⟨o, ho⟩ := h3.some
    refine ⟨?_, h3.mono e.sub ((e.keep _ _ ho).trans ho.symm), h4⟩
    cases q : F' a with
    | none => rfl
    | some o' =>
      rcases e.new a o' q with r | r
      · rw [h2] at r; cases r
      · rw [r] at ho; cases ho
  ghd := S.ghd
  ghn := S.ghn
  ios := S.ios
/-- an own slot's object is written -/
theorem SRo.write (S : SRo K C c z F env σ H) {i : Nat} {d d' : D} {a : Addr} {o : HO} (hi : i ∈ c.O) (hd : gt env i = some d) (ha : σ[i]? = some (some (.ref a))) (ho : Own K C F (upd H a o) a d') :
    SRo K C c z F (st env i (some d')) σ (upd H a o) := by
  obtain ⟨a1, h1, fa, o1, z1⟩ := S.own i d hd hi
  rw [ha] at h1; cases h1
  have lt : i < env.length := gt_lt hd
  have same : ∀ b u, F b = some u → b ≠ a := fun b u h q => by subst q; rw [fa] at h; cases h
  refine ⟨fun b u h => by rw [upd_ne (same b u h)]; exact S.sub _ _ h, S.f0, S.new, fun b u h hb => ?_, by rw [st_length]; exact S.len, by rw [st_length]; exact S.num, fun j e h hj => ?_, fun j e h hj => ?_, fun j k dj dk b hj hk hjk ej ek sj sk => ?_, S.iol, fun b e h => ?_, fun b e j e2 h hj ej => ?_, S.ghn, fun k j hk => ?_⟩
  · have hne : b ≠ a := by
      rintro rfl
      rcases z1 with q | ⟨_, q⟩
      · rw [h] at q; cases q
      · exact hb q
    rw [upd_ne hne]; exact S.keep b u h hb
  · have hij : i ≠ j := fun q => hj (q ▸ hi)
    rw [gt_st_ne hij] at h
    exact S.pur j e h hj
  · by_cases hij : i = j
    · subst hij
      rw [gt_st lt] at h; cases h
      exact ⟨a, ha, fa, ho, z1⟩
    · rw [gt_st_ne hij] at h
      obtain ⟨b, h1, h2, h3, h4⟩ := S.own j e h hj
      have hne : b ≠ a := by
        rintro rfl
        exact S.dist i j d e b hi hj hij hd h ha h1
      exact ⟨b, h1, h2, h3.mono (Same.refl _) (upd_ne hne), h4⟩
  · have old : ∀ m e, gt (st env i (some d')) m = some e → ∃ e', gt env m = some e' := fun m e h => by
      by_cases him : i = m
      · subst him; exact ⟨d, hd⟩
      · rw [gt_st_ne him] at h; exact ⟨e, h⟩
    obtain ⟨e1, h1⟩ := old j dj ej
    obtain ⟨e2, h2⟩ := old k dk ek
    exact S.dist j k e1 e2 b hj hk hjk h1 h2 sj sk
  · obtain ⟨h1, h2, h3⟩ := S.gho b e h
    have hne : b ≠ a := fun q => S.ghd b e i d h hi hd (q ▸ ha)
    exact ⟨h1, h2.mono (Same.refl _) (upd_ne hne), h3⟩
  · by_cases hij : i = j
    · subst hij; exact S.ghd b e i d h hi hd
    · rw [gt_st_ne hij] at ej; exact S.ghd b e j e2 h hj ej
  · obtain ⟨h1, b, e, h2, h3, h4⟩ := S.ios k j hk
    refine ⟨h1, b, ?_⟩
    by_cases hij : i = j
    · subst hij; exact ⟨d', h2, h3, gt_st lt⟩
    · exact ⟨e, h2, h3, by rw [gt_st_ne hij]; exact h4⟩
/-- an own slot is given away as data -/
theorem SRo.freeze (S : SRo K C c z F env σ H) {i : Nat} {d : D} {a : Addr} {o o' : HO} (hi : i ∈ c.O) (hio : i ∉ c.io) (hd : gt env i = some d) (ha : σ[i]? = some (some (.ref a))) (ho : H a = some o) (fz : Fz o o') :
    SRo K C c z (upd F a o') (st env i none) σ (upd H a o') ∧ Same F (upd F a o') ∧ Rp K C (upd F a o') (.ref a) d := by
  obtain ⟨a1, h1, fa, o1, z1⟩ := S.own i d hd hi
  rw [ha] at h1; cases h1
  have sF : Same F (upd F a o') := same_upd fa
  have za : z.H0 a = none := z1.elim id fun q => absurd q.1 hio
  refine ⟨⟨fun b u h => ?_, S.f0.trans sF, fun b u h => ?_, fun b u h hb => ?_, by rw [st_length]; exact S.len, by rw [st_length]; exact S.num, fun j e h hj => ?_, fun j e h hj => ?_, fun j k dj dk b hj hk hjk ej ek sj sk => ?_, S.iol, fun b e h => ?_, fun b e j e2 h hj ej => S.ghd b e j e2 h hj (gt_st_none ej).2, S.ghn, fun k j hk => ?_⟩, sF, o1.froze sF ho fz upd_same⟩
  · by_cases hb : b = a
    · subst hb; rw [upd_same] at h ⊢; exact h
    · rw [upd_ne hb] at h ⊢; exact S.sub _ _ h
  · by_cases hb : b = a
    · subst hb; exact .inr za
    · rw [upd_ne hb] at h; exact S.new _ _ h
  · have hne : b ≠ a := by rintro rfl; rw [za] at h; cases h
    rw [upd_ne hne]; exact S.keep b u h hb
  · obtain ⟨_, h⟩ := gt_st_none h
    obtain ⟨v, h1, h2⟩ := S.pur j e h hj
    exact ⟨v, h1, h2.mono sF⟩
  · obtain ⟨hij, h⟩ := gt_st_none h
    obtain ⟨b, h1, h2, h3, h4⟩ := S.own j e h hj
    have hne : b ≠ a := by
      rintro rfl
      exact S.dist i j d e b hi hj hij hd h ha h1
    exact ⟨b, h1, by rw [upd_ne hne]; exact h2, h3.mono sF (upd_ne hne), h4⟩
  · exact S.dist j k dj dk b hj hk hjk (gt_st_none ej).2 (gt_st_none ek).2 sj sk
  · obtain ⟨h1, h2, h3⟩ := S.gho b e h
    have hne : b ≠ a := fun q => S.ghd b e i d h hi hd (q ▸ ha)
    exact ⟨by rw [upd_ne hne]; exact h1, h2.mono sF (upd_ne hne), h3⟩
  · obtain ⟨h1, b, e, h2, h3, h4⟩ := S.ios k j hk
    have hij : i ≠ j := fun q => hio (q ▸ List.mem_of_getElem? hk)
    exact ⟨h1, b, e, h2, h3, by rw [gt_st_ne hij]; exact h4⟩
/-- a plain slot is stored -/
theorem SRo.setP (S : SRo K C c z F env σ H) {i : Nat} {d : D} {v : V} (hi : i ∉ c.O) (ln : i < c.n) (r : Rp K C F v d) : SRo K C c z F (st env i (some d)) (σ.set i (some v)) H := by
  have le : i < env.length := by rw [S.num]; exact ln
  have lt : i < σ.length := by rw [← S.len]; exact le
  refine ⟨S.sub, S.f0, S.new, S.keep, by rw [st_length, List.length_set]; exact S.len, by rw [st_length]; exact S.num, fun j e h hj => ?_, fun j e h hj => ?_, fun j k dj dk b hj hk hjk ej ek sj sk => ?_, S.iol, S.gho, fun b e j e2 h hj ej => by
      have h1 : i ≠ j := fun q => hi (q ▸ hj)
      rw [gt_st_ne h1] at ej
      rw [List.getElem?_set_ne h1]
      exact S.ghd b e j e2 h hj ej, S.ghn, fun k j hk => ?_⟩
  · by_cases hij : i = j
    · subst hij
      rw [gt_st le] at h; cases h
      exact ⟨v, List.getElem?_set_self lt, r⟩
    · rw [gt_st_ne hij] at h
      rw [List.getElem?_set_ne hij]
      exact S.pur j e h hj
  · have hij : i ≠ j := fun q => hi (q ▸ hj)
    rw [gt_st_ne hij] at h
    rw [List.getElem?_set_ne hij]
    exact S.own j e h hj
  · have h1 : i ≠ j := fun q => hi (q ▸ hj)
    have h2 : i ≠ k := fun q => hi (q ▸ hk)
    rw [gt_st_ne h1] at ej
    rw [gt_st_ne h2] at ek
    rw [List.getElem?_set_ne h1] at sj
    rw [List.getElem?_set_ne h2] at sk
    exact S.dist j k dj dk b hj hk hjk ej ek sj sk
  · obtain ⟨h1, b, e, h2, h3, h4⟩ := S.ios k j hk
    have hij : i ≠ j := fun q => hi (q ▸ h1)
    exact ⟨h1, b, e, h2, by rw [List.getElem?_set_ne hij]; exact h3, by rw [gt_st_ne hij]; exact h4⟩
/-- an own slot is stored: a new object -/
theorem SRo.setO (S : SRo K C c z F env σ H) {i : Nat} {d : D} {a : Addr} (hi : i ∈ c.O) (hio : i ∉ c.io) (ln : i < c.n) (fa : F a = none) (za : z.H0 a = none) (ho : Own K C F H a d) (ap : ∀ j e, j ∈ c.O → gt env j = some e → σ[j]? ≠ some (some (.ref a))) (ng : ∀ e, (a, e) ∉ z.gh) :
    SRo K C c z F (st env i (some d)) (σ.set i (some (.ref a))) H := by
  have le : i < env.length := by rw [S.num]; exact ln
  have lt : i < σ.length := by rw [← S.len]; exact le
  refine ⟨S.sub, S.f0, S.new, S.keep, by rw [st_length, List.length_set]; exact S.len, by rw [st_length]; exact S.num, fun j e h hj => ?_, fun j e h hj => ?_, fun j k dj dk b hj hk hjk ej ek sj sk => ?_, S.iol, S.gho, fun b e j e2 h hj ej => by
      by_cases h1 : i = j
      · subst h1
        rw [List.getElem?_set_self lt]
        intro q; cases q
        exact ng e h
      · rw [gt_st_ne h1] at ej
        rw [List.getElem?_set_ne h1]
        exact S.ghd b e j e2 h hj ej, S.ghn, fun k j hk => ?_⟩
  · have hij : i ≠ j := fun q => hj (q ▸ hi)
    rw [gt_st_ne hij] at h
    rw [List.getElem?_set_ne hij]
    exact S.pur j e h hj
  · by_cases hij : i = j
    · subst hij
      rw [gt_st le] at h; cases h
      exact ⟨a, List.getElem?_set_self lt, fa, ho, .inl za⟩
    · rw [gt_st_ne hij] at h
      rw [List.getElem?_set_ne hij]
      exact S.own j e h hj
  · by_cases h1 : i = j
    · subst h1
      have h2 : i ≠ k := hjk
      rw [List.getElem?_set_self lt] at sj; cases sj
      rw [gt_st_ne h2] at ek
      rw [List.getElem?_set_ne h2] at sk
      exact ap k dk hk ek sk
    · rw [gt_st_ne h1] at ej
      rw [List.getElem?_set_ne h1] at sj
      by_cases h2 : i = k
      · subst h2
        rw [List.getElem?_set_self lt] at sk; cases sk
        exact ap j dj hj ej sj
      · rw [gt_st_ne h2] at ek
        rw [List.getElem?_set_ne h2] at sk
        exact S.dist j k dj dk b hj hk hjk ej ek sj sk
  · obtain ⟨h1, b, e, h2, h3, h4⟩ := S.ios k j hk
    have hij : i ≠ j := fun q => hio (q ▸ List.mem_of_getElem? hk)
    exact ⟨h1, b, e, h2, by rw [List.getElem?_set_ne hij]; exact h3, by rw [gt_st_ne hij]; exact h4⟩
/-- an object of nobody's is given away as data -/
theorem SRo.freezeN (S : SRo K C c z F env σ H) {d : D} {a : Addr} {o o' : HO} (fa : F a = none) (za : z.H0 a = none) (ow : Own K C F H a d) (ho : H a = some o) (fz : Fz o o') (ap : ∀ j e, j ∈ c.O → gt env j = some e → σ[j]? ≠ some (some (.ref a))) (ng : ∀ e, (a, e) ∉ z.gh) :
    SRo K C c z (upd F a o') env σ (upd H a o') ∧ Same F (upd F a o') ∧ Rp K C (upd F a o') (.ref a) d := by
  have sF : Same F (upd F a o') := same_upd fa
  refine ⟨⟨fun b u h => ?_, S.f0.trans sF, fun b u h => ?_, fun b u h hb => ?_, S.len, S.num, fun j e h hj => ?_, fun j e h hj => ?_, S.dist, S.iol, fun b e h => ?_, S.ghd, S.ghn, S.ios⟩, sF, ow.froze sF ho fz upd_same⟩
  · by_cases hb : b = a
    · subst hb; rw [upd_same] at h ⊢; exact h
    · rw [upd_ne hb] at h ⊢; exact S.sub _ _ h
  · by_cases hb : b = a
    · subst hb; exact .inr za
    · rw [upd_ne hb] at h; exact S.new _ _ h
  · have hne : b ≠ a := by rintro rfl; rw [za] at h; cases h
    rw [upd_ne hne]; exact S.keep b u h hb
  · obtain ⟨v, h1, h2⟩ := S.pur j e h hj
    exact ⟨v, h1, h2.mono sF⟩
  · obtain ⟨b, h1, h2, h3, h4⟩ := S.own j e h hj
    have hne : b ≠ a := by
      rintro rfl
      exact ap j e hj h h1
    exact ⟨b, h1, by rw [upd_ne hne]; exact h2, h3.mono sF (upd_ne hne), h4⟩
  · obtain ⟨h1, h2, h3⟩ := S.gho b e h
    have hne : b ≠ a := fun q => ng e (q ▸ h)
    exact ⟨by rw [upd_ne hne]; exact h1, h2.mono sF (upd_ne hne), h3⟩
theorem SRo.freezeL (S : SRo K C c z F env σ H) {ds : List D} {a : Addr} (fa : F a = none) (za : z.H0 a = none) (ow : Own K C F H a (.lst ds)) (ap : ∀ j e, j ∈ c.O → gt env j = some e → σ[j]? ≠ some (some (.ref a))) (ng : ∀ e, (a, e) ∉ z.gh) :
    ∃ o, SRo K C c z (upd F a o) env σ H ∧ Same F (upd F a o) ∧ Rp K C (upd F a o) (.ref a) (.lst ds) := by
  have ow' := ow
  obtain ⟨vs, q, _, _⟩ := ow'
  obtain ⟨h1, h2, h3⟩ := S.freezeN fa za ow q (o' := .lst vs) rfl ap ng
  rw [upd_self q] at h1
  exact ⟨_, h1, h2, h3⟩
/-- a new object is kept in mind while more is reckoned -/
theorem SRo.ghost (S : SRo K C c z F env σ H) {d : D} {a : Addr} (fa : F a = none) (za : z.H0 a = none) (ow : Own K C F H a d) (ap : ∀ j e, j ∈ c.O → gt env j = some e → σ[j]? ≠ some (some (.ref a))) (ng : ∀ e, (a, e) ∉ z.gh) :
    SRo K C c { z with gh := (a, d) :: z.gh } F env σ H :=
  ⟨S.sub, S.f0, S.new, S.keep, S.len, S.num, S.pur, S.own, S.dist, S.iol, fun b e h => by
    rcases List.mem_cons.mp h with q | q
    · cases q; exact ⟨fa, ow, za⟩
    · exact S.gho b e q, fun b e j e2 h hj ej => by
    rcases List.mem_cons.mp h with q | q
    · cases q; exact ap j e2 hj ej
    · exact S.ghd b e j e2 q hj ej, by
    rw [List.map_cons, List.nodup_cons]
    refine ⟨fun h => ?_, S.ghn⟩
    obtain ⟨p, hp, e⟩ := List.mem_map.mp h
    have e' : p.1 = a := e
    exact ng p.2 (by rw [← e']; exact hp), S.ios⟩
theorem SRo.unghost {d : D} {a : Addr} {gs : List (Addr × D)} (S : SRo K C c { z with gh := (a, d) :: gs } F env σ H) :
    SRo K C c { z with gh := gs } F env σ H ∧ F a = none ∧ z.H0 a = none ∧ Own K C F H a d ∧ (∀ j e, j ∈ c.O → gt env j = some e → σ[j]? ≠ some (some (.ref a))) ∧ ∀ e, (a, e) ∉ gs := by
  obtain ⟨h1, h2, h3⟩ := S.gho a d (List.mem_cons_self ..)
  have nd := S.ghn
  rw [List.map_cons, List.nodup_cons] at nd
  refine ⟨⟨S.sub, S.f0, S.new, S.keep, S.len, S.num, S.pur, S.own, S.dist, S.iol, fun b e h => S.gho b e (List.mem_cons_of_mem _ h), fun b e j e2 h hj ej => S.ghd b e j e2 (List.mem_cons_of_mem _ h) hj ej, nd.2, S.ios⟩, h1, h3, h2, fun j e hj ej => S.ghd a d j e (List.mem_cons_self ..) hj ej, fun e h => nd.1 (List.mem_map.mpr ⟨_, h, rfl⟩)⟩
end

/-! ### cells: mutable lists that data points to (ci: the caller's, cn: made here); cell j stands at C.cel j -/
def Cs.cs (c : Cs) : List Nat := c.ci ++ c.cn
def Cs.ixi (c : Cs) : List Nat := (List.range c.ci.length).map fun k => c.n + k
def Cs.ixs (c : Cs) : List Nat := (List.range c.cs.length).map fun k => c.n + k
def Cs.x (c : Cs) : Cs := ⟨c.n + c.cs.length, c.O ++ c.ixs, c.io ++ c.ixi, [], []⟩
def cells (C : CA) (c : Cs) : St := c.cs.map fun j => (C.cel j).map V.ref
/-- nothing of the def's own stands at a -/
def Apt (C : CA) (c : Cs) (env : Env) (σ : St) (a : Addr) : Prop := ∀ j e, j ∈ c.x.O → gt env j = some e → (σ ++ cells C c)[j]? ≠ some (some (.ref a))
structure SR (K : PySem.W.Frag) (C : CA) (c : Cs) (z : Zn) (F : Hp) (env : Env) (σ : St) (H : Hp) : Prop where
  b : SRo K C c.x z F env (σ ++ cells C c) H
  ln : σ.length = c.n
  hO : ∀ i ∈ c.O, i < c.n
  hio : ∀ i ∈ c.io, i ∈ c.O
section
variable {K : PySem.W.Frag} {C : CA} {c : Cs} {z : Zn} {F F' : Hp} {env env' : Env} {σ : St} {H H' : Hp}
theorem ixs_ge {c : Cs} {i : Nat} (h : i ∈ c.ixs) : c.n ≤ i := by
  obtain ⟨k, _, e⟩ := List.mem_map.mp h
  omega
theorem ixi_ge {c : Cs} {i : Nat} (h : i ∈ c.ixi) : c.n ≤ i := by
  obtain ⟨k, _, e⟩ := List.mem_map.mp h
  omega
theorem x_mem {i : Nat} (h : i ∈ c.O) : i ∈ c.x.O := List.mem_append_left _ h
theorem x_notO {i : Nat} (h : i ∉ c.O) (hn : i < c.n) : i ∉ c.x.O := fun q => (List.mem_append.mp q).elim h fun z => by have := ixs_ge z; omega
theorem x_notio {i : Nat} (h : i ∉ c.io) (hn : i < c.n) : i ∉ c.x.io := fun q => (List.mem_append.mp q).elim h fun z => by have := ixi_ge z; omega
theorem x_io {i : Nat} (h : i ∈ c.x.io) (hn : i < c.n) : i ∈ c.io := (List.mem_append.mp h).elim id fun z => by have := ixi_ge z; omega
theorem SR.at (S : SR K C c z F env σ H) {i : Nat} (h : i < c.n) : (σ ++ cells C c)[i]? = σ[i]? := List.getElem?_append_left (by rw [S.ln]; exact h)
theorem SR.sub (S : SR K C c z F env σ H) : Same F H := S.b.sub
theorem SR.f0 (S : SR K C c z F env σ H) : Same z.F0 F := S.b.f0
theorem SR.new (S : SR K C c z F env σ H) : ∀ b o, F b = some o → z.F0 b = some o ∨ z.H0 b = none := S.b.new
theorem SR.keep (S : SR K C c z F env σ H) : ∀ b o, z.H0 b = some o → b ∉ z.ioA → H b = some o := S.b.keep
theorem SR.num (S : SR K C c z F env σ H) : env.length = c.x.n := S.b.num
theorem SR.gho (S : SR K C c z F env σ H) : ∀ a d, (a, d) ∈ z.gh → F a = none ∧ Own K C F H a d ∧ z.H0 a = none := S.b.gho
theorem SR.ghn (S : SR K C c z F env σ H) : (z.gh.map (·.1)).Nodup := S.b.ghn
theorem SR.pur (S : SR K C c z F env σ H) (i : Nat) (d : D) (h : gt env i = some d) (hi : i ∉ c.O) (hn : i < c.n) : ∃ v, σ[i]? = some (some v) ∧ Rp K C F v d := by
  obtain ⟨v, h1, h2⟩ := S.b.pur i d h (x_notO hi hn)
  rw [S.at hn] at h1
  exact ⟨v, h1, h2⟩
theorem SR.own (S : SR K C c z F env σ H) (i : Nat) (d : D) (h : gt env i = some d) (hi : i ∈ c.O) : ∃ a, σ[i]? = some (some (.ref a)) ∧ F a = none ∧ Own K C F H a d ∧ (z.H0 a = none ∨ i ∈ c.io ∧ a ∈ z.ioA) := by
  obtain ⟨a, h1, h2, h3, h4⟩ := S.b.own i d h (x_mem hi)
  rw [S.at (S.hO i hi)] at h1
  exact ⟨a, h1, h2, h3, h4.elim .inl fun q => .inr ⟨x_io q.1 (S.hO i hi), q.2⟩⟩
theorem SR.dist (S : SR K C c z F env σ H) (i j : Nat) (di dj : D) (a : Addr) (hi : i ∈ c.O) (hj : j ∈ c.O) (hij : i ≠ j) (ei : gt env i = some di) (ej : gt env j = some dj) (si : σ[i]? = some (some (.ref a))) : σ[j]? ≠ some (some (.ref a)) := by
  have := S.b.dist i j di dj a (x_mem hi) (x_mem hj) hij ei ej (by rw [S.at (S.hO i hi)]; exact si)
  rwa [S.at (S.hO j hj)] at this
theorem SR.ghd (S : SR K C c z F env σ H) (a : Addr) (d : D) (i : Nat) (e : D) (h : (a, d) ∈ z.gh) (hi : i ∈ c.O) (ei : gt env i = some e) : σ[i]? ≠ some (some (.ref a)) := by
  have := S.b.ghd a d i e h (x_mem hi) ei
  rwa [S.at (S.hO i hi)] at this
theorem SR.ios (S : SR K C c z F env σ H) (k i : Nat) (h : c.io[k]? = some i) : i ∈ c.O ∧ ∃ a d, z.ioA[k]? = some a ∧ σ[i]? = some (some (.ref a)) ∧ gt env i = some d := by
  have hO := S.hio i (List.mem_of_getElem? h)
  have lt := (List.getElem?_eq_some_iff.mp h).1
  obtain ⟨_, a, d, h1, h2, h3⟩ := S.b.ios k i (by show (c.io ++ c.ixi)[k]? = _; rw [List.getElem?_append_left lt]; exact h)
  rw [S.at (S.hO i hO)] at h2
  exact ⟨hO, a, d, h1, h2, h3⟩
theorem SR.stands (S : SR K C c z F env σ H) {b : Addr} {o : HO} (h0 : z.H0 b = some o) : ∃ o', H b = some o' := S.b.stands h0
theorem SR.free0 (S : SR K C c z F env σ H) {b : Addr} (h : H b = none) : z.H0 b = none := S.b.free0 h
theorem SR.ext (S : SR K C c z F env σ H) (e : Ext F H F' H') : SR K C c z F' env σ H' := ⟨S.b.ext e, S.ln, S.hO, S.hio⟩
theorem SR.write (S : SR K C c z F env σ H) {i : Nat} {d d' : D} {a : Addr} {o : HO} (hi : i ∈ c.O) (hd : gt env i = some d) (ha : σ[i]? = some (some (.ref a))) (ho : Own K C F (upd H a o) a d') :
    SR K C c z F (st env i (some d')) σ (upd H a o) := ⟨S.b.write (x_mem hi) hd (by rw [S.at (S.hO i hi)]; exact ha) ho, S.ln, S.hO, S.hio⟩
theorem SR.freeze (S : SR K C c z F env σ H) {i : Nat} {d : D} {a : Addr} {o o' : HO} (hi : i ∈ c.O) (hio : i ∉ c.io) (hd : gt env i = some d) (ha : σ[i]? = some (some (.ref a))) (ho : H a = some o) (fz : Fz o o') :
    SR K C c z (upd F a o') (st env i none) σ (upd H a o') ∧ Same F (upd F a o') ∧ Rp K C (upd F a o') (.ref a) d := by
  obtain ⟨h1, h2, h3⟩ := S.b.freeze (x_mem hi) (x_notio hio (S.hO i hi)) hd (by rw [S.at (S.hO i hi)]; exact ha) ho fz
  exact ⟨⟨h1, S.ln, S.hO, S.hio⟩, h2, h3⟩
theorem SR.setC (S : SR K C c z F env σ H) {i : Nat} {v : Option V} (ln : i < c.n) : (σ ++ cells C c).set i v = σ.set i v ++ cells C c := List.set_append_left _ _ (by rw [S.ln]; exact ln)
theorem SR.setP (S : SR K C c z F env σ H) {i : Nat} {d : D} {v : V} (hi : i ∉ c.O) (ln : i < c.n) (r : Rp K C F v d) : SR K C c z F (st env i (some d)) (σ.set i (some v)) H := by
  have h := S.b.setP (x_notO hi ln) (Nat.lt_of_lt_of_le ln (Nat.le_add_right _ _)) r
  rw [S.setC ln] at h
  exact ⟨h, by rw [List.length_set]; exact S.ln, S.hO, S.hio⟩
theorem SR.setO (S : SR K C c z F env σ H) {i : Nat} {d : D} {a : Addr} (hi : i ∈ c.O) (hio : i ∉ c.io) (ln : i < c.n) (fa : F a = none) (za : z.H0 a = none) (ho : Own K C F H a d) (ap : Apt C c env σ a) (ng : ∀ e, (a, e) ∉ z.gh) :
    SR K C c z F (st env i (some d)) (σ.set i (some (.ref a))) H := by
  have h := S.b.setO (x_mem hi) (x_notio hio ln) (Nat.lt_of_lt_of_le ln (Nat.le_add_right _ _)) fa za ho ap ng
  rw [S.setC ln] at h
  exact ⟨h, by rw [List.length_set]; exact S.ln, S.hO, S.hio⟩
theorem SR.freezeN (S : SR K C c z F env σ H) {d : D} {a : Addr} {o o' : HO} (fa : F a = none) (za : z.H0 a = none) (ow : Own K C F H a d) (ho : H a = some o) (fz : Fz o o') (ap : Apt C c env σ a) (ng : ∀ e, (a, e) ∉ z.gh) :
    SR K C c z (upd F a o') env σ (upd H a o') ∧ Same F (upd F a o') ∧ Rp K C (upd F a o') (.ref a) d := by
  obtain ⟨h1, h2, h3⟩ := S.b.freezeN fa za ow ho fz ap ng
  exact ⟨⟨h1, S.ln, S.hO, S.hio⟩, h2, h3⟩
theorem SR.freezeL (S : SR K C c z F env σ H) {ds : List D} {a : Addr} (fa : F a = none) (za : z.H0 a = none) (ow : Own K C F H a (.lst ds)) (ap : Apt C c env σ a) (ng : ∀ e, (a, e) ∉ z.gh) :
    ∃ o, SR K C c z (upd F a o) env σ H ∧ Same F (upd F a o) ∧ Rp K C (upd F a o) (.ref a) (.lst ds) := by
  obtain ⟨o, h1, h2, h3⟩ := S.b.freezeL fa za ow ap ng
  exact ⟨o, ⟨h1, S.ln, S.hO, S.hio⟩, h2, h3⟩
theorem SR.ghost (S : SR K C c z F env σ H) {d : D} {a : Addr} (fa : F a = none) (za : z.H0 a = none) (ow : Own K C F H a d) (ap : Apt C c env σ a) (ng : ∀ e, (a, e) ∉ z.gh) :
    SR K C c { z with gh := (a, d) :: z.gh } F env σ H := ⟨S.b.ghost fa za ow ap ng, S.ln, S.hO, S.hio⟩
theorem SR.unghost {d : D} {a : Addr} {gs : List (Addr × D)} (S : SR K C c { z with gh := (a, d) :: gs } F env σ H) :
    SR K C c { z with gh := gs } F env σ H ∧ F a = none ∧ z.H0 a = none ∧ Own K C F H a d ∧ Apt C c env σ a ∧ ∀ e, (a, e) ∉ gs := by
  obtain ⟨h1, h2, h3, h4, h5, h6⟩ := S.b.unghost
  exact ⟨⟨h1, S.ln, S.hO, S.hio⟩, h2, h3, h4, h5, h6⟩
theorem SR.aptP (S : SR K C c z F env σ H) {i : Nat} {d : Option D} {v : Option V} {b : Addr} (hi : i ∉ c.O) (ln : i < c.n) (ap : Apt C c env σ b) : Apt C c (st env i d) (σ.set i v) b := fun l e hl hd => by
  have hil : i ≠ l := fun q => x_notO hi ln (q ▸ hl)
  rw [gt_st_ne hil] at hd
  rw [← S.setC ln, List.getElem?_set_ne hil]
  exact ap l e hl hd
theorem SR.aptO (S : SR K C c z F env σ H) {i : Nat} {d : Option D} {a b : Addr} (ln : i < c.n) (hba : b ≠ a) (ap : Apt C c env σ b) : Apt C c (st env i d) (σ.set i (some (.ref a))) b := fun l e hl hd => by
  rw [← S.setC ln]
  by_cases hil : i = l
  · subst hil
    have lt : i < (σ ++ cells C c).length := by rw [List.length_append, S.ln]; omega
    rw [List.getElem?_set_self lt]
    intro q; cases q; exact hba rfl
  · rw [gt_st_ne hil] at hd
    rw [List.getElem?_set_ne hil]
    exact ap l e hl hd
/-! no cells -/
theorem x_nil (h1 : c.ci = []) (h2 : c.cn = []) : c.x = c := by
  cases c
  cases h1
  cases h2
  simp [Cs.x, Cs.cs, Cs.ixs, Cs.ixi]
theorem cells_nil (h1 : c.ci = []) (h2 : c.cn = []) : cells C c = [] := by
  unfold cells Cs.cs
  rw [h1, h2]
  rfl
theorem SR.o (S : SR K C c z F env σ H) (h1 : c.ci = []) (h2 : c.cn = []) : SRo K C c z F env σ H := by
  have h := S.b
  rw [x_nil h1 h2, cells_nil h1 h2, List.append_nil] at h
  exact h
theorem SRo.up (S : SRo K C c z F env σ H) (h1 : c.ci = []) (h2 : c.cn = []) (hO : ∀ i ∈ c.O, i < c.n) : SR K C c z F env σ H :=
  ⟨by rw [x_nil h1 h2, cells_nil h1 h2, List.append_nil]; exact S, by rw [← S.len, S.num], hO, fun i hi => by
    obtain ⟨k, hk⟩ := List.getElem?_of_mem hi
    exact (S.ios k i hk).1⟩
end
end DL

namespace DL
open PySem L2

theorem PE.imp {X : Cx} {e : Expr} {t t' : TE} (h : PE X e t) (i : ∀ σ H Q, t' σ H Q → t σ H Q) : PE X e t' := ⟨fun pins s σ H Q I q => h.run pins s σ H Q I (i σ H Q q)⟩
theorem PE.fz {X : Cx} {e : Expr} {t : TE} (h : PE X e t) : PE X e (fun σ H Q => t σ H fun v H1 => ∃ a u, H1 a = some u ∧ ∀ u', Fz u u' → Q v (upd H1 a u')) :=
  ⟨fun pins s σ H Q I q => thn (h.run pins s σ H _ I q) fun v s1 ⟨x, H1, I1, r, a, u, hu, q1⟩ => by
    obtain ⟨u', fz, I2⟩ := Inv_fz I1 hu
    exact ⟨x, _, I2, r, q1 u' fz⟩⟩
theorem PE.or {X : Cx} {e : Expr} {t t' : TE} (h : PE X e t) (h' : PE X e t') : PE X e (fun σ H Q => t σ H Q ∨ t' σ H Q) := ⟨fun pins s σ H Q I q => q.elim (h.run pins s σ H Q I) (h'.run pins s σ H Q I)⟩
theorem PT.imp {X : Cx} {e : Expr} {t t' : TT} (h : PT X e t) (i : ∀ σ H Q, t' σ H Q → t σ H Q) : PT X e t' := ⟨fun pins s σ H Q I q => h.run pins s σ H Q I (i σ H Q q)⟩
theorem PW.imp {X : Cx} {e : Expr} {t t' : TT} (h : PW X e t) (i : ∀ σ H Q, t' σ H Q → t σ H Q) : PW X e t' := ⟨fun w pins s σ H Q I q => h.run w pins s σ H Q I (i σ H Q q)⟩
theorem PA.imp {X : Cx} {e : List Expr} {t t' : TA} (h : PA X e t) (i : ∀ σ H Q, t' σ H Q → t σ H Q) : PA X e t' := ⟨fun pos pins s σ H Q I q => h.run pos pins s σ H Q I (i σ H Q q)⟩
theorem PS.imp {X : Cx} {e : Stmt} {t t' : TS} (h : PS X e t) (i : ∀ Dn σ H, t' Dn σ H → t Dn σ H) : PS X e t' := ⟨fun pins s σ H Q I q => h.run pins s σ H Q I (i Q σ H q)⟩
theorem PS.or {X : Cx} {e : Stmt} {t t' : TS} (h : PS X e t) (h' : PS X e t') : PS X e (fun Dn σ H => t Dn σ H ∨ t' Dn σ H) := ⟨fun pins s σ H Dn I q => q.elim (h.run pins s σ H Dn I) (h'.run pins s σ H Dn I)⟩
theorem PSs.imp {X : Cx} {e : List Stmt} {t t' : TS} (h : PSs X e t) (i : ∀ Dn σ H, t' Dn σ H → t Dn σ H) : PSs X e t' := ⟨fun pins s σ H Q I q => h.run pins s σ H Q I (i Q σ H q)⟩
theorem PG.imp {X : Cx} {e : Expr} {t t' : TG} (h : PG X e t) (i : ∀ v σ H Q, t' v σ H Q → t v σ H Q) : PG X e t' := ⟨fun pins s σ H v u Q I r q => h.run pins s σ H v u Q I r (i v σ H Q q)⟩

/-! ### what an expression gives: data, or a slot's own object -/
inductive B where
  | val (d : D)
  | slot (i : Nat)
def rdB (env : Env) : B → Option D
  | .val d => some d
  | .slot i => gt env i
def RB (K : PySem.W.Frag) (C : CA) (c : Cs) (F : Hp) (σ : St) (v : V) : B → Prop
  | .val d => Rp K C F v d
  | .slot i => i ∈ c.x.O ∧ (σ ++ cells C c)[i]? = some (some v)
abbrev EF := Env → Option (B × Env)
abbrev TF := Env → Option (Bool × Env)
abbrev AF := Env → Option (List B × Env)
/-- a new object's content -/
abbrev OF := Env → Option (D × Env)
inductive RBs (K : PySem.W.Frag) (C : CA) (c : Cs) (F : Hp) (σ : St) : List V → List B → Prop
  | nil : RBs K C c F σ [] []
  | cons {v : V} {vs : List V} {b : B} {bs : List B} : RB K C c F σ v b → RBs K C c F σ vs bs → RBs K C c F σ (v :: vs) (b :: bs)
section
variable {K : PySem.W.Frag} {C : CA} {c : Cs} {z : Zn} {F F' : Hp} {env env' : Env} {σ : St} {H H' : Hp}
theorem RB.mono {v : V} {b : B} (h : RB K C c F σ v b) (s : Same F F') : RB K C c F' σ v b := by
  cases b with
  | val d => exact Rp.mono s h
  | slot i => exact h
theorem RBs.mono {vs : List V} {bs : List B} (h : RBs K C c F σ vs bs) (s : Same F F') : RBs K C c F' σ vs bs := by
  induction h with
  | nil => exact .nil
  | cons h _ ih => exact .cons (h.mono s) ih
theorem RB.rb (S : SR K C c z F env σ H) {v : V} {b : B} {d : D} (h : RB K C c F σ v b) (e : rdB env b = some d) : Rb K C F H v d := by
  cases b with
  | val d' => cases e; exact .inl h
  | slot i =>
    obtain ⟨hO, hv⟩ := h
    obtain ⟨a, h1, _, h3, _⟩ := S.b.own i d e hO
    rw [hv] at h1; cases h1
    exact .inr ⟨a, rfl, h3⟩
end

def tE (K : PySem.W.Frag) (C : CA) (c : Cs) (f : EF) : TE := fun σ H Q => ∃ z F env b env', SR K C c z F env σ H ∧ f env = some (b, env') ∧
  ∀ v F' H', Same F F' → SR K C c z F' env' σ H' → RB K C c F' σ v b → Q v H'
def tT (K : PySem.W.Frag) (C : CA) (c : Cs) (f : TF) : TT := fun σ H Q => ∃ z F env b env', SR K C c z F env σ H ∧ f env = some (b, env') ∧
  ∀ F' H', Same F F' → SR K C c z F' env' σ H' → Q b H'
def tAr (K : PySem.W.Frag) (C : CA) (c : Cs) (f : AF) : TA := fun σ H Q => ∃ z F env b env', SR K C c z F env σ H ∧ f env = some (b, env') ∧
  ∀ vs F' H', Same F F' → SR K C c z F' env' σ H' → RBs K C c F' σ vs b → Q vs H'
/-- a new object, nobody's yet -/
def tO (K : PySem.W.Frag) (C : CA) (c : Cs) (f : OF) : TE := fun σ H Q => ∃ z F env d env', SR K C c z F env σ H ∧ f env = some (d, env') ∧
  ∀ a F' H', Same F F' → SR K C c z F' env' σ H' → F' a = none → z.H0 a = none → Own K C F' H' a d → (Apt C c env' σ a) → (∀ e, (a, e) ∉ z.gh) → Q (.ref a) H'
def DE (X : Cx) (C : CA) (c : Cs) (e : Expr) (f : EF) : Prop := PE X e (tE X.K C c f)
def DT (X : Cx) (C : CA) (c : Cs) (e : Expr) (f : TF) : Prop := PT X e (tT X.K C c f)
def DW (X : Cx) (C : CA) (c : Cs) (e : Expr) (f : TF) : Prop := PW X e (tT X.K C c f)
def DA (X : Cx) (C : CA) (c : Cs) (e : List Expr) (f : AF) : Prop := PA X e (tAr X.K C c f)
def DO (X : Cx) (C : CA) (c : Cs) (e : Expr) (f : OF) : Prop := PE X e (tO X.K C c f)

/-! ### names, constants -/
section
variable {X : Cx} {C : CA} {c : Cs} {a b : Expr} {f g : EF} {pos : Pos}
def fV (i : Nat) : EF := fun env => (gt env i).bind fun d => some (.val d, env)
def fS (i : Nat) : EF := fun env => (gt env i).bind fun _ => some (.slot i, env)
def fM (i : Nat) : EF := fun env => (gt env i).bind fun d => some (.val d, st env i none)
def fC (d : D) : EF := fun env => some (.val d, env)
theorem de_var (i : Nat) {x : Str} (hO : i ∉ c.O := by decide) (hn : i < c.n := by decide) (hN : X.N[i]? = some x := by rfl) (hv : Vis X.env.scope x := by first | exact Or.inl rfl | exact Or.inr (Or.inl rfl) | exact Or.inr (Or.inr rfl)) (hd : (x == ("__debug__" : Str)) = false := by decide)
    (hcd : (x == ("__classdict__" : Str)) = false := by decide) : DE X C c (.Name x pos) (fV i) :=
  PE.imp (pe_var hN hv hd hcd) fun σ H Q ⟨z, F, env, b, env', S, e, k⟩ => by
    obtain ⟨d, h1, e2⟩ := Option.bind_eq_some_iff.mp e
    cases e2
    obtain ⟨v, hv, r⟩ := S.pur i d h1 hO hn
    exact ⟨v, hv, k v F H (Same.refl _) S r⟩
theorem de_slot (i : Nat) {x : Str} (hO : i ∈ c.O := by decide) (hN : X.N[i]? = some x := by rfl) (hv : Vis X.env.scope x := by first | exact Or.inl rfl | exact Or.inr (Or.inl rfl) | exact Or.inr (Or.inr rfl)) (hd : (x == ("__debug__" : Str)) = false := by decide)
    (hcd : (x == ("__classdict__" : Str)) = false := by decide) : DE X C c (.Name x pos) (fS i) :=
  PE.imp (pe_var hN hv hd hcd) fun σ H Q ⟨z, F, env, b, env', S, e, k⟩ => by
    obtain ⟨d, h1, e2⟩ := Option.bind_eq_some_iff.mp e
    cases e2
    obtain ⟨a, hv, _⟩ := S.own i d h1 hO
    exact ⟨_, hv, k _ F H (Same.refl _) S ⟨x_mem hO, by rw [S.at (S.hO i hO)]; exact hv⟩⟩
/-- the slot's object is given away as data -/
theorem de_move (i : Nat) {x : Str} (hO : i ∈ c.O := by decide) (hio : i ∉ c.io := by decide) (hN : X.N[i]? = some x := by rfl) (hv : Vis X.env.scope x := by first | exact Or.inl rfl | exact Or.inr (Or.inl rfl) | exact Or.inr (Or.inr rfl)) (hd : (x == ("__debug__" : Str)) = false := by decide)
    (hcd : (x == ("__classdict__" : Str)) = false := by decide) : DE X C c (.Name x pos) (fM i) :=
  PE.imp (PE.fz (pe_var hN hv hd hcd)) fun σ H Q ⟨z, F, env, b, env', S, e, k⟩ => by
    obtain ⟨d, h1, e2⟩ := Option.bind_eq_some_iff.mp e
    cases e2
    obtain ⟨a, hv, _, ho, _⟩ := S.own i d h1 hO
    obtain ⟨o, hao⟩ := ho.some
    refine ⟨_, hv, a, o, hao, fun o' fz => ?_⟩
    obtain ⟨S', s', r⟩ := S.freeze hO hio h1 hv hao fz
    exact k _ _ _ s' S' r
theorem de_c {v : V} {d : D} {e : Expr} (h : PE X e (tC v)) (r : ∀ F, Rp X.K C F v d) : DE X C c e (fC d) :=
  PE.imp h fun σ H Q ⟨z, F, env, b, env', S, e, k⟩ => by
    cases e
    exact k v F H (Same.refl _) S (r F)
theorem de_int {i : Int} {j : Nat} : DE X C c (.Constant (.int i) j pos) (fC (.int i)) := de_c pe_int fun _ => .int i
theorem de_bl {i : Bool} {j : Nat} : DE X C c (.Constant (.bool i) j pos) (fC (.bl i)) := de_c pe_bl fun _ => .bl i
theorem de_str {i : Str} {j : Nat} : DE X C c (.Constant (.str i) j pos) (fC (.str i)) := de_c pe_str fun _ => .str i
theorem de_non {j : Nat} : DE X C c (.Constant .none j pos) (fC .non) := de_c pe_non fun _ => .non
/-- a module's int or text -/
theorem de_glob {x : Str} {v : V} {d : D} {u : Value} (hm : X.mg x = some u) (r : RelV v u) (rd : ∀ F, Rp X.K C F v d) (hg : Gl X x := by rfl) (hd : (x == ("__debug__" : Str)) = false := by decide) : DE X C c (.Name x pos) (fC d) := de_c (pe_glob hg hm r hd) rd

/-! ### operators -/
def OpD (X : Cx) (C : CA) (g : Value → Value → Sem Value) (op : D → D → Option D) : Prop := ∃ r : R2, OpR X g r ∧
  ∀ F H x y dx dy d Q, Same F H → Rb X.K C F H x dx → Rb X.K C F H y dy → op dx dy = some d → (∀ v F' H', Ext F H F' H' → Rp X.K C F' v d → Q v H') → r x y H Q
def f2 (op : D → D → Option D) (f g : EF) : EF := fun env => (f env).bind fun p => (g p.2).bind fun q => (rdB q.2 p.1).bind fun x => (rdB q.2 q.1).bind fun y => (op x y).bind fun d => some (.val d, q.2)
theorem de_op {op : Operator} {o : D → D → Option D} (ho : OpD X C (binaryOp op) o) (ha : DE X C c a f) (hb : DE X C c b g) : DE X C c (.BinOp a op b pos) (f2 o f g) := by
  obtain ⟨r, hr, hw⟩ := ho
  refine PE.imp (pe_op hr ha hb) fun σ H Q ⟨z, F, env, b, env', S, e, k⟩ => ?_
  simp only [f2, Option.bind_eq_some_iff] at e
  obtain ⟨⟨b1, e1⟩, h1, ⟨b2, e2⟩, h2, x, hx, y, hy, d, hd, e⟩ := e
  cases e
  exact ⟨z, F, env, b1, e1, S, h1, fun v F1 H1 s1 S1 r1 => ⟨z, F1, e1, b2, e2, S1, h2, fun w F2 H2 s2 S2 r2 => 
    hw F2 H2 v w x y d Q S2.sub ((r1.mono s2).rb S2 hx) (r2.rb S2 hy) hd fun u F3 H3 ex ru => k u F3 H3 (s1.trans (s2.trans ex.sub)) (S2.ext ex) ru⟩⟩
theorem de_cmp {op : CmpOp} {o : D → D → Option D} (ho : OpD X C (compareOp op) o) (ha : DE X C c a f) (hb : DE X C c b g) (hm : behindInMarks op b = false := by first | exact nomark _ | rfl) : DE X C c (.Compare a [op] [b] pos) (f2 o f g) := by
  obtain ⟨r, hr, hw⟩ := ho
  refine PE.imp (pe_cmpR hr ha hb hm) fun σ H Q ⟨z, F, env, b, env', S, e, k⟩ => ?_
  simp only [f2, Option.bind_eq_some_iff] at e
  obtain ⟨⟨b1, e1⟩, h1, ⟨b2, e2⟩, h2, x, hx, y, hy, d, hd, e⟩ := e
  cases e
  exact ⟨z, F, env, b1, e1, S, h1, fun v F1 H1 s1 S1 r1 => ⟨z, F1, e1, b2, e2, S1, h2, fun w F2 H2 s2 S2 r2 => 
    hw F2 H2 v w x y d Q S2.sub ((r1.mono s2).rb S2 hx) (r2.rb S2 hy) hd fun u F3 H3 ex ru => k u F3 H3 (s1.trans (s2.trans ex.sub)) (S2.ext ex) ru⟩⟩
/-- .. as a test -/
def isB : D → Option Bool
  | .bl k => some k
  | _ => none
def fTst (f : EF) : TF := fun env => (f env).bind fun p => match p.1 with
  | .val d => (isB d).bind fun k => some (k, p.2)
  | .slot _ => none
theorem fTst_some {f : EF} {env env' : Env} {k : Bool} (h : fTst f env = some (k, env')) : f env = some (.val (.bl k), env') := by
  simp only [fTst, Option.bind_eq_some_iff] at h
  obtain ⟨⟨b, e1⟩, h1, h⟩ := h
  cases b with
  | slot i => cases h
  | val d =>
    obtain ⟨k', h2, h3⟩ := Option.bind_eq_some_iff.mp h
    cases d <;> cases h2
    cases h3
    exact h1
theorem dt_cmp {op : CmpOp} {o : D → D → Option D} (ho : OpD X C (compareOp op) o) (ha : DE X C c a f) (hb : DE X C c b g) (hm : behindInMarks op b = false := by first | exact nomark _ | rfl) : DT X C c (.Compare a [op] [b] pos) (fTst (f2 o f g)) := by
  obtain ⟨r, hr, hw⟩ := ho
  refine PT.imp (pt_cmpR hr ha hb hm) fun σ H Q ⟨z, F, env, b, env', S, e, k⟩ => ?_
  have e := fTst_some e
  simp only [f2, Option.bind_eq_some_iff] at e
  obtain ⟨⟨b1, e1⟩, h1, ⟨b2, e2⟩, h2, x, hx, y, hy, d, hd, e⟩ := e
  cases e
  exact ⟨z, F, env, b1, e1, S, h1, fun v F1 H1 s1 S1 r1 => ⟨z, F1, e1, b2, e2, S1, h2, fun w F2 H2 s2 S2 r2 => 
    hw F2 H2 v w x y _ _ S2.sub ((r1.mono s2).rb S2 hx) (r2.rb S2 hy) hd fun u F3 H3 ex ru => by
      cases ru
      exact ⟨_, rfl, k F3 H3 (s1.trans (s2.trans ex.sub)) (S2.ext ex)⟩⟩⟩
theorem dt_val {e : Expr} (h : DE X C c e f) (he : ∀ whole, isTrue e X.env whole = (do let v ← whole; standAt e.pos; holding [v] (truthy v)) := by intro _; rfl) : DT X C c e (fTst f) := by
  refine PT.imp (pt_val h he) fun σ H Q ⟨z, F, env, b, env', S, e, k⟩ => ?_
  have e := fTst_some e
  exact ⟨z, F, env, _, _, S, e, fun v F1 H1 s1 S1 r1 => by
    cases r1
    exact ⟨_, rfl, k F1 H1 s1 S1⟩⟩

/-! ### and, or, not -/
variable {rest : List Expr} {p q : TF}
def fAnd (p q : TF) : TF := fun env => (p env).bind fun r => if r.1 = true then q r.2 else some (false, r.2)
def fOr (p q : TF) : TF := fun env => (p env).bind fun r => if r.1 = true then some (true, r.2) else q r.2
def fNot (p : TF) : TF := fun env => (p env).bind fun r => some (!r.1, r.2)
theorem dw_and1 (h : DT X C c a p) : DW X C c (.BoolOp .And [a] pos) p := pw_and1 h
theorem dw_or1 (h : DT X C c a p) : DW X C c (.BoolOp .Or [a] pos) p := pw_or1 h
theorem DW.dt {e : Expr} (h : DW X C c e p) : DT X C c e p := PW.pt h
theorem dw_and (ha : DT X C c a p) (hb : DW X C c (.BoolOp .And (b :: rest) pos) q) : DW X C c (.BoolOp .And (a :: b :: rest) pos) (fAnd p q) := by
  refine PW.imp (pw_and ha hb) fun σ H Q ⟨z, F, env, b, env', S, e, k⟩ => ?_
  obtain ⟨⟨k1, e1⟩, h1, e⟩ := Option.bind_eq_some_iff.mp e
  refine ⟨z, F, env, k1, e1, S, h1, fun F1 H1 s1 S1 => ?_⟩
  cases k1 with
  | true => exact iteT ⟨z, F1, e1, b, env', S1, e, fun F2 H2 s2 S2 => k F2 H2 (s1.trans s2) S2⟩
  | false => cases e; exact iteF (k F1 H1 s1 S1)
theorem dw_or (ha : DT X C c a p) (hb : DW X C c (.BoolOp .Or (b :: rest) pos) q) : DW X C c (.BoolOp .Or (a :: b :: rest) pos) (fOr p q) := by
  refine PW.imp (pw_or ha hb) fun σ H Q ⟨z, F, env, b, env', S, e, k⟩ => ?_
  obtain ⟨⟨k1, e1⟩, h1, e⟩ := Option.bind_eq_some_iff.mp e
  refine ⟨z, F, env, k1, e1, S, h1, fun F1 H1 s1 S1 => ?_⟩
  cases k1 with
  | false => exact iteF ⟨z, F1, e1, b, env', S1, e, fun F2 H2 s2 S2 => k F2 H2 (s1.trans s2) S2⟩
  | true => cases e; exact iteT (k F1 H1 s1 S1)
theorem dt_not (ha : DT X C c a p) : DT X C c (.UnaryOp .Not a pos) (fNot p) := by
  refine PT.imp (pt_not ha) fun σ H Q ⟨z, F, env, b, env', S, e, k⟩ => ?_
  obtain ⟨⟨k1, e1⟩, h1, e⟩ := Option.bind_eq_some_iff.mp e
  cases e
  exact ⟨z, F, env, k1, e1, S, h1, fun F1 H1 s1 S1 => k F1 H1 s1 S1⟩
/-- as values: all but the last are bools -/
def fAndV (f g : EF) : EF := fun env => (fTst f env).bind fun r => if r.1 = true then g r.2 else some (.val (.bl false), r.2)
def fOrV (f g : EF) : EF := fun env => (fTst f env).bind fun r => if r.1 = true then some (.val (.bl true), r.2) else g r.2
def fNotV (f : EF) : EF := fun env => (fTst f env).bind fun r => some (.val (.bl (!r.1)), r.2)
theorem de_one {op : BoolOp} (h : DE X C c a f) : DE X C c (.BoolOp op [a] pos) f := pe_one h
theorem de_and (ha : DE X C c a f) (hb : DE X C c (.BoolOp .And (b :: rest) pos) g) : DE X C c (.BoolOp .And (a :: b :: rest) pos) (fAndV f g) := by
  refine PE.imp (pe_and ha hb) fun σ H Q ⟨z, F, env, b, env', S, e, k⟩ => ?_
  obtain ⟨⟨k1, e1⟩, h1, e⟩ := Option.bind_eq_some_iff.mp e
  have h1 := fTst_some h1
  refine ⟨z, F, env, _, e1, S, h1, fun v F1 H1 s1 S1 r1 => ?_⟩
  cases r1
  refine ⟨_, rfl, ?_⟩
  cases k1 with
  | true => exact iteT ⟨z, F1, e1, b, env', S1, e, fun v F2 H2 s2 S2 r2 => k v F2 H2 (s1.trans s2) S2 r2⟩
  | false => cases e; exact iteF (k _ F1 H1 s1 S1 (.bl false))
theorem de_or (ha : DE X C c a f) (hb : DE X C c (.BoolOp .Or (b :: rest) pos) g) : DE X C c (.BoolOp .Or (a :: b :: rest) pos) (fOrV f g) := by
  refine PE.imp (pe_or ha hb) fun σ H Q ⟨z, F, env, b, env', S, e, k⟩ => ?_
  obtain ⟨⟨k1, e1⟩, h1, e⟩ := Option.bind_eq_some_iff.mp e
  have h1 := fTst_some h1
  refine ⟨z, F, env, _, e1, S, h1, fun v F1 H1 s1 S1 r1 => ?_⟩
  cases r1
  refine ⟨_, rfl, ?_⟩
  cases k1 with
  | false => exact iteF ⟨z, F1, e1, b, env', S1, e, fun v F2 H2 s2 S2 r2 => k v F2 H2 (s1.trans s2) S2 r2⟩
  | true => cases e; exact iteT (k _ F1 H1 s1 S1 (.bl true))
theorem de_not (ha : DE X C c a f) : DE X C c (.UnaryOp .Not a pos) (fNotV f) := by
  refine PE.imp (pe_not ha) fun σ H Q ⟨z, F, env, b, env', S, e, k⟩ => ?_
  obtain ⟨⟨k1, e1⟩, h1, e⟩ := Option.bind_eq_some_iff.mp e
  cases e
  have h1 := fTst_some h1
  refine ⟨z, F, env, _, e1, S, h1, fun v F1 H1 s1 S1 r1 => ?_⟩
  cases r1
  exact ⟨_, rfl, k _ F1 H1 s1 S1 (.bl _)⟩
def fIf (p : TF) (f g : EF) : EF := fun env => (p env).bind fun r => if r.1 = true then f r.2 else g r.2
theorem de_if {t : Expr} (hc : DT X C c t p) (ha : DE X C c a f) (hb : DE X C c b g) : DE X C c (.IfExp t a b pos) (fIf p f g) := by
  refine PE.imp (pe_ifExp hc ha hb) fun σ H Q ⟨z, F, env, b, env', S, e, k⟩ => ?_
  obtain ⟨⟨k1, e1⟩, h1, e⟩ := Option.bind_eq_some_iff.mp e
  refine ⟨z, F, env, k1, e1, S, h1, fun F1 H1 s1 S1 => ?_⟩
  cases k1 with
  | true => exact iteT ⟨z, F1, e1, b, env', S1, e, fun v F2 H2 s2 S2 r2 => k v F2 H2 (s1.trans s2) S2 r2⟩
  | false => exact iteF ⟨z, F1, e1, b, env', S1, e, fun v F2 H2 s2 S2 r2 => k v F2 H2 (s1.trans s2) S2 r2⟩

/-! ### arguments and displays -/
variable {e : Expr} {es : List Expr} {fa : AF}
def aN : AF := fun env => some ([], env)
def aC (f : EF) (fa : AF) : AF := fun env => (f env).bind fun p => (fa p.2).bind fun q => some (p.1 :: q.1, q.2)
theorem da_nil : DA X C c [] aN := PA.imp pa_nil fun σ H Q ⟨z, F, env, b, env', S, e, k⟩ => by
  cases e
  exact k [] F H (Same.refl _) S .nil
theorem da_cons (h : DE X C c e f) (hr : DA X C c es fa) (hs : starEach (e :: es) X.env = (false, eval e X.env) :: starEach es X.env := by rfl) : DA X C c (e :: es) (aC f fa) := by
  refine PA.imp (pa_cons h hr hs) fun σ H Q ⟨z, F, env, b, env', S, e, k⟩ => ?_
  obtain ⟨⟨b1, e1⟩, h1, e⟩ := Option.bind_eq_some_iff.mp e
  obtain ⟨⟨b2, e2⟩, h2, e⟩ := Option.bind_eq_some_iff.mp e
  cases e
  exact ⟨z, F, env, b1, e1, S, h1, fun v F1 H1 s1 S1 r1 => ⟨z, F1, e1, b2, e2, S1, h2, fun vs F2 H2 s2 S2 r2 => k _ F2 H2 (s1.trans s2) S2 (.cons (r1.mono s2) r2)⟩⟩
def vals : List B → Option (List D)
  | [] => some []
  | .val d :: bs => (vals bs).bind fun ds => some (d :: ds)
  | .slot _ :: _ => none
theorem vals_rp {K : PySem.W.Frag} {F : Hp} {σ : St} : ∀ {vs : List V} {bs : List B} {ds : List D}, RBs K C c F σ vs bs → vals bs = some ds → RpAll K C F vs ds
  | _, _, _, .nil, e => by cases e; exact .nil
  | _, .val d :: bs, _, .cons h t, e => by
    obtain ⟨ds, h1, e⟩ := Option.bind_eq_some_iff.mp e
    cases e
    exact .cons h (vals_rp t h1)
  | _, .slot _ :: _, _, .cons h t, e => by cases e
/-- a length that can be -/
def gd {α : Type} (n : Nat) (x : Option α) : Option α := if n ≤ 16777216 then x else none
theorem gd_some {α : Type} {n : Nat} {x : Option α} {y : α} (h : gd n x = some y) : n ≤ sizeLine ∧ x = some y := by
  unfold gd at h
  rw [sizeLine_eq]
  split at h
  · next q => exact ⟨q, h⟩
  · cases h
def fTup (fa : AF) : EF := fun env => (fa env).bind fun p => (vals p.1).bind fun ds => gd ds.length (some (.val (.tup ds), p.2))
theorem de_tup {kk : Nat} (h : DA X C c es fa) : DE X C c (.Tuple es kk pos) (fTup fa) := by
  refine PE.imp (pe_tup h) fun σ H Q ⟨z, F, env, b, env', S, e, k⟩ => ?_
  obtain ⟨⟨b1, e1⟩, h1, e⟩ := Option.bind_eq_some_iff.mp e
  obtain ⟨ds, h2, e⟩ := Option.bind_eq_some_iff.mp e
  obtain ⟨hl, e⟩ := gd_some e
  cases e
  refine ⟨z, F, env, b1, e1, S, h1, fun vs F1 H1 s1 S1 r1 => ?_⟩
  have rp := vals_rp r1 h2
  refine ⟨by rw [rp.length]; exact hl, fun p hp => ?_⟩
  have ex : Ext F1 H1 (upd F1 p (.tup vs)) (upd H1 p (.tup vs)) := Ext.laid S1.sub hp
  exact k _ _ _ (s1.trans ex.sub) (S1.ext ex) (.tup (SqT.of upd_same) (by rw [rp.length]; exact hl) (rp.mono ex.sub))
def oLst (fa : AF) : OF := fun env => (fa env).bind fun p => (vals p.1).bind fun ds => gd ds.length (some (.lst ds, p.2))
/-- a new object laid that is nobody's yet -/
theorem SR.newO {K : PySem.W.Frag} {c : Cs} {z : Zn} {F : Hp} {env : Env} {σ : St} {H : Hp} (S : SR K C c z F env σ H) {p : Addr} {o : HO} (hp : H p = none) :
    SR K C c z F env σ (upd H p o) ∧ F p = none ∧ z.H0 p = none ∧ (Apt C c env σ p) ∧ ∀ e, (p, e) ∉ z.gh := by
  have fp : F p = none := S.sub.free hp
  refine ⟨S.ext ⟨Same.refl _, S.sub.trans (same_upd hp), same_upd hp, fun b o h => .inl h⟩, fp, S.free0 hp, fun j e hj hd hs => ?_, fun e h => ?_⟩
  · obtain ⟨a, h1, _, h3, _⟩ := S.b.own j e hd hj
    rw [hs] at h1; cases h1
    obtain ⟨o', q⟩ := h3.some
    rw [hp] at q; cases q
  · obtain ⟨_, h3, _⟩ := S.gho p e h
    obtain ⟨o', q⟩ := h3.some
    rw [hp] at q; cases q
theorem do_lst (h : DA X C c es fa) : DO X C c (.List es pos) (oLst fa) := by
  refine PE.imp (pe_lst h) fun σ H Q ⟨z, F, env, b, env', S, e, k⟩ => ?_
  obtain ⟨⟨b1, e1⟩, h1, e⟩ := Option.bind_eq_some_iff.mp e
  obtain ⟨ds, h2, e⟩ := Option.bind_eq_some_iff.mp e
  obtain ⟨hl, e⟩ := gd_some e
  cases e
  refine ⟨z, F, env, b1, e1, S, h1, fun vs F1 H1 s1 S1 r1 => ?_⟩
  have rp := vals_rp r1 h2
  refine ⟨by rw [rp.length]; exact hl, fun p hp => ?_⟩
  obtain ⟨S2, fp, zp, ap, ng⟩ := S1.newO (o := .lst vs) hp
  exact k p F1 _ s1 S2 fp zp ⟨vs, upd_same, by rw [rp.length]; exact hl, rp⟩ ap ng
/-- a new object as data -/
def fO (f : OF) : EF := fun env => (f env).bind fun p => some (.val p.1, p.2)
theorem DO.de {o : OF} (h : DO X C c e o) : DE X C c e (fO o) := by
  refine PE.imp (PE.fz h) fun σ H Q ⟨z, F, env, b, env', S, e, k⟩ => ?_
  obtain ⟨⟨d, e1⟩, h1, e⟩ := Option.bind_eq_some_iff.mp e
  cases e
  refine ⟨z, F, env, d, e1, S, h1, fun a F1 H1 s1 S1 fa za ow ap ng => ?_⟩
  obtain ⟨o, ho⟩ := ow.some
  refine ⟨a, o, ho, fun o' fz => ?_⟩
  obtain ⟨S2, s2, r⟩ := S1.freezeN fa za ow ho fz ap ng
  exact k _ _ _ (s1.trans s2) S2 r
end
end DL

namespace DL
open PySem L2

/-! ### statements -/
inductive Fl where
  | nx (e : Env)
  | rt (d : D) (e : Env)
  | bk (e : Env)
  | ct (e : Env)
abbrev SF := Env → Option Fl
/-- what lies behind a return (m: a new object is handed back) -/
structure RetOk (m : Bool) (K : PySem.W.Frag) (C : CA) (c : Cs) (z : Zn) (F : Hp) (env : Env) (H : Hp) (v : V) (d : D) : Prop where
  sub : Same F H
  f0 : Same z.F0 F
  new : ∀ b o, F b = some o → z.F0 b = some o ∨ z.H0 b = none
  keep : ∀ b o, z.H0 b = some o → b ∉ z.ioA → H b = some o
  ios : ∀ (k i : Nat), c.x.io[k]? = some i → ∃ a d, z.ioA[k]? = some a ∧ gt env i = some d ∧ F a = none ∧ Own K C F H a d
  val : if m = true then ∃ a, v = .ref a ∧ F a = none ∧ z.H0 a = none ∧ Own K C F H a d else Rp K C F v d
def tS (m : Bool) (K : PySem.W.Frag) (C : CA) (c : Cs) (f : SF) : TS := fun Dn σ H => ∃ z F env fl, SR K C c z F env σ H ∧ z.gh = [] ∧ f env = some fl ∧ match fl with
  | .nx env' => ∀ F' σ' H', Same F F' → SR K C c z F' env' σ' H' → Dn.nx σ' H'
  | .bk env' => ∀ F' σ' H', Same F F' → SR K C c z F' env' σ' H' → Dn.bk σ' H'
  | .ct env' => ∀ F' σ' H', Same F F' → SR K C c z F' env' σ' H' → Dn.ct σ' H'
  | .rt d env' => ∀ v F' H', Same F F' → RetOk m K C c z F' env' H' v d → Dn.rt v H'
def DS (m : Bool) (X : Cx) (C : CA) (c : Cs) (s : Stmt) (f : SF) : Prop := PS X s (tS m X.K C c f)
def DSs (m : Bool) (X : Cx) (C : CA) (c : Cs) (s : List Stmt) (f : SF) : Prop := PSs X s (tS m X.K C c f)

theorem SR.ret {K : PySem.W.Frag} {C : CA} {c : Cs} {z : Zn} {F : Hp} {env : Env} {σ : St} {H : Hp} (S : SR K C c z F env σ H) {m : Bool} {v : V} {d : D} (hv : if m = true then ∃ a, v = .ref a ∧ F a = none ∧ z.H0 a = none ∧ Own K C F H a d else Rp K C F v d) : RetOk m K C c z F env H v d :=
  ⟨S.sub, S.f0, S.new, S.keep, fun k i h => by
    obtain ⟨hO, a, d', h1, h2, h3⟩ := S.b.ios k i h
    obtain ⟨a', q1, q2, q3, _⟩ := S.b.own i d' h3 hO
    rw [h2] at q1; cases q1
    exact ⟨a, d', h1, h3, q2, q3⟩, hv⟩

section
variable {m : Bool} {X : Cx} {C : CA} {c : Cs} {s : Stmt} {ss : List Stmt} {f g : SF} {pos : Pos} {e : Expr} {fe : EF} {oe : OF} {p : TF}
def sN : SF := fun env => some (.nx env)
def sQ (f g : SF) : SF := fun env => (f env).bind fun fl => match fl with
  | .nx e => g e
  | fl => some fl
theorem dss_nil : DSs m X C c [] sN := PSs.imp pss_nil fun Dn σ H ⟨z, F, env, fl, S, hg, e, k⟩ => by
  cases e
  exact k F σ H (Same.refl _) S
theorem ds_pass : DS m X C c (.Pass pos) sN := PS.imp ps_pass fun Dn σ H ⟨z, F, env, fl, S, hg, e, k⟩ => by
  cases e
  exact k F σ H (Same.refl _) S
theorem ds_break : DS m X C c (.Break pos) (fun env => some (.bk env)) := PS.imp ps_break fun Dn σ H ⟨z, F, env, fl, S, hg, e, k⟩ => by
  cases e
  exact k F σ H (Same.refl _) S
theorem ds_continue : DS m X C c (.Continue pos) (fun env => some (.ct env)) := PS.imp ps_continue fun Dn σ H ⟨z, F, env, fl, S, hg, e, k⟩ => by
  cases e
  exact k F σ H (Same.refl _) S
theorem dss_cons (h1 : DS m X C c s f) (h2 : DSs m X C c ss g) : DSs m X C c (s :: ss) (sQ f g) := by
  refine PSs.imp (pss_cons h1 h2) fun Dn σ H ⟨z, F, env, fl, S, hg, e, k⟩ => ?_
  obtain ⟨fl1, e1, e⟩ := Option.bind_eq_some_iff.mp e
  refine ⟨z, F, env, fl1, S, hg, e1, ?_⟩
  cases fl1 with
  | nx env1 =>
    intro F1 σ1 H1 s1 S1
    refine ⟨z, F1, env1, fl, S1, hg, e, ?_⟩
    cases fl with
    | nx _ => exact fun F' σ' H' s' => k F' σ' H' (s1.trans s')
    | bk _ => exact fun F' σ' H' s' => k F' σ' H' (s1.trans s')
    | ct _ => exact fun F' σ' H' s' => k F' σ' H' (s1.trans s')
    | rt _ _ => exact fun v F' H' s' => k v F' H' (s1.trans s')
  | rt d e1 => cases e; exact k
  | bk e1 => cases e; exact k
  | ct e1 => cases e; exact k
theorem dss_one (h1 : DS m X C c s f) : DSs m X C c [s] f := pss_one h1
/-- code that is not come to -/
theorem ds_never : DS m X C c s (fun _ => none) := PS.imp ps_never fun Dn σ H ⟨z, F, env, fl, S, hg, e, k⟩ => by cases e
theorem dss_never : DSs m X C c ss (fun _ => none) := PSs.imp pss_never fun Dn σ H ⟨z, F, env, fl, S, hg, e, k⟩ => by cases e
def sIf (p : TF) (f g : SF) : SF := fun env => (p env).bind fun r => if r.1 = true then f r.2 else g r.2
theorem ds_if {t : Expr} {sa sb : List Stmt} (hc : DT X C c t p) (ha : DSs m X C c sa f) (hb : DSs m X C c sb g) : DS m X C c (.If t sa sb pos) (sIf p f g) := by
  refine PS.imp (ps_if hc ha hb) fun Dn σ H ⟨z, F, env, fl, S, hg, e, k⟩ => ?_
  obtain ⟨⟨k1, e1⟩, h1, e⟩ := Option.bind_eq_some_iff.mp e
  refine ⟨z, F, env, k1, e1, S, h1, fun F1 H1 s1 S1 => ?_⟩
  have fin : ∀ f : SF, f e1 = some fl → tS m X.K C c f Dn σ H1 := fun f e => by
    refine ⟨z, F1, e1, fl, S1, hg, e, ?_⟩
    cases fl with
    | nx _ => exact fun F' σ' H' s' => k F' σ' H' (s1.trans s')
    | bk _ => exact fun F' σ' H' s' => k F' σ' H' (s1.trans s')
    | ct _ => exact fun F' σ' H' s' => k F' σ' H' (s1.trans s')
    | rt _ _ => exact fun v F' H' s' => k v F' H' (s1.trans s')
  cases k1 with
  | true => exact iteT (fin f e)
  | false => exact iteF (fin g e)
def sX (f : EF) : SF := fun env => (f env).bind fun r => some (.nx r.2)
theorem ds_expr (h : DE X C c e fe) (hs : swapsWith e none pos.line X.env = pure false := by rfl) : DS m X C c (.Expr e pos) (sX fe) := by
  refine PS.imp (ps_expr h hs) fun Dn σ H ⟨z, F, env, fl, S, hg, e, k⟩ => ?_
  obtain ⟨⟨b, e1⟩, h1, e⟩ := Option.bind_eq_some_iff.mp e
  cases e
  exact ⟨z, F, env, b, e1, S, h1, fun v F1 H1 s1 S1 r1 => k F1 σ H1 s1 S1⟩
/-! ### return -/
def sR (f : EF) : SF := fun env => (f env).bind fun r => match r.1 with
  | .val d => some (.rt d r.2)
  | .slot _ => none
theorem ds_ret (h : DE X C c e fe) : DS false X C c (.Return (some e) pos) (sR fe) := by
  refine PS.imp (ps_ret h) fun Dn σ H ⟨z, F, env, fl, S, hg, e, k⟩ => ?_
  obtain ⟨⟨b, e1⟩, h1, e⟩ := Option.bind_eq_some_iff.mp e
  cases b with
  | slot i => cases e
  | val d =>
    cases e
    exact ⟨z, F, env, _, e1, S, h1, fun v F1 H1 s1 S1 r1 => k v F1 H1 s1 (S1.ret r1)⟩
theorem ds_retN : DS false X C c (.Return none pos) (fun env => some (.rt .non env)) := by
  refine PS.imp ps_retN fun Dn σ H ⟨z, F, env, fl, S, hg, e, k⟩ => ?_
  cases e
  exact k _ F H (Same.refl _) (S.ret (m := false) .non)
def sRO (f : OF) : SF := fun env => (f env).bind fun r => some (.rt r.1 r.2)
theorem ds_retO (h : DO X C c e oe) : DS true X C c (.Return (some e) pos) (sRO oe) := by
  refine PS.imp (ps_ret h) fun Dn σ H ⟨z, F, env, fl, S, hg, e, k⟩ => ?_
  obtain ⟨⟨b, e1⟩, h1, e⟩ := Option.bind_eq_some_iff.mp e
  cases e
  exact ⟨z, F, env, _, e1, S, h1, fun v F1 H1 s1 S1 fa za ow ap ng => k _ F1 H1 s1 (S1.ret (m := true) ⟨v, rfl, fa, za, ow⟩)⟩
/-- a slot's own object handed back as a new one -/
def oSl (i : Nat) : OF := fun env => (gt env i).bind fun d => some (d, st env i none)
theorem SRo.drop {K : PySem.W.Frag} {c : Cs} {z : Zn} {F : Hp} {env : Env} {σ : St} {H : Hp} (S : SRo K C c z F env σ H) {i : Nat} (hio : i ∉ c.io) : SRo K C c z F (st env i none) σ H :=
  ⟨S.sub, S.f0, S.new, S.keep, by rw [st_length]; exact S.len, by rw [st_length]; exact S.num, fun j e h hj => S.pur j e (gt_st_none h).2 hj, fun j e h hj => S.own j e (gt_st_none h).2 hj, fun j k dj dk b hj hk hjk ej ek sj sk => S.dist j k dj dk b hj hk hjk (gt_st_none ej).2 (gt_st_none ek).2 sj sk, S.iol, S.gho,
    fun b e j e2 h hj ej => S.ghd b e j e2 h hj (gt_st_none ej).2, S.ghn, fun k j hk => by
      obtain ⟨h1, b, e, h2, h3, h4⟩ := S.ios k j hk
      have hij : i ≠ j := fun q => hio (q ▸ List.mem_of_getElem? hk)
      exact ⟨h1, b, e, h2, h3, by rw [gt_st_ne hij]; exact h4⟩⟩
theorem SR.drop {K : PySem.W.Frag} {z : Zn} {F : Hp} {env : Env} {σ : St} {H : Hp} (S : SR K C c z F env σ H) {i : Nat} (hio : i ∉ c.io) (hn : i < c.n) : SR K C c z F (st env i none) σ H :=
  ⟨S.b.drop (x_notio hio hn), S.ln, S.hO, S.hio⟩
theorem do_slot (i : Nat) {x : Str} (hO : i ∈ c.O := by decide) (hio : i ∉ c.io := by decide) (hN : X.N[i]? = some x := by rfl) (hv : Vis X.env.scope x := by first | exact Or.inl rfl | exact Or.inr (Or.inl rfl) | exact Or.inr (Or.inr rfl)) (hd : (x == ("__debug__" : Str)) = false := by decide)
    (hcd : (x == ("__classdict__" : Str)) = false := by decide) : DO X C c (.Name x pos) (oSl i) :=
  PE.imp (pe_var hN hv hd hcd) fun σ H Q ⟨z, F, env, b, env', S, e, k⟩ => by
    obtain ⟨d0, h1, e2⟩ := Option.bind_eq_some_iff.mp e
    cases e2
    obtain ⟨a, hv, fa, ho, za⟩ := S.own i b h1 hO
    refine ⟨_, hv, k a F H (Same.refl _) (S.drop hio (S.hO i hO)) fa (za.elim id fun q => absurd q.1 hio) ho (fun j e2 hj hd hs => ?_) fun e2 h => S.ghd a e2 i b h hO h1 hv⟩
    obtain ⟨hij, hd⟩ := gt_st_none hd
    exact S.b.dist i j b e2 a (x_mem hO) hj hij h1 hd (by rw [S.at (S.hO i hO)]; exact hv) hs
/-! ### targets -/
abbrev GF := D → Env → Option Env
abbrev GFs := List D → Env → Option Env
def tG (K : PySem.W.Frag) (C : CA) (c : Cs) (ts : List Nat) (g : GF) : TG := fun v σ H Q => ∃ z F env d env', SR K C c z F env σ H ∧ Rp K C F v d ∧ g d env = some env' ∧
  ∀ F' σ' H', Same F F' → SR K C c z F' env' σ' H' → (∀ own : List Nat, (∀ t ∈ ts, t ∈ own) → wipe σ' own = wipe σ own) → Q σ' H'
def tGs (K : PySem.W.Frag) (C : CA) (c : Cs) (ts : List Nat) (g : GFs) : TGs := fun vs σ H Q => ∃ z F env ds env', SR K C c z F env σ H ∧ RpAll K C F vs ds ∧ g ds env = some env' ∧
  ∀ F' σ' H', Same F F' → SR K C c z F' env' σ' H' → (∀ own : List Nat, (∀ t ∈ ts, t ∈ own) → wipe σ' own = wipe σ own) → Q σ' H'
def DG (X : Cx) (C : CA) (c : Cs) (e : Expr) (ts : List Nat) (g : GF) : Prop := PG X e (tG X.K C c ts g)
def DGs (X : Cx) (C : CA) (c : Cs) (e : List Expr) (ts : List Nat) (g : GFs) : Prop := PGs X e (tGs X.K C c ts g)
theorem PGs.imp {X : Cx} {e : List Expr} {t t' : TGs} (h : PGs X e t) (i : ∀ v σ H Q, t' v σ H Q → t v σ H Q) : PGs X e t' := ⟨fun pins s σ H v u Q I r q => h.run pins s σ H v u Q I r (i v σ H Q q)⟩
theorem wipe_set {i : Nat} {v : Option V} : ∀ (own : List Nat) (σ : St), i ∈ own → wipe (σ.set i v) own = wipe σ own
  | [], _, h => by cases h
  | j :: own, σ, h => by
    unfold wipe
    by_cases hi : i ∈ own
    · rw [wipe_set own σ hi]
    · have e : i = j := by
        rcases List.mem_cons.mp h with q | q
        · exact q
        · exact absurd q hi
      subst e
      have cm : ∀ (own : List Nat), i ∉ own → wipe (σ.set i v) own = (wipe σ own).set i v := by
        intro own
        induction own with
        | nil => intro _; rfl
        | cons k own ih =>
          intro hk
          have h1 : i ≠ k := fun q => hk (q ▸ List.mem_cons_self ..)
          have h2 : i ∉ own := fun q => hk (List.mem_cons_of_mem _ q)
          show (wipe (σ.set i v) own).set k none = ((wipe σ own).set k none).set i v
          rw [ih h2, List.set_comm _ _ h1]
      rw [cm own hi, List.set_set]
def gN (i : Nat) : GF := fun d env => some (st env i (some d))
theorem dg_name (i : Nat) {x : Str} (hN : X.N.Nodup) (hO : i ∉ c.O := by decide) (hn : i < c.n := by decide) (hi : X.N[i]? = some x := by rfl) (hx : Loc X.env.scope x := by first | exact Or.inl rfl | exact Or.inr rfl) (hf : X.fn x = true ∨ X.env.scope.names.lookup x = some .local := by first | exact .inl rfl | exact .inr rfl | assumption) : DG X C c (.Name x pos) [i] (gN i) :=
  PG.imp (pg_name hN hi hx hf) fun v σ H Q ⟨z, F, env, d, env', S, r, e, k⟩ => by
    cases e
    exact k F _ H (Same.refl _) (S.setP hO hn r) fun own h => wipe_set own σ (h i (List.mem_cons_self ..))
def gN0 : GFs := fun ds env => match ds with
  | [] => some env
  | _ => none
def gC (g : GF) (gs : GFs) : GFs := fun ds env => match ds with
  | d :: ds => (g d env).bind fun e => gs ds e
  | [] => none
theorem dgs_nil : DGs X C c [] [] gN0 := PGs.imp pgs_nil fun v σ H Q ⟨z, F, env, d, env', S, r, e, k⟩ => by
  cases d with
  | cons _ _ => cases e
  | nil =>
    cases r
    cases e
    exact ⟨rfl, k F σ H (Same.refl _) S fun _ _ => rfl⟩
def gT (n : Nat) (gs : GFs) : GF := fun d env => match d with
  | .tup ds => if ds.length = n then gs ds env else none
  | _ => none
theorem dgs_cons {es : List Expr} {g : GF} {gs : GFs} {t1 t2 : List Nat} (h1 : DG X C c e t1 g) (h2 : DGs X C c es t2 gs) (hs : (assignEach (e :: es) X.env).map (·.2) = assign e X.env :: (assignEach es X.env).map (·.2) := by rfl) : DGs X C c (e :: es) (t1 ++ t2) (gC g gs) := by
  refine PGs.imp (pgs_cons h1 h2 hs) fun v σ H Q ⟨z, F, env, d, env', S, r, e, k⟩ => ?_
  cases r with
  | nil => cases e
  | cons r1 r2 =>
    obtain ⟨e1, q1, e⟩ := Option.bind_eq_some_iff.mp e
    exact ⟨_, _, rfl, z, F, env, _, e1, S, r1, q1, fun F1 σ1 H1 s1 S1 w1 => ⟨z, F1, e1, _, env', S1, r2.mono s1, e, fun F2 σ2 H2 s2 S2 w2 => k F2 σ2 H2 (s1.trans s2) S2 fun own h => (w2 own fun t ht => h t (List.mem_append_right _ ht)).trans (w1 own fun t ht => h t (List.mem_append_left _ ht))⟩⟩
theorem dg_tup {es : List Expr} {kk : Nat} {gs : GFs} {ts : List Nat} (n : Nat) (h : DGs X C c es ts gs) (hc : X.calm = true := by rfl) (hn : (assignEach es X.env).length = n := by rfl) (hst : (assignEach es X.env).findIdx? (·.1) = none := by rfl) : DG X C c (.Tuple es kk pos) ts (gT n gs) := by
  refine PG.imp (pg_tup hc h hn hst) fun v σ H Q ⟨z, F, env, d, env', S, r, e, k⟩ => ?_
  cases d <;> simp only [gT] at e <;> try (cases e; done)
  cases r with
  | tup h1 hl h2 =>
    split at e
    · next q => exact ⟨_, _, rfl, SqT.sub S.sub h1, by rw [h2.length]; exact q, z, F, env, _, env', S, h2, e, k⟩
    · cases e
/-! ### assignments -/
def sSet (i : Nat) (f : EF) : SF := fun env => (f env).bind fun r => match r.1 with
  | .val d => some (.nx (st r.2 i (some d)))
  | .slot _ => none
theorem ds_set (i : Nat) {x : Str} {pos' : Pos} (hN : X.N.Nodup) (he : DE X C c e fe) (hO : i ∉ c.O := by decide) (hn : i < c.n := by decide) (hi : X.N[i]? = some x := by rfl) (hx : Loc X.env.scope x := by first | exact Or.inl rfl | exact Or.inr rfl) (hs : swapsWith e (some (.Name x pos')) pos.line X.env = pure false := by rfl) (hf : X.fn x = true ∨ X.env.scope.names.lookup x = some .local := by first | exact .inl rfl | exact .inr rfl | assumption) :
    DS m X C c (.Assign [.Name x pos'] e pos) (sSet i fe) := by
  refine PS.imp (ps_set hN hi hx he hs hf) fun Dn σ H ⟨z, F, env, fl, S, hg, e, k⟩ => ?_
  obtain ⟨⟨b, e1⟩, h1, e⟩ := Option.bind_eq_some_iff.mp e
  cases b with
  | slot i => cases e
  | val d =>
    cases e
    exact ⟨z, F, env, _, e1, S, h1, fun v F1 H1 s1 S1 r1 => k F1 _ H1 s1 (S1.setP hO hn r1)⟩
def sSetO (i : Nat) (f : OF) : SF := fun env => (f env).bind fun r => some (.nx (st r.2 i (some r.1)))
theorem ds_setO (i : Nat) {x : Str} {pos' : Pos} (hN : X.N.Nodup) (he : DO X C c e oe) (hO : i ∈ c.O := by decide) (hio : i ∉ c.io := by decide) (hn : i < c.n := by decide) (hi : X.N[i]? = some x := by rfl) (hx : Loc X.env.scope x := by first | exact Or.inl rfl | exact Or.inr rfl) (hs : swapsWith e (some (.Name x pos')) pos.line X.env = pure false := by rfl) (hf : X.fn x = true ∨ X.env.scope.names.lookup x = some .local := by first | exact .inl rfl | exact .inr rfl | assumption) :
    DS m X C c (.Assign [.Name x pos'] e pos) (sSetO i oe) := by
  refine PS.imp (ps_set hN hi hx he hs hf) fun Dn σ H ⟨z, F, env, fl, S, hg, e, k⟩ => ?_
  obtain ⟨⟨b, e1⟩, h1, e⟩ := Option.bind_eq_some_iff.mp e
  cases e
  exact ⟨z, F, env, _, e1, S, h1, fun a F1 H1 s1 S1 fa za ow ap ng => k F1 _ H1 s1 (S1.setO hO hio hn fa za ow ap ng)⟩
/-- target = value, the target a tuple of names -/
def sAsg (f : EF) (g : GF) : SF := fun env => (f env).bind fun r => match r.1 with
  | .val d => (g d r.2).bind fun e => some (.nx e)
  | .slot _ => none
theorem ds_asg {tg : Expr} {g : GF} {ts : List Nat} (he : DE X C c e fe) (hg : DG X C c tg ts g) (hs : swapsWithSole [tg] e pos.line X.env = pure false := by rfl) (hw : swappedStores [tg] e X.env = pure none := by rfl) (h1 : (assignEach [tg] X.env).map (·.2) = [assign tg X.env] := by rfl) : DS m X C c (.Assign [tg] e pos) (sAsg fe g) := by
  refine PS.imp (ps_asg he hg hs hw h1) fun Dn σ H ⟨z, F, env, fl, S, hg, e, k⟩ => ?_
  obtain ⟨⟨b, e1⟩, h1, e⟩ := Option.bind_eq_some_iff.mp e
  cases b with
  | slot i => cases e
  | val d =>
    obtain ⟨e2, h2, e⟩ := Option.bind_eq_some_iff.mp e
    cases e
    exact ⟨z, F, env, _, e1, S, h1, fun v F1 H1 s1 S1 r1 => ⟨z, F1, e1, d, e2, S1, r1, h2, fun F2 σ2 H2 s2 S2 _ => k F2 σ2 H2 (s1.trans s2) S2⟩⟩
/-! ### while -/
def whD (p : TF) (f : SF) : Nat → SF
  | 0, _ => none
  | n + 1, env => (p env).bind fun r => if r.1 = true then (f r.2).bind fun fl => (match fl with
    | .nx e => whD p f n e
    | .ct e => whD p f n e
    | .bk e => some (.nx e)
    | .rt d e => some (.rt d e)) else some (.nx r.2)
theorem ds_while (n : Nat) {t : Expr} {body : List Stmt} (hp : PassesOwn (model X.prog X.w) X.A X.env X.xe) (hc : DT X C c t p) (hb : DSs m X C c body f) : DS m X C c (.While t body [] pos) (whD p f n) := by
  refine PS.imp (ps_while hp hc hb) fun Dn σ H ⟨z, F, env, fl, S, hg, e, k⟩ => ?_
  have ke : match fl with
    | .nx env' => ∀ F' σ' H', Same F F' → SR X.K C c z F' env' σ' H' → Dn.nx σ' H'
    | .rt d env' => ∀ v F' H', Same F F' → RetOk m X.K C c z F' env' H' v d → Dn.rt v H'
    | _ => True := by cases fl <;> first | exact k | trivial
  refine ⟨fun n σ H => ∃ F1 env1, Same F F1 ∧ SR X.K C c z F1 env1 σ H ∧ whD p f n env1 = some fl, ⟨n, F, env, Same.refl _, S, e⟩, ?_⟩
  rintro n σ1 H1 ⟨F1, env1, s1, S1, e1⟩
  cases n with
  | zero => cases e1
  | succ n =>
    obtain ⟨⟨k1, e2⟩, h2, e1⟩ := Option.bind_eq_some_iff.mp e1
    refine ⟨z, F1, env1, k1, e2, S1, h2, fun F2 H2 s2 S2 => ?_⟩
    cases k1 with
    | false => cases e1; exact iteF (k F2 σ1 H2 (s1.trans s2) S2)
    | true =>
      obtain ⟨fl3, h3, e1⟩ := Option.bind_eq_some_iff.mp e1
      refine iteT ⟨fun σ' H' => ∃ F3 env3, Same F F3 ∧ SR X.K C c z F3 env3 σ' H' ∧ whD p f n env3 = some fl, fun σ' H' ⟨F3, env3, q1, q2, q3⟩ => ⟨n, Nat.lt_succ_self n, F3, env3, q1, q2, q3⟩, z, F2, e2, fl3, S2, hg, h3, ?_⟩
      cases fl3 with
      | nx e4 => exact fun F3 σ3 H3 s3 S3 => ⟨F3, e4, s1.trans (s2.trans s3), S3, e1⟩
      | ct e4 => exact fun F3 σ3 H3 s3 S3 => ⟨F3, e4, s1.trans (s2.trans s3), S3, e1⟩
      | bk e4 => cases e1; exact fun F3 σ3 H3 s3 S3 => ke F3 σ3 H3 (s1.trans (s2.trans s3)) S3
      | rt d e4 => cases e1; exact fun v F3 H3 s3 S3 => ke v F3 H3 (s1.trans (s2.trans s3)) S3
/-! ### what is walked -/
/-- an iterator over data that stand -/
structure Wk (K : PySem.W.Frag) (C : CA) (J : It) (F : Hp) (ds : List D) : Prop where
  go : ∀ i F' H, Same F F' → Same F' H → i < ds.length → J.go i H
  stop : ∀ F' H, Same F F' → Same F' H → J.stop ds.length H
  yld : ∀ i F' H x H', Same F F' → Same F' H → i < ds.length → J.yld i H x H' → ∃ F2 d, Ext F' H F2 H' ∧ ds[i]? = some d ∧ Rp K C F2 x d
  size : ds.length ≤ sizeLine
abbrev IF := Env → Option (List D × Env)
def tI (K : PySem.W.Frag) (C : CA) (c : Cs) (f : IF) : TI := fun σ H R => ∃ z F env ds env', SR K C c z F env σ H ∧ f env = some (ds, env') ∧
  ∀ J F' H', Same F F' → SR K C c z F' env' σ H' → Wk K C J F' ds → R J H'
def DI (X : Cx) (C : CA) (c : Cs) (tg e : Expr) (f : IF) : Prop := PI X tg e (tI X.K C c f)
def forD (g : GF) (f : SF) : List D → SF
  | [], env => some (.nx env)
  | d :: ds, env => (g d env).bind fun e1 => (f e1).bind fun fl => match fl with
    | .nx e => forD g f ds e
    | .ct e => forD g f ds e
    | .bk e => some (.nx e)
    | .rt d e => some (.rt d e)
def sFor (i : IF) (g : GF) (f : SF) : SF := fun env => (i env).bind fun r => forD g f r.1 r.2
theorem ds_for {tg iter : Expr} {body : List Stmt} {fi : IF} {g : GF} {ts : List Nat} (hp : PassesOwn (model X.prog X.w) X.A X.env X.xe) (hi : DI X C c tg iter fi) (hg : DG X C c tg ts g) (hb : DSs m X C c body f) (hc : X.calm = true := by rfl)
    (hs : ∀ x, foldedSetIterable iter X.env x = pure x := by intro _; rfl) : DS m X C c (.For tg iter body [] pos) (sFor fi g f) := by
  refine PS.imp (ps_for hp hc hi hg hb hs) fun Dn σ H ⟨z, F, env, fl, S, hgh, e, k⟩ => ?_
  obtain ⟨⟨ds, e1⟩, h1, e⟩ := Option.bind_eq_some_iff.mp e
  have ke : match fl with
    | .nx env' => ∀ F' σ' H', Same F F' → SR X.K C c z F' env' σ' H' → Dn.nx σ' H'
    | .rt d env' => ∀ v F' H', Same F F' → RetOk m X.K C c z F' env' H' v d → Dn.rt v H'
    | _ => True := by cases fl <;> first | exact k | trivial
  refine ⟨z, F, env, ds, e1, S, h1, fun J F1 H1 s1 S1 W => ?_⟩
  refine ⟨fun i n σ H => n = ds.length - i ∧ i ≤ ds.length ∧ ∃ F2 env2, Same F1 F2 ∧ SR X.K C c z F2 env2 σ H ∧ forD g f (ds.drop i) env2 = some fl, ⟨ds.length, by simp, Nat.zero_le _, F1, e1, Same.refl _, S1, e⟩, ?_⟩
  rintro i n σ2 H2 ⟨rfl, hi, F2, env2, s2, S2, e2⟩
  by_cases hlt : i < ds.length
  · refine .inr ⟨W.go i F2 H2 s2 S2.sub hlt, fun σ' H' => ∃ F3 env3, Same F1 F3 ∧ SR X.K C c z F3 env3 σ' H' ∧ forD g f (ds.drop (i + 1)) env3 = some fl, fun σ' H' ⟨F3, env3, q1, q2, q3⟩ => ⟨ds.length - (i + 1), by omega, rfl, hlt, F3, env3, q1, q2, q3⟩, fun x H3 y => ?_⟩
    obtain ⟨F3, d, ex, hd, r⟩ := W.yld i F2 H2 x H3 s2 S2.sub hlt y
    have ed : ds.drop i = d :: ds.drop (i + 1) := by
      rw [List.drop_eq_getElem_cons hlt]
      obtain ⟨_, q⟩ := List.getElem?_eq_some_iff.mp hd
      rw [q]
    rw [ed] at e2
    obtain ⟨e3, h3, e2⟩ := Option.bind_eq_some_iff.mp e2
    obtain ⟨fl4, h4, e2⟩ := Option.bind_eq_some_iff.mp e2
    refine ⟨z, F3, env2, d, e3, S2.ext ex, r, h3, fun F4 σ4 H4 s4 S4 _ => ⟨z, F4, e3, fl4, S4, hgh, h4, ?_⟩⟩
    have s14 : Same F1 F4 := s2.trans (ex.sub.trans s4)
    cases fl4 with
    | nx e4 => exact fun F5 σ5 H5 s5 S5 => ⟨F5, e4, s14.trans s5, S5, e2⟩
    | ct e4 => exact fun F5 σ5 H5 s5 S5 => ⟨F5, e4, s14.trans s5, S5, e2⟩
    | bk e4 => cases e2; exact fun F5 σ5 H5 s5 S5 => ke F5 σ5 H5 (s1.trans (s14.trans s5)) S5
    | rt d e4 => cases e2; exact fun v F5 H5 s5 S5 => ke v F5 H5 (s1.trans (s14.trans s5)) S5
  · have q : i = ds.length := by omega
    subst q
    rw [List.drop_length] at e2
    cases e2
    exact .inl ⟨W.stop F2 H2 s2 S2.sub, k F2 σ2 H2 (s1.trans s2) S2⟩
end
end DL

namespace DL
open PySem L2
/-! ### equality -/
mutual
def eqv : D → D → Bool
  | .non, .non => true
  | .bl a, .bl b => a == b
  | .bl a, .int j => (if a then 1 else 0) == j
  | .int i, .bl b => i == (if b then 1 else 0)
  | .int i, .int j => i == j
  | .str x, .str y => x == y
  | .lst xs, .lst ys => eqvAll xs ys
  | .tup xs, .tup ys => eqvAll xs ys
  | _, _ => false
termination_by structural x => x
def eqvAll : List D → List D → Bool
  | [], [] => true
  | x :: xs, y :: ys => eqv x y && eqvAll xs ys
  | _, _ => false
termination_by structural x => x
end
mutual
def toPy : D → PyData
  | .non => .none
  | .bl b => .bool b
  | .int i => .int i
  | .str x => .str x
  | .lst xs => .list (toPys xs)
  | .tup xs => .tuple (toPys xs)
  | _ => .none
termination_by structural x => x
def toPys : List D → List PyData
  | [] => []
  | x :: xs => toPy x :: toPys xs
termination_by structural x => x
end
mutual
/-- data without dicts and objects -/
def plain : D → Bool
  | .non => true
  | .bl _ => true
  | .int _ => true
  | .str _ => true
  | .lst xs => plains xs
  | .tup xs => plains xs
  | _ => false
termination_by structural x => x
def plains : List D → Bool
  | [] => true
  | x :: xs => plain x && plains xs
termination_by structural x => x
end
mutual
def dp : D → Nat
  | .lst xs => dps xs + 1
  | .tup xs => dps xs + 1
  | _ => 0
termination_by structural x => x
def dps : List D → Nat
  | [] => 0
  | x :: xs => max (dp x) (dps xs)
termination_by structural x => x
end
mutual
theorem eqv_py : ∀ (x y : D), plain x = true → plain y = true → eqv x y = PyData.eqv (toPy x) (toPy y)
  | .non, y, _, hy => by cases y <;> first | rfl | cases hy
  | .bl _, y, _, hy => by cases y <;> first | rfl | cases hy
  | .int _, y, _, hy => by cases y <;> first | rfl | cases hy
  | .str _, y, _, hy => by cases y <;> first | rfl | cases hy
  | .lst xs, y, hx, hy => by
    cases y with
    | lst ys => exact eqv_pys xs ys hx hy
    | _ => first | rfl | cases hy
  | .tup xs, y, hx, hy => by
    cases y with
    | tup ys => exact eqv_pys xs ys hx hy
    | _ => first | rfl | cases hy
  | .dic _, y, hx, hy => by cases hx
  | .obj _ _, y, hx, hy => by cases hx
  | .scr _, y, hx, hy => by cases hx
  | .cel _, y, hx, hy => by cases hx
  | .dtu _, y, hx, hy => by cases hx
  | .btu _, y, hx, hy => by cases hx
theorem eqv_pys : ∀ (xs ys : List D), plains xs = true → plains ys = true → eqvAll xs ys = PyData.eqvAll (toPys xs) (toPys ys)
  | [], ys, _, _ => by cases ys <;> rfl
  | x :: xs, ys, hx, hy => by
    cases ys with
    | nil => rfl
    | cons y ys =>
      obtain ⟨h1, h2⟩ := Bool.and_eq_true_iff.mp (show (plain x && plains xs) = true from hx)
      obtain ⟨h3, h4⟩ := Bool.and_eq_true_iff.mp (show (plain y && plains ys) = true from hy)
      show (eqv x y && eqvAll xs ys) = (PyData.eqv (toPy x) (toPy y) && PyData.eqvAll (toPys xs) (toPys ys))
      rw [eqv_py x y h1 h3, eqv_pys xs ys h2 h4]
end
mutual
theorem plain_py : ∀ (x : D), plain x = true → (toPy x).plain = true
  | .non, _ => rfl
  | .bl _, _ => rfl
  | .int _, _ => rfl
  | .str _, _ => rfl
  | .lst xs, h => plains_py xs h
  | .tup xs, h => plains_py xs h
  | .dic _, h => by cases h
  | .obj _ _, h => by cases h
  | .scr _, h => by cases h
  | .cel _, h => by cases h
  | .dtu _, h => by cases h
  | .btu _, h => by cases h
theorem plains_py : ∀ (xs : List D), plains xs = true → PyData.plainAll (toPys xs) = true
  | [], _ => rfl
  | x :: xs, h => by
    obtain ⟨h1, h2⟩ := Bool.and_eq_true_iff.mp (show (plain x && plains xs) = true from h)
    show ((toPy x).plain && PyData.plainAll (toPys xs)) = true
    rw [plain_py x h1, plains_py xs h2]; rfl
end
mutual
theorem dp_py : ∀ (x : D), (toPy x).depth ≤ dp x + 1
  | .non => by simp [toPy, PyData.depth]
  | .bl _ => by simp [toPy, PyData.depth]
  | .int _ => by simp [toPy, PyData.depth]
  | .str _ => by simp [toPy, PyData.depth]
  | .lst xs => by
    have := dps_py xs
    simp only [toPy, PyData.depth, dp]
    omega
  | .tup xs => by
    have := dps_py xs
    simp only [toPy, PyData.depth, dp]
    omega
  | .dic _ => by simp [toPy, PyData.depth]
  | .obj _ _ => by simp [toPy, PyData.depth]
  | .scr _ => by simp [toPy, PyData.depth]
  | .cel _ => by simp [toPy, PyData.depth]
  | .dtu _ => by simp [toPy, PyData.depth]
  | .btu _ => by simp [toPy, PyData.depth]
theorem dps_py : ∀ (xs : List D), PyData.depthAll (toPys xs) ≤ dps xs + 1
  | [] => by simp [toPys, PyData.depthAll]
  | x :: xs => by
    have h1 := dp_py x
    have h2 := dps_py xs
    simp only [toPys, PyData.depthAll, dps]
    omega
end
section
variable {K : PySem.W.Frag} {C : CA} {F H : Hp}
mutual
theorem Rp.dp (s : Same F H) {v : V} {d : D} (h : Rp K C F v d) (p : plain d = true) : Dp K H v (toPy d) := match h with
  | .non => .non
  | .bl b => .bl b
  | .int i => .int i
  | .str x => .str x
  | .lst h1 hl h2 => .lst (SqL.of (s _ _ h1)) (RpAll.dp s h2 p)
  | .tup h1 hl h2 => .tup (SqT.sub s h1) (RpAll.dp s h2 p)
  | .dic h1 h2 => by cases p
  | .obj h1 h2 => by cases p
  | .scr h1 => by cases p
  | .cel j h1 => by cases p
  | .dtu h1 h2 => by cases p
  | .btu h1 h2 h3 h4 => by cases p
theorem RpAll.dp (s : Same F H) {vs : List V} {ds : List D} (h : RpAll K C F vs ds) (p : plains ds = true) : DpAll K H vs (toPys ds) := match h with
  | .nil => .nil
  | .cons h1 h2 => .cons (Rp.dp s h1 (Bool.and_eq_true_iff.mp p).1) (RpAll.dp s h2 (Bool.and_eq_true_iff.mp p).2)
end
theorem Rb.dp (s : Same F H) {v : V} {d : D} (h : Rb K C F H v d) (p : plain d = true) : Dp K H v (toPy d) := by
  rcases h with h | ⟨a, rfl, h⟩
  · exact h.dp s p
  · cases d <;> simp only [Own] at h
    · obtain ⟨vs, h1, hl, h2⟩ := h
      exact .lst (SqL.of h1) (h2.dp s p)
    · cases p
    · cases p
    · cases p
end
section
variable {X : Cx} {C : CA}
def eqD (x y : D) : Option D := if plain x && plain y && decide (min (dp x) (dp y) ≤ 60) then some (.bl (eqv x y)) else none
def neD (x y : D) : Option D := if plain x && plain y && decide (min (dp x) (dp y) ≤ 60) then some (.bl (!eqv x y)) else none
def rEqP (K : PySem.W.Frag) (neg : Bool) : R2 := fun x y H Q => ∃ p q, Dp K H x p ∧ Dp K H y q ∧ p.plain = true ∧ q.plain = true ∧ min p.depth q.depth ≤ 61 ∧ Q (.bl (if neg then !PyData.eqv p q else PyData.eqv p q)) H
theorem op_eqP (hu : X.A.units + 64 < cLine) : OpR X (compareOp .Eq) (rEqP X.K false) := by
  intro pins s σ H x y v u Q I rx ry h
  obtain ⟨d, e, hd, he, sd, se, hm, q⟩ := h
  obtain ⟨as, r1⟩ := Dp.reads I d x v hd rx
  obtain ⟨bs, r2⟩ := Dp.reads I e y u he ry
  exact SeqAt.eq_plain r1 r2 sd se (by omega) ⟨.bl _, H, I, rfl, q⟩
theorem op_neP (hu : X.A.units + 64 < cLine) : OpR X (compareOp .NotEq) (rEqP X.K true) := by
  intro pins s σ H x y v u Q I rx ry h
  obtain ⟨d, e, hd, he, sd, se, hm, q⟩ := h
  obtain ⟨as, r1⟩ := Dp.reads I d x v hd rx
  obtain ⟨bs, r2⟩ := Dp.reads I e y u he ry
  exact SeqAt.ne_plain r1 r2 sd se (by omega) ⟨.bl _, H, I, rfl, q⟩
theorem eqD_some {neg : Bool} {x y d : D} (h : (if plain x && plain y && decide (min (dp x) (dp y) ≤ 60) then some (D.bl (if neg then !eqv x y else eqv x y)) else none) = some d) : plain x = true ∧ plain y = true ∧ min (dp x) (dp y) ≤ 60 ∧ d = .bl (if neg then !PyData.eqv (toPy x) (toPy y) else PyData.eqv (toPy x) (toPy y)) := by
  split at h
  · next q =>
    simp only [Bool.and_eq_true, decide_eq_true_eq] at q
    obtain ⟨⟨h1, h2⟩, h3⟩ := q
    cases h
    exact ⟨h1, h2, h3, by rw [eqv_py x y h1 h2]⟩
  · cases h
theorem od_eq (hu : X.A.units + 64 < cLine) : OpD X C (compareOp .Eq) eqD := by
  refine ⟨_, op_eqP hu, fun F H x y dx dy d Q s rx ry e k => ?_⟩
  obtain ⟨h1, h2, h3, rfl⟩ := eqD_some (neg := false) e
  have d1 := dp_py dx
  have d2 := dp_py dy
  exact ⟨_, _, rx.dp s h1, ry.dp s h2, plain_py _ h1, plain_py _ h2, by omega, k _ F H (Ext.rfl' s) (.bl _)⟩
theorem od_ne (hu : X.A.units + 64 < cLine) : OpD X C (compareOp .NotEq) neD := by
  refine ⟨_, op_neP hu, fun F H x y dx dy d Q s rx ry e k => ?_⟩
  obtain ⟨h1, h2, h3, rfl⟩ := eqD_some (neg := true) e
  have d1 := dp_py dx
  have d2 := dp_py dy
  exact ⟨_, _, rx.dp s h1, ry.dp s h2, plain_py _ h1, plain_py _ h2, by omega, k _ F H (Ext.rfl' s) (.bl _)⟩
/-! ### x in c -/
def anyE (x : D) (xs : List D) : Bool := xs.any fun y => eqv y x
def hasK (ks : List (Key × D)) (k : Key) : Bool := ks.any fun p => decide (p.1 = k)
def keyD : D → Option Key
  | .int i => some (.inl i)
  | .str x => some (.inr x)
  | _ => none
def inB (x c : D) : Option Bool := match c with
  | .lst xs => if plain x && plains xs && decide (min (dps xs) (dp x) ≤ 60) then some (anyE x xs) else none
  | .tup xs => if plain x && plains xs && decide (min (dps xs) (dp x) ≤ 60) then some (anyE x xs) else none
  | .dic ks => (keyD x).bind fun k => some (hasK ks k)
  | .str t => (match x with
    | .str y => some (!(Builtin.Str.occurrences t y 0 t.length 1).isEmpty)
    | _ => none)
  | _ => none
def inD (x c : D) : Option D := (inB x c).bind fun b => some (.bl b)
def notInD (x c : D) : Option D := (inB x c).bind fun b => some (.bl (!b))
theorem any_py {x : D} (hx : plain x = true) : ∀ {xs : List D}, plains xs = true → anyE x xs = (toPys xs).any fun y => PyData.eqv y (toPy x)
  | [], _ => rfl
  | y :: ys, h => by
    obtain ⟨h1, h2⟩ := Bool.and_eq_true_iff.mp (show (plain y && plains ys) = true from h)
    show (eqv y x || anyE x ys) = (PyData.eqv (toPy y) (toPy x) || (toPys ys).any fun y => PyData.eqv y (toPy x))
    rw [eqv_py y x h1 hx, any_py hx h2]
def rInP (K : PySem.W.Frag) (neg : Bool) : R2 := fun x y H Q => ∃ p qs, Dp K H x p ∧ (Dp K H y (.list qs) ∨ Dp K H y (.tuple qs)) ∧ p.plain = true ∧ PyData.plainAll qs = true ∧ min (PyData.depthAll qs) p.depth ≤ 61 ∧ Q (.bl (if neg then !(qs.any fun z => PyData.eqv z p) else qs.any fun z => PyData.eqv z p)) H
theorem op_inP (hu : X.A.units + 64 < cLine) : OpR X (compareOp .In) (rInP X.K false) := by
  intro pins s σ H x y v u Q I rx ry h
  obtain ⟨d, e, hd, he, sd, se, hm, q⟩ := h
  obtain ⟨as, r1⟩ := Dp.reads I d x v hd rx
  rcases he with he | he
  · obtain ⟨bs, r2⟩ := Dp.reads I _ y u he ry
    exact SeqAt.in_list_data r2 r1 se sd (by omega) ⟨.bl _, H, I, rfl, q⟩
  · obtain ⟨bs, r2⟩ := Dp.reads I _ y u he ry
    exact SeqAt.in_tuple_data r2 r1 se sd (by omega) ⟨.bl _, H, I, rfl, q⟩
theorem op_notInP (hu : X.A.units + 64 < cLine) : OpR X (compareOp .NotIn) (rInP X.K true) := by
  intro pins s σ H x y v u Q I rx ry h
  obtain ⟨d, e, hd, he, sd, se, hm, q⟩ := h
  obtain ⟨as, r1⟩ := Dp.reads I d x v hd rx
  rcases he with he | he
  · obtain ⟨bs, r2⟩ := Dp.reads I _ y u he ry
    exact SeqAt.notIn_list_data r2 r1 se sd (by omega) ⟨.bl _, H, I, rfl, q⟩
  · obtain ⟨bs, r2⟩ := Dp.reads I _ y u he ry
    exact SeqAt.notIn_tuple_data r2 r1 se sd (by omega) ⟨.bl _, H, I, rfl, q⟩
end
end DL

namespace DL
open PySem L2
section
variable {X : Cx} {C : CA}
/-! ### in -/
def lookD (ks : List (Key × D)) (k : Key) : Option D := (ks.find? fun p => decide (p.1 = k)).map (·.2)
theorem RpKV.look {K : PySem.W.Frag} {F : Hp} {kvs : List (Key × V)} {ks : List (Key × D)} (h : RpKV K C F kvs ks) (k : Key) : (valV kvs k = none ∧ lookD ks k = none) ∨ ∃ v d, valV kvs k = some v ∧ lookD ks k = some d ∧ Rp K C F v d := by
  induction kvs generalizing ks with
  | nil => cases h; exact .inl ⟨rfl, rfl⟩
  | cons p kvs ih =>
    cases h with
    | @cons k' v _ d ds h1 h2 =>
      by_cases e : k' = k
      · exact .inr ⟨v, d, valV_pos e, by simp [lookD, List.find?_cons, e], h1⟩
      · have e2 : lookD ((k', d) :: ds) k = lookD ds k := by simp [lookD, List.find?_cons, e]
        rw [valV_neg (show ¬ (k', v).1 = k from e), e2]
        exact ih h2
theorem hasK_look (ks : List (Key × D)) (k : Key) : hasK ks k = (lookD ks k).isSome := by
  induction ks with
  | nil => rfl
  | cons p ks ih =>
    by_cases e : p.1 = k
    · simp [hasK, lookD, List.find?_cons, e]
    · have : hasK (p :: ks) k = hasK ks k := by simp [hasK, e]
      rw [this, ih]
      simp [lookD, List.find?_cons, e]
theorem RpKV.has {K : PySem.W.Frag} {F : Hp} {kvs : List (Key × V)} {ks : List (Key × D)} (h : RpKV K C F kvs ks) (k : Key) : (valV kvs k).isSome = hasK ks k := by
  rw [hasK_look]
  rcases h.look k with ⟨h1, h2⟩ | ⟨v, d, h1, h2, _⟩ <;> rw [h1, h2] <;> rfl
def rDin (neg : Bool) : R2 := fun y x H Q => ∃ a o, x = .ref a ∧ DGet H a y o ∧ Q (.bl (if neg then !o.isSome else o.isSome)) H
theorem op_din (hu : X.A.units + 64 < cLine) : OpR X (compareOp .In) (rDin false) := by
  intro pins s σ H x y v u Q I rx ry h
  obtain ⟨a, o, rfl, g, q⟩ := h
  obtain rfl : u = Value.ref a := ry
  exact d_in (by omega) I g rx fun s3 I3 => ⟨.bl o.isSome, H, I3, rfl, q⟩
theorem op_dnotin (hu : X.A.units + 64 < cLine) : OpR X (compareOp .NotIn) (rDin true) := by
  intro pins s σ H x y v u Q I rx ry h
  obtain ⟨a, o, rfl, g, q⟩ := h
  obtain rfl : u = Value.ref a := ry
  exact d_notIn (by omega) I g rx fun s3 I3 => ⟨.bl (!o.isSome), H, I3, rfl, q⟩
theorem keyD_v {K : PySem.W.Frag} {F H : Hp} {v : V} {d : D} {k : Key} (h : Rb K C F H v d) (e : keyD d = some k) : v = kV k := by
  cases d <;> cases e
  · rw [h.int]; rfl
  · rw [h.str]; rfl
theorem keyD_d {d : D} {k : Key} (e : keyD d = some k) : d = (match k with | .inl i => D.int i | .inr x => D.str x) := by
  cases d <;> cases e <;> rfl
theorem inSeq {x : D} {xs : List D} {b : Bool} (h : (if plain x && plains xs && decide (min (dps xs) (dp x) ≤ 60) then some (anyE x xs) else none) = some b) : plain x = true ∧ plains xs = true ∧ min (dps xs) (dp x) ≤ 60 ∧ b = (toPys xs).any fun y => PyData.eqv y (toPy x) := by
  split at h
  · next q =>
    simp only [Bool.and_eq_true, decide_eq_true_eq] at q
    obtain ⟨⟨h1, h2⟩, h3⟩ := q
    cases h
    exact ⟨h1, h2, h3, any_py h1 h2⟩
  · cases h
theorem in_any {neg : Bool} {K : PySem.W.Frag} {F H : Hp} {x y : V} {dx dy : D} {b : Bool} {Q : VK} (s : Same F H) (rx : Rb K C F H x dx) (ry : Rb K C F H y dy) (e : inB dx dy = some b) (k : Q (.bl (if neg then !b else b)) H) :
    rInP K neg x y H Q ∨ rDin neg x y H Q ∨ ∃ i j, x = .str i ∧ y = .str j ∧ Q (.bl (if neg then !(!(Builtin.Str.occurrences j i 0 j.length 1).isEmpty) else !(Builtin.Str.occurrences j i 0 j.length 1).isEmpty)) H := by
  have d1 := dp_py dx
  cases dy <;> simp only [inB] at e <;> try (cases e; done)
  · -- a text
    rename_i t
    cases dx <;> try (cases e; done)
    cases e
    rw [rx.str, ry.str]
    exact .inr (.inr ⟨_, _, rfl, rfl, k⟩)
  · -- a list
    rename_i xs
    have d2 := dps_py xs
    obtain ⟨h1, h2, h3, rfl⟩ := inSeq e
    exact .inl ⟨_, _, rx.dp s h1, .inl (ry.dp (d := .lst xs) s h2), plain_py _ h1, plains_py _ h2, by omega, k⟩
  · rename_i xs
    have d2 := dps_py xs
    obtain ⟨h1, h2, h3, rfl⟩ := inSeq e
    exact .inl ⟨_, _, rx.dp s h1, .inr (ry.dp (d := .tup xs) s h2), plain_py _ h1, plains_py _ h2, by omega, k⟩
  · rename_i ks
    obtain ⟨kk, e1, e⟩ := Option.bind_eq_some_iff.mp e
    cases e
    obtain ⟨a, kvs, rfl, rd, rk⟩ := ry.dic s
    refine .inr (.inl ⟨a, valV kvs kk, rfl, .inl ⟨kvs, kk, rd, keyD_v rx e1, rfl⟩, ?_⟩)
    rw [rk.has]
    exact k
theorem od_in (hu : X.A.units + 64 < cLine) : OpD X C (compareOp .In) inD := by
  refine ⟨_, (op_inP hu).or ((op_din hu).or op_in_str), fun F H x y dx dy d Q s rx ry e k => ?_⟩
  obtain ⟨b, e1, e⟩ := Option.bind_eq_some_iff.mp e
  cases e
  exact in_any (neg := false) s rx ry e1 (k _ F H (Ext.rfl' s) (.bl _))
theorem od_notin (hu : X.A.units + 64 < cLine) : OpD X C (compareOp .NotIn) notInD := by
  refine ⟨_, (op_notInP hu).or ((op_dnotin hu).or op_notin_str), fun F H x y dx dy d Q s rx ry e k => ?_⟩
  obtain ⟨b, e1, e⟩ := Option.bind_eq_some_iff.mp e
  cases e
  exact in_any (neg := true) s rx ry e1 (k _ F H (Ext.rfl' s) (.bl _))
/-! ### numbers -/
def iiD (g : Int → Int → Option D) (x y : D) : Option D := match x with
  | .int i => (match y with
    | .int j => g i j
    | _ => none)
  | _ => none
theorem iiD_some {g : Int → Int → Option D} {x y d : D} (h : iiD g x y = some d) : ∃ i j, x = .int i ∧ y = .int j ∧ g i j = some d := by
  cases x <;> simp only [iiD] at h <;> try (cases h; done)
  cases y <;> try (cases h; done)
  exact ⟨_, _, rfl, rfl, h⟩
theorem od_ii {f : Value → Value → Sem Value} {Cn : Int → Int → Prop} {gv : Int → Int → V} {g : Int → Int → Option D} (h : OpR X f (rI Cn gv)) (hg : ∀ i j d, g i j = some d → Cn i j ∧ ∀ F, Rp X.K C F (gv i j) d) : OpD X C f (iiD g) := by
  refine ⟨_, h, fun F H x y dx dy d Q s rx ry e k => ?_⟩
  obtain ⟨i, j, rfl, rfl, e⟩ := iiD_some e
  obtain ⟨h1, h2⟩ := hg i j d e
  exact ⟨i, j, rx.int, ry.int, h1, k _ F H (Ext.rfl' s) (h2 F)⟩
theorem od_ii0 {f : Value → Value → Sem Value} {gv : Int → Int → V} {g : Int → Int → Option D} (h : OpR X f (rI0 gv)) (hg : ∀ i j d, g i j = some d → ∀ F, Rp X.K C F (gv i j) d) : OpD X C f (iiD g) := by
  refine ⟨_, h, fun F H x y dx dy d Q s rx ry e k => ?_⟩
  obtain ⟨i, j, rfl, rfl, e⟩ := iiD_some e
  exact ⟨i, j, rx.int, ry.int, k _ F H (Ext.rfl' s) (hg i j d e F)⟩
theorem OpD.or {f : Value → Value → Sem Value} {g g' : D → D → Option D} (h : OpD X C f g) (h' : OpD X C f g') : OpD X C f (fun x y => (g x y).or (g' x y)) := by
  obtain ⟨r, h1, h2⟩ := h
  obtain ⟨r', h1', h2'⟩ := h'
  refine ⟨_, h1.or h1', fun F H x y dx dy d Q s rx ry e k => ?_⟩
  cases q : g dx dy with
  | some z => simp only [q, Option.some_or] at e; cases e; exact .inl (h2 F H x y dx dy d Q s rx ry q k)
  | none => simp only [q, Option.none_or] at e; exact .inr (h2' F H x y dx dy d Q s rx ry e k)
def subD := iiD fun i j => some (.int (i - j))
theorem od_sub : OpD X C (binaryOp .Sub) subD := od_ii0 op_sub fun i j d e F => by cases e; exact .int _
def mulB (i j : Int) : Bool := (decide (-(2 ^ 64) < i) && decide (i < 2 ^ 64)) || (decide (-(2 ^ 64) < j) && decide (j < 2 ^ 64))
def mulD := iiD fun i j => if mulB i j then some (.int (i * j)) else none
theorem od_mulI : OpD X C (binaryOp .Mult) mulD := od_ii op_mul fun i j d e => by
  split at e
  · next q =>
    cases e
    simp only [mulB, Bool.or_eq_true, Bool.and_eq_true, decide_eq_true_eq] at q
    exact ⟨q, fun F => .int _⟩
  · cases e
def fdivD := iiD fun i j => if decide (j ≠ 0) && decide (j.natAbs < 1073741824) then some (.int (i.fdiv j)) else none
theorem od_fdiv : OpD X C (binaryOp .FloorDiv) fdivD := od_ii op_fdivN fun i j d e => by
  split at e
  · next q =>
    cases e
    simp only [Bool.and_eq_true, decide_eq_true_eq] at q
    exact ⟨q, fun F => .int _⟩
  · cases e
def modD := iiD fun i j => if j = 0 then none else some (.int (i.fmod j))
theorem od_mod : OpD X C (binaryOp .Mod) modD := od_ii op_modN fun i j d e => by
  split at e
  · cases e
  · next q => cases e; exact ⟨q, fun F => .int _⟩
def powB (i j : Int) : Bool := decide (0 ≤ j) && decide (j ≤ 1000000) && decide (i.natAbs < 2 ^ 64)
theorem powB_c {i j : Int} (q : powB i j = true) : CPow i j := by
  simp only [powB, Bool.and_eq_true, decide_eq_true_eq] at q
  exact ⟨q.1.1, q.1.2, q.2⟩
def powD := iiD fun i j => if powB i j then some (.int (i ^ j.toNat)) else none
theorem od_pow : OpD X C (binaryOp .Pow) powD := od_ii op_pow fun i j d e => by
  split at e
  · next q => cases e; exact ⟨powB_c q, fun F => .int _⟩
  · cases e
def shlD := iiD fun i j => if powB i j then some (.int (i * 2 ^ j.toNat)) else none
theorem od_shl : OpD X C (binaryOp .LShift) shlD := od_ii op_shl fun i j d e => by
  split at e
  · next q => cases e; exact ⟨powB_c q, fun F => .int _⟩
  · cases e
def shrD := iiD fun i j => if 0 ≤ j then some (.int (i / 2 ^ j.toNat)) else none
theorem od_shr : OpD X C (binaryOp .RShift) shrD := od_ii op_shr fun i j d e => by
  split at e
  · next q => cases e; exact ⟨q, fun F => .int _⟩
  · cases e
def andD := iiD fun i j => some (.int (Builtin.bitAnd i j))
theorem od_and : OpD X C (binaryOp .BitAnd) andD := od_ii0 op_and fun i j d e F => by cases e; exact .int _
def ltD := iiD fun i j => some (.bl (decide (i < j)))
theorem od_lt : OpD X C (compareOp .Lt) ltD := od_ii0 op_lt fun i j d e F => by cases e; exact .bl _
def leD := iiD fun i j => some (.bl (decide (i ≤ j)))
theorem od_le : OpD X C (compareOp .LtE) leD := od_ii0 op_le fun i j d e F => by cases e; exact .bl _
def gtD := iiD fun i j => some (.bl (decide (j < i)))
theorem od_gt : OpD X C (compareOp .Gt) gtD := od_ii0 op_gt fun i j d e F => by cases e; exact .bl _
def geD := iiD fun i j => some (.bl (decide (j ≤ i)))
theorem od_ge : OpD X C (compareOp .GtE) geD := od_ii0 op_ge fun i j d e F => by cases e; exact .bl _
/-! ### + -/
def addII := iiD fun i j => some (.int (i + j))
def addSS (x y : D) : Option D := match x with
  | .str i => (match y with
    | .str j => gd (i.length + j.length) (some (.str (i ++ j)))
    | _ => none)
  | _ => none
def addLL (x y : D) : Option D := match x with
  | .lst i => (match y with
    | .lst j => gd (i.length + j.length) (some (.lst (i ++ j)))
    | _ => none)
  | _ => none
theorem od_addII : OpD X C (binaryOp .Add) addII := od_ii0 op_add fun i j d e F => by cases e; exact .int _
theorem od_addSS : OpD X C (binaryOp .Add) addSS := by
  refine ⟨_, op_add_str, fun F H x y dx dy d Q s rx ry e k => ?_⟩
  cases dx <;> simp only [addSS] at e <;> try (cases e; done)
  cases dy <;> try (cases e; done)
  obtain ⟨hl, e⟩ := gd_some e
  cases e
  exact ⟨_, _, rx.str, ry.str, hl, k _ F H (Ext.rfl' s) (.str _)⟩
theorem od_addLL : OpD X C (binaryOp .Add) addLL := by
  refine ⟨_, op_cat, fun F H x y dx dy d Q s rx ry e k => ?_⟩
  cases dx <;> simp only [addLL] at e <;> try (cases e; done)
  cases dy <;> try (cases e; done)
  obtain ⟨hl, e⟩ := gd_some e
  cases e
  obtain ⟨a, vs, rfl, h1, l1, r1⟩ := rx.lst s
  obtain ⟨b, ws, rfl, h2, l2, r2⟩ := ry.lst s
  have hl' : vs.length + ws.length ≤ sizeLine := by rw [r1.length, r2.length]; exact hl
  refine ⟨a, b, vs, ws, rfl, rfl, h1, h2, hl', fun p hp => ?_⟩
  have ex : Ext F H (upd F p (.lst (vs ++ ws))) (upd H p (.lst (vs ++ ws))) := Ext.laid s hp
  exact k _ _ _ ex (.lst upd_same (by rw [List.length_append]; exact hl') ((r1.app r2).mono ex.sub))
def addD (x y : D) : Option D := (addII x y).or ((addSS x y).or (addLL x y))
theorem od_add : OpD X C (binaryOp .Add) addD := od_addII.or (od_addSS.or od_addLL)
/-! ### is None -/
def isNon : D → Bool
  | .non => true
  | _ => false
def isND (x y : D) : Option D := match y with
  | .non => some (.bl (isNon x))
  | _ => none
def isNotND (x y : D) : Option D := match y with
  | .non => some (.bl (!isNon x))
  | _ => none
theorem rb_non {K : PySem.W.Frag} {F H : Hp} {v : V} {d : D} (h : Rb K C F H v d) : decide (v = .non) = isNon d := by
  rcases h with h | ⟨a, rfl, h⟩
  · cases h <;> simp [isNon]
  · cases d <;> simp only [Own] at h <;> simp [isNon]
theorem od_isN : OpD X C (compareOp .Is) isND := by
  refine ⟨_, op_isN, fun F H x y dx dy d Q s rx ry e k => ?_⟩
  cases dy <;> simp only [isND] at e <;> try (cases e; done)
  cases e
  refine ⟨ry.non, ?_⟩
  rw [rb_non rx]
  exact k _ F H (Ext.rfl' s) (.bl _)
theorem od_isNotN : OpD X C (compareOp .IsNot) isNotND := by
  refine ⟨_, op_notN, fun F H x y dx dy d Q s rx ry e k => ?_⟩
  cases dy <;> simp only [isNotND] at e <;> try (cases e; done)
  cases e
  refine ⟨ry.non, ?_⟩
  rw [rb_non rx]
  exact k _ F H (Ext.rfl' s) (.bl _)
/-- -x -/
def fNeg (f : EF) : EF := fun env => (f env).bind fun p => (rdB p.2 p.1).bind fun x => match x with
  | .int i => some (.val (.int (-i)), p.2)
  | _ => none
theorem de_neg {c : Cs} {a : Expr} {f : EF} {pos : Pos} (h : DE X C c a f) : DE X C c (.UnaryOp .USub a pos) (fNeg f) := by
  refine PE.imp (pe_un un_neg h) fun σ H Q ⟨z, F, env, b, env', S, e, k⟩ => ?_
  obtain ⟨⟨b1, e1⟩, h1, e⟩ := Option.bind_eq_some_iff.mp e
  obtain ⟨x, hx, e⟩ := Option.bind_eq_some_iff.mp e
  cases x <;> simp only at e <;> try (cases e; done)
  cases e
  exact ⟨z, F, env, b1, _, S, h1, fun v F1 H1 s1 S1 r1 => ⟨_, (r1.rb S1 hx).int, k _ F1 H1 s1 S1 (.int _)⟩⟩
/-! ### x[i] -/
def ixS (xs : List D) (i : Int) : Option D := atI xs i
def subSc (x y : D) : Option D := match x with
  | .lst xs => (match y with
    | .int i => atI xs i
    | _ => none)
  | .tup xs => (match y with
    | .int i => atI xs i
    | _ => none)
  | .scr ns => (match y with
    | .int i => (atI ns i).bind fun n => some (.int n)
    | _ => none)
  | .str t => (match y with
    | .int i => gd t.length ((atI t.cps.toList i).bind fun c => some (.str ⟨#[c]⟩))
    | _ => none)
  | .dic ks => (keyD y).bind fun k => lookD ks k
  | _ => none
theorem atI_rp {K : PySem.W.Frag} {F : Hp} {vs : List V} {ds : List D} (h : RpAll K C F vs ds) {i : Int} {d : D} (e : atI ds i = some d) : ∃ v, atI vs i = some v ∧ Rp K C F v d := by
  unfold atI at e ⊢
  rw [h.length]
  obtain ⟨j, h1, h2⟩ := Option.bind_eq_some_iff.mp e
  rw [h1]
  exact h.get' h2
theorem atI_map {α β : Type} (f : α → β) (xs : List α) (i : Int) : atI (xs.map f) i = (atI xs i).map f := by
  unfold atI
  rw [List.length_map]
  cases ixN xs.length i with
  | none => rfl
  | some j => simp
theorem de_ix {c : Cs} {a b : Expr} {f g : EF} {pos : Pos} (hu : X.A.units + 64 < cLine) (ha : DE X C c a f) (hb : DE X C c b g) (hs : PlainIx b := by exact fun _ _ => rfl) : DE X C c (.Subscript a b pos) (f2 subSc f g) := by
  refine PE.imp (PE.or (pe_ix ix_seq ha hb hs) (pe_dget (by omega) ha hb hs)) fun σ H Q ⟨z, F, env, b, env', S, e, k⟩ => ?_
  simp only [f2, Option.bind_eq_some_iff] at e
  obtain ⟨⟨b1, e1⟩, h1, ⟨b2, e2⟩, h2, x, hx, y, hy, d, hd, e⟩ := e
  cases e
  by_cases hdic : ∃ ks, x = .dic ks
  · obtain ⟨ks, rfl⟩ := hdic
    refine .inr ⟨z, F, env, b1, e1, S, h1, fun v F1 H1 s1 S1 r1 => ⟨z, F1, e1, b2, e2, S1, h2, fun w F2 H2 s2 S2 r2 => ?_⟩⟩
    have rx := (r1.mono s2).rb S2 hx
    have ry := r2.rb S2 hy
    obtain ⟨kk, q1, q2⟩ := Option.bind_eq_some_iff.mp hd
    obtain ⟨a, kvs, rfl, rd, rk⟩ := rx.dic S2.sub
    rcases rk.look kk with ⟨_, q⟩ | ⟨u, d', q3, q4, q5⟩
    · rw [q] at q2; cases q2
    · rw [q2] at q4; cases q4
      exact ⟨a, u, rfl, .inl ⟨kvs, kk, rd, keyD_v ry q1, q3.symm⟩, k u F2 H2 (s1.trans s2) S2 q5⟩
  · refine .inl ⟨z, F, env, b1, e1, S, h1, fun v F1 H1 s1 S1 r1 => ⟨z, F1, e1, b2, e2, S1, h2, fun w F2 H2 s2 S2 r2 => ?_⟩⟩
    have rx := (r1.mono s2).rb S2 hx
    have ry := r2.rb S2 hy
    have fin : ∀ u, Rp X.K C F2 u d → Q u H2 := fun u r => k u F2 H2 (s1.trans s2) S2 r
    cases x <;> simp only [subSc] at hd <;> try (cases hd; done)
    · rename_i t
      cases y <;> simp only at hd <;> try (cases hd; done)
      obtain ⟨hl, hd⟩ := gd_some hd
      obtain ⟨cc, q, e⟩ := Option.bind_eq_some_iff.mp hd
      cases e
      exact .inr (.inr ⟨t, _, cc, rx.str, ry.int, hl, q, fin _ (.str _)⟩)
    · cases y <;> simp only at hd <;> try (cases hd; done)
      obtain ⟨a, vs, rfl, q, ql, r⟩ := rx.lst S2.sub
      obtain ⟨u, hu, ru⟩ := atI_rp r hd
      exact .inl ⟨a, vs, _, u, rfl, ry.int, SqL.of q, hu, fin u ru⟩
    · cases y <;> simp only at hd <;> try (cases hd; done)
      obtain ⟨a, vs, rfl, q, ql, r⟩ := rx.tup S2.sub
      obtain ⟨u, hu, ru⟩ := atI_rp r hd
      exact .inr (.inl ⟨a, vs, _, u, rfl, ry.int, q, hu, fin u ru⟩)
    · exact absurd ⟨_, rfl⟩ hdic
    · cases y <;> simp only at hd <;> try (cases hd; done)
      obtain ⟨n, q, e⟩ := Option.bind_eq_some_iff.mp hd
      cases e
      obtain ⟨a, rfl, q2⟩ := rx.scr S2.sub
      exact .inl ⟨a, _, _, .int n, rfl, ry.int, q2, by rw [atI_map, q]; rfl, fin _ (.int n)⟩
end
end DL

namespace DL
open PySem L2
/-! ### built-ins by name -/
inductive RbAll (K : PySem.W.Frag) (C : CA) (F H : Hp) : List V → List D → Prop
  | nil : RbAll K C F H [] []
  | cons {v : V} {vs : List V} {d : D} {ds : List D} : Rb K C F H v d → RbAll K C F H vs ds → RbAll K C F H (v :: vs) (d :: ds)
def rdAll (env : Env) : List B → Option (List D)
  | [] => some []
  | b :: bs => (rdB env b).bind fun d => (rdAll env bs).bind fun ds => some (d :: ds)
theorem RBs.rb {K : PySem.W.Frag} {C : CA} {c : Cs} {z : Zn} {F : Hp} {env : Env} {σ : St} {H : Hp} (S : SR K C c z F env σ H) : ∀ {vs : List V} {bs : List B} {ds : List D}, RBs K C c F σ vs bs → rdAll env bs = some ds → RbAll K C F H vs ds
  | _, _, _, .nil, e => by cases e; exact .nil
  | _, _, _, .cons h t, e => by
    obtain ⟨d, h1, e⟩ := Option.bind_eq_some_iff.mp e
    obtain ⟨ds, h2, e⟩ := Option.bind_eq_some_iff.mp e
    cases e
    exact .cons (h.rb S h1) (RBs.rb S t h2)
def CallD (X : Cx) (C : CA) (fv : Value) (op : List D → Option D) : Prop := ∃ r, CallR X fv r ∧
  ∀ F H vs ds d Q, Same F H → RbAll X.K C F H vs ds → op ds = some d → (∀ v F' H', Ext F H F' H' → Rp X.K C F' v d → Q v H') → r vs H Q
/-- the answer is a new object -/
def CallO (X : Cx) (C : CA) (fv : Value) (op : List D → Option D) : Prop := ∃ r, CallR X fv r ∧
  ∀ F H vs ds d Q, Same F H → RbAll X.K C F H vs ds → op ds = some d → (∀ p o, H p = none → Own X.K C F (upd H p o) p d → Q (.ref p) (upd H p o)) → r vs H Q
def fB (op : List D → Option D) (fa : AF) : EF := fun env => (fa env).bind fun p => (rdAll p.2 p.1).bind fun ds => (op ds).bind fun d => some (.val d, p.2)
def oB (op : List D → Option D) (fa : AF) : OF := fun env => (fa env).bind fun p => (rdAll p.2 p.1).bind fun ds => (op ds).bind fun d => some (d, p.2)
section
variable {m : Bool} {X : Cx} {C : CA} {c : Cs} {e a b : Expr} {es : List Expr} {fa : AF} {f g : EF} {op : List D → Option D} {pos p : Pos} {x : Str} {id T : String}
theorem de_bi (h : CallD X C (.builtin id) op) (hm : X.mg x = none) (hv : bootBuiltins x = some (.builtin id)) (ha : DA X C c (e :: es) fa) (hg : Gl X x := by rfl) (hn : x ≠ "__name__" := by decide) (hdb : (x == ("__debug__" : Str)) = false := by decide)
    (he : starEach (e :: es) X.env = (false, eval e X.env) :: starEach es X.env := by rfl) (hpl : (backTo pos (starEach es X.env)).any (·.1) = false := by rfl) : DE X C c (.Call (.Name x p) (e :: es) [] pos) (fB op fa) := by
  obtain ⟨r, hr, hw⟩ := h
  refine PE.imp (pe_callB hr hg hm hv ha hn hdb he hpl) fun σ H Q ⟨z, F, env, b, env', S, e, k⟩ => ?_
  simp only [fB, Option.bind_eq_some_iff] at e
  obtain ⟨⟨bs, e1⟩, h1, ds, h2, d, h3, e⟩ := e
  cases e
  exact ⟨z, F, env, bs, e1, S, h1, fun vs F1 H1 s1 S1 r1 => hw F1 H1 vs ds d Q S1.sub (r1.rb S1 h2) h3 fun v F2 H2 ex r2 => k v F2 H2 (s1.trans ex.sub) (S1.ext ex) r2⟩
theorem de_ty (h : CallD X C (.type T) op) (hm : X.mg x = none) (hv : bootBuiltins x = some (.type T)) (ha : DA X C c (e :: es) fa) (hg : Gl X x := by rfl) (hn : x ≠ "__name__" := by decide) (hdb : (x == ("__debug__" : Str)) = false := by decide)
    (he : starEach (e :: es) X.env = (false, eval e X.env) :: starEach es X.env := by rfl) (hpl : (backTo pos (starEach es X.env)).any (·.1) = false := by rfl) : DE X C c (.Call (.Name x p) (e :: es) [] pos) (fB op fa) := by
  obtain ⟨r, hr, hw⟩ := h
  refine PE.imp (pe_callTy hr hg hm hv ha hn hdb he hpl) fun σ H Q ⟨z, F, env, b, env', S, e, k⟩ => ?_
  simp only [fB, Option.bind_eq_some_iff] at e
  obtain ⟨⟨bs, e1⟩, h1, ds, h2, d, h3, e⟩ := e
  cases e
  exact ⟨z, F, env, bs, e1, S, h1, fun vs F1 H1 s1 S1 r1 => hw F1 H1 vs ds d Q S1.sub (r1.rb S1 h2) h3 fun v F2 H2 ex r2 => k v F2 H2 (s1.trans ex.sub) (S1.ext ex) r2⟩
theorem do_bi (h : CallO X C (.builtin id) op) (hm : X.mg x = none) (hv : bootBuiltins x = some (.builtin id)) (ha : DA X C c (e :: es) fa) (hg : Gl X x := by rfl) (hn : x ≠ "__name__" := by decide) (hdb : (x == ("__debug__" : Str)) = false := by decide)
    (he : starEach (e :: es) X.env = (false, eval e X.env) :: starEach es X.env := by rfl) (hpl : (backTo pos (starEach es X.env)).any (·.1) = false := by rfl) : DO X C c (.Call (.Name x p) (e :: es) [] pos) (oB op fa) := by
  obtain ⟨r, hr, hw⟩ := h
  refine PE.imp (pe_callB hr hg hm hv ha hn hdb he hpl) fun σ H Q ⟨z, F, env, b, env', S, e, k⟩ => ?_
  simp only [oB, Option.bind_eq_some_iff] at e
  obtain ⟨⟨bs, e1⟩, h1, ds, h2, d, h3, e⟩ := e
  cases e
  exact ⟨z, F, env, bs, e1, S, h1, fun vs F1 H1 s1 S1 r1 => hw F1 H1 vs ds _ Q S1.sub (r1.rb S1 h2) h3 fun p o hp ow => by
    obtain ⟨S2, fp, zp, ap, ng⟩ := S1.newO (o := o) hp
    exact k p F1 _ s1 S2 fp zp ow ap ng⟩
theorem do_ty (h : CallO X C (.type T) op) (hm : X.mg x = none) (hv : bootBuiltins x = some (.type T)) (ha : DA X C c (e :: es) fa) (hg : Gl X x := by rfl) (hn : x ≠ "__name__" := by decide) (hdb : (x == ("__debug__" : Str)) = false := by decide)
    (he : starEach (e :: es) X.env = (false, eval e X.env) :: starEach es X.env := by rfl) (hpl : (backTo pos (starEach es X.env)).any (·.1) = false := by rfl) : DO X C c (.Call (.Name x p) (e :: es) [] pos) (oB op fa) := by
  obtain ⟨r, hr, hw⟩ := h
  refine PE.imp (pe_callTy hr hg hm hv ha hn hdb he hpl) fun σ H Q ⟨z, F, env, b, env', S, e, k⟩ => ?_
  simp only [oB, Option.bind_eq_some_iff] at e
  obtain ⟨⟨bs, e1⟩, h1, ds, h2, d, h3, e⟩ := e
  cases e
  exact ⟨z, F, env, bs, e1, S, h1, fun vs F1 H1 s1 S1 r1 => hw F1 H1 vs ds _ Q S1.sub (r1.rb S1 h2) h3 fun p o hp ow => by
    obtain ⟨S2, fp, zp, ap, ng⟩ := S1.newO (o := o) hp
    exact k p F1 _ s1 S2 fp zp ow ap ng⟩
/-! ### len -/
theorem call_lenRd : CallR X (.builtin "len") (fun xs H Q => ∃ a kvs, xs = [V.ref a] ∧ Rd H a (.dK kvs) ∧ Q (.int kvs.length) H) := by
  intro pins s σ H xs us Q I r h
  obtain ⟨a, kvs, rfl, ha, q⟩ := h
  obtain ⟨u, rfl, ru⟩ := vals1 r
  cases ru
  exact d_len I ha fun t s' I' => ⟨.int kvs.length, H, I', ⟨t, rfl⟩, q⟩
theorem RpKV.length {K : PySem.W.Frag} {F : Hp} {kvs : List (Key × V)} {ks : List (Key × D)} (h : RpKV K C F kvs ks) : kvs.length = ks.length := by
  induction kvs generalizing ks with
  | nil => cases h; rfl
  | cons p kvs ih => cases h with | cons h1 h2 => simp [ih h2]
def lenOf : D → Option Int
  | .lst xs => some (xs.length : Int)
  | .tup xs => some (xs.length : Int)
  | .scr ns => some (ns.length : Int)
  | .dic ks => some (ks.length : Int)
  | .str t => gd t.length (some (t.length : Int))
  | _ => none
def lenD : List D → Option D
  | [x] => (lenOf x).bind fun n => some (.int n)
  | _ => none
theorem cd_len : CallD X C (.builtin "len") lenD := by
  refine ⟨_, call_len_seq.or (call_len_str.or call_lenRd), fun F H vs ds d Q s r e k => ?_⟩
  cases r with
  | nil => cases e
  | cons r1 r2 =>
    cases r2 with
    | cons _ _ => cases e
    | nil =>
      obtain ⟨n, h1, e⟩ := Option.bind_eq_some_iff.mp e
      cases e
      have fin : Q (.int n) H := k _ F H (Ext.rfl' s) (.int n)
      rename_i v d
      cases d <;> simp only [lenOf] at h1 <;> try (cases h1; done)
      · obtain ⟨hl, h1⟩ := gd_some h1
        cases h1
        exact .inr (.inl ⟨_, by rw [r1.str], hl, fin⟩)
      · cases h1
        obtain ⟨a, vs, rfl, q, ql, r⟩ := r1.lst s
        exact .inl ⟨a, vs, rfl, .inl (SqL.of q), by rw [r.length]; exact fin⟩
      · cases h1
        obtain ⟨a, vs, rfl, q, ql, r⟩ := r1.tup s
        exact .inl ⟨a, vs, rfl, .inr q, by rw [r.length]; exact fin⟩
      · cases h1
        obtain ⟨a, kvs, rfl, q, r⟩ := r1.dic s
        exact .inr (.inr ⟨a, kvs, rfl, q, by rw [r.length]; exact fin⟩)
      · cases h1
        obtain ⟨a, rfl, q⟩ := r1.scr s
        exact .inl ⟨a, _, rfl, .inl q, by rw [List.length_map]; exact fin⟩
/-! ### abs, int, max, min -/
def absD : List D → Option D
  | [.int i] => some (.int (if i < 0 then -i else i))
  | _ => none
theorem cd_abs : CallD X C (.builtin "abs") absD := by
  refine ⟨_, call_abs, fun F H vs ds d Q s r e k => ?_⟩
  unfold absD at e
  split at e
  · next i =>
    cases e
    cases r with
    | cons r1 r2 => cases r2; exact ⟨i, by rw [r1.int], k _ F H (Ext.rfl' s) (.int _)⟩
  · cases e
def intD : List D → Option D
  | [.int i] => some (.int i)
  | [.bl b] => some (.int (if b then 1 else 0))
  | _ => none
theorem cd_int : CallD X C (.type "int") intD := by
  refine ⟨_, call_int1, fun F H vs ds d Q s r e k => ?_⟩
  unfold intD at e
  split at e
  · next i =>
    cases e
    cases r with
    | cons r1 r2 => cases r2; exact .inl ⟨i, by rw [r1.int], k _ F H (Ext.rfl' s) (.int _)⟩
  · next i =>
    cases e
    cases r with
    | cons r1 r2 => cases r2; exact .inr ⟨i, by rw [r1.bl], k _ F H (Ext.rfl' s) (.int _)⟩
  · cases e
/-- the ints of a list of data -/
def intsD : List D → Option (List Int)
  | [] => some []
  | .int i :: ds => (intsD ds).bind fun ns => some (i :: ns)
  | _ => none
theorem intsD_rp {K : PySem.W.Frag} {F : Hp} : ∀ {vs : List V} {ds : List D} {ns : List Int}, RpAll K C F vs ds → intsD ds = some ns → vs = ns.map V.int
  | _, _, _, .nil, e => by cases e; rfl
  | _, d :: ds, _, .cons h t, e => by
    cases d <;> simp only [intsD] at e <;> try (cases e; done)
    obtain ⟨ns, h1, e⟩ := Option.bind_eq_some_iff.mp e
    cases e
    cases h
    rw [List.map_cons, intsD_rp t h1]
theorem intsD_map (ns : List Int) : intsD (ns.map D.int) = some ns := by
  induction ns with
  | nil => rfl
  | cons n ns ih => simp [intsD, ih]
theorem intsD_eq : ∀ {ds : List D} {ns : List Int}, intsD ds = some ns → ds = ns.map D.int
  | [], _, e => by cases e; rfl
  | d :: ds, _, e => by
    cases d <;> simp only [intsD] at e <;> try (cases e; done)
    obtain ⟨ns, h1, e⟩ := Option.bind_eq_some_iff.mp e
    cases e
    rw [List.map_cons, ← intsD_eq h1]
theorem rp_ints {K : PySem.W.Frag} {F : Hp} : ∀ (ns : List Int), RpAll K C F (ns.map V.int) (ns.map D.int)
  | [] => .nil
  | n :: ns => .cons (.int n) (rp_ints ns)
def maxI : List Int → Int
  | [] => 0
  | n :: ns => ns.foldl max n
def minI : List Int → Int
  | [] => 0
  | n :: ns => ns.foldl min n
theorem foldl_max (ns : List Int) : ∀ n : Int, n ≤ ns.foldl max n ∧ (∀ y ∈ ns, y ≤ ns.foldl max n) ∧ (ns.foldl max n = n ∨ ns.foldl max n ∈ ns) := by
  induction ns with
  | nil => intro n; exact ⟨Int.le_refl _, fun _ h => (nomatch h), .inl rfl⟩
  | cons m ns ih =>
    intro n
    obtain ⟨h1, h2, h3⟩ := ih (max n m)
    refine ⟨by simp only [List.foldl_cons]; omega, fun y hy => ?_, ?_⟩
    · simp only [List.foldl_cons]
      rcases List.mem_cons.mp hy with q | q
      · subst q; omega
      · exact h2 y q
    · simp only [List.foldl_cons]
      rcases h3 with q | q
      · by_cases hnm : n ≤ m
        · right; rw [q, Int.max_eq_right hnm]; exact List.mem_cons_self ..
        · left; rw [q]; omega
      · right; exact List.mem_cons_of_mem _ q
theorem foldl_min (ns : List Int) : ∀ n : Int, ns.foldl min n ≤ n ∧ (∀ y ∈ ns, ns.foldl min n ≤ y) ∧ (ns.foldl min n = n ∨ ns.foldl min n ∈ ns) := by
  induction ns with
  | nil => intro n; exact ⟨Int.le_refl _, fun _ h => (nomatch h), .inl rfl⟩
  | cons m ns ih =>
    intro n
    obtain ⟨h1, h2, h3⟩ := ih (min n m)
    refine ⟨by simp only [List.foldl_cons]; omega, fun y hy => ?_, ?_⟩
    · simp only [List.foldl_cons]
      rcases List.mem_cons.mp hy with q | q
      · subst q; omega
      · exact h2 y q
    · simp only [List.foldl_cons]
      rcases h3 with q | q
      · by_cases hnm : m ≤ n
        · right; rw [q, Int.min_eq_right hnm]; exact List.mem_cons_self ..
        · left; rw [q]; omega
      · right; exact List.mem_cons_of_mem _ q
theorem maxI_le {ns : List Int} {y : Int} (h : y ∈ ns) : y ≤ maxI ns := by
  cases ns with
  | nil => cases h
  | cons n ns =>
    rcases List.mem_cons.mp h with q | q
    · subst q; exact (foldl_max ns _).1
    · exact (foldl_max ns n).2.1 y q
theorem maxI_mem {ns : List Int} (h : ns ≠ []) : maxI ns ∈ ns := by
  cases ns with
  | nil => exact absurd rfl h
  | cons n ns =>
    rcases (foldl_max ns n).2.2 with q | q
    · show ns.foldl max n ∈ _; rw [q]; exact List.mem_cons_self ..
    · exact List.mem_cons_of_mem _ q
theorem minI_le {ns : List Int} {y : Int} (h : y ∈ ns) : minI ns ≤ y := by
  cases ns with
  | nil => cases h
  | cons n ns =>
    rcases List.mem_cons.mp h with q | q
    · subst q; exact (foldl_min ns _).1
    · exact (foldl_min ns n).2.1 y q
theorem minI_mem {ns : List Int} (h : ns ≠ []) : minI ns ∈ ns := by
  cases ns with
  | nil => exact absurd rfl h
  | cons n ns =>
    rcases (foldl_min ns n).2.2 with q | q
    · show ns.foldl min n ∈ _; rw [q]; exact List.mem_cons_self ..
    · exact List.mem_cons_of_mem _ q
/-- of a list of data that is not empty, all ints -/
def intsNE (ds : List D) : Option (List Int) := (intsD ds).bind fun ns => match ns with
  | [] => none
  | n :: ns => some (n :: ns)
theorem intsNE_some {ds : List D} {ns : List Int} (h : intsNE ds = some ns) : intsD ds = some ns ∧ ns ≠ [] := by
  obtain ⟨ms, h1, h⟩ := Option.bind_eq_some_iff.mp h
  cases ms with
  | nil => cases h
  | cons _ _ => cases h; exact ⟨h1, by simp⟩
def maxD : List D → Option D
  | [.int i, .int j] => some (.int (if j > i then j else i))
  | [.lst ds] => (intsNE ds).bind fun ns => some (.int (maxI ns))
  | _ => none
theorem cd_max (hc : X.calm = true) : CallD X C (.builtin "max") maxD := by
  refine ⟨_, (call_max2 hc).or (cr_max hc), fun F H vs ds d Q s r e k => ?_⟩
  unfold maxD at e
  split at e
  · next i j =>
    cases e
    cases r with
    | cons r1 r2 => cases r2 with
      | cons r2 r3 => cases r3; exact .inl ⟨i, j, by rw [r1.int, r2.int], k _ F H (Ext.rfl' s) (.int _)⟩
  · next ds =>
    obtain ⟨ns, h1, e⟩ := Option.bind_eq_some_iff.mp e
    cases e
    obtain ⟨h1, hne⟩ := intsNE_some h1
    cases r with
    | cons r1 r2 =>
      cases r2
      obtain ⟨a, vs, rfl, q, ql, r⟩ := r1.lst s
      have ev := intsD_rp r h1
      subst ev
      refine .inr ⟨a, ns, rfl, SqL.of q, List.length_pos_iff.mpr hne, fun m hm hle => ?_⟩
      have : m = maxI ns := Int.le_antisymm (maxI_le hm) (hle _ (maxI_mem hne))
      rw [this]
      exact k _ F H (Ext.rfl' s) (.int _)
  · cases e
def minD : List D → Option D
  | [.int i, .int j] => some (.int (if j < i then j else i))
  | [.lst ds] => (intsNE ds).bind fun ns => some (.int (minI ns))
  | _ => none
theorem cd_min (hc : X.calm = true) : CallD X C (.builtin "min") minD := by
  refine ⟨_, (call_min2 hc).or (cr_min hc), fun F H vs ds d Q s r e k => ?_⟩
  unfold minD at e
  split at e
  · next i j =>
    cases e
    cases r with
    | cons r1 r2 => cases r2 with
      | cons r2 r3 => cases r3; exact .inl ⟨i, j, by rw [r1.int, r2.int], k _ F H (Ext.rfl' s) (.int _)⟩
  · next ds =>
    obtain ⟨ns, h1, e⟩ := Option.bind_eq_some_iff.mp e
    cases e
    obtain ⟨h1, hne⟩ := intsNE_some h1
    cases r with
    | cons r1 r2 =>
      cases r2
      obtain ⟨a, vs, rfl, q, ql, r⟩ := r1.lst s
      have ev := intsD_rp r h1
      subst ev
      refine .inr ⟨a, ns, rfl, SqL.of q, List.length_pos_iff.mpr hne, fun m hm hle => ?_⟩
      have : m = minI ns := Int.le_antisymm (hle _ (minI_mem hne)) (minI_le hm)
      rw [this]
      exact k _ F H (Ext.rfl' s) (.int _)
  · cases e
/-! ### sum, all, any -/
def sumD : List D → Option D
  | [.lst ds] => (intsD ds).bind fun ns => some (.int ns.sum)
  | _ => none
theorem cd_sum (hc : X.calm = true) : CallD X C (.builtin "sum") sumD := by
  refine ⟨_, cr_sum hc, fun F H vs ds d Q s r e k => ?_⟩
  unfold sumD at e
  split at e
  · next ds =>
    obtain ⟨ns, h1, e⟩ := Option.bind_eq_some_iff.mp e
    cases e
    cases r with
    | cons r1 r2 =>
      cases r2
      obtain ⟨a, vs, rfl, q, ql, r⟩ := r1.lst s
      have ev := intsD_rp r h1
      subst ev
      exact ⟨a, ns, rfl, SqL.of q, k _ F H (Ext.rfl' s) (.int _)⟩
  · cases e
def blsD : List D → Option (List Bool)
  | [] => some []
  | .bl i :: ds => (blsD ds).bind fun ns => some (i :: ns)
  | _ => none
theorem blsD_rp {K : PySem.W.Frag} {F : Hp} : ∀ {vs : List V} {ds : List D} {ns : List Bool}, RpAll K C F vs ds → blsD ds = some ns → vs = ns.map V.bl
  | _, _, _, .nil, e => by cases e; rfl
  | _, d :: ds, _, .cons h t, e => by
    cases d <;> simp only [blsD] at e <;> try (cases e; done)
    obtain ⟨ns, h1, e⟩ := Option.bind_eq_some_iff.mp e
    cases e
    cases h
    rw [List.map_cons, blsD_rp t h1]
theorem blsD_map (ns : List Bool) : blsD (ns.map D.bl) = some ns := by
  induction ns with
  | nil => rfl
  | cons n ns ih => simp [blsD, ih]
def allD : List D → Option D
  | [.lst ds] => (blsD ds).bind fun ns => some (.bl (ns.all _root_.id))
  | _ => none
def anyD : List D → Option D
  | [.lst ds] => (blsD ds).bind fun ns => some (.bl (ns.any _root_.id))
  | _ => none
theorem cd_all (hc : X.calm = true) : CallD X C (.builtin "all") allD := by
  refine ⟨_, cr_all hc, fun F H vs ds d Q s r e k => ?_⟩
  unfold allD at e
  split at e
  · next ds =>
    obtain ⟨ns, h1, e⟩ := Option.bind_eq_some_iff.mp e
    cases e
    cases r with
    | cons r1 r2 =>
      cases r2
      obtain ⟨a, vs, rfl, q, ql, r⟩ := r1.lst s
      have ev := blsD_rp r h1
      subst ev
      exact ⟨a, ns, rfl, SqL.of q, k _ F H (Ext.rfl' s) (.bl _)⟩
  · cases e
theorem cd_any (hc : X.calm = true) : CallD X C (.builtin "any") anyD := by
  refine ⟨_, cr_any hc, fun F H vs ds d Q s r e k => ?_⟩
  unfold anyD at e
  split at e
  · next ds =>
    obtain ⟨ns, h1, e⟩ := Option.bind_eq_some_iff.mp e
    cases e
    cases r with
    | cons r1 r2 =>
      cases r2
      obtain ⟨a, vs, rfl, q, ql, r⟩ := r1.lst s
      have ev := blsD_rp r h1
      subst ev
      exact ⟨a, ns, rfl, SqL.of q, k _ F H (Ext.rfl' s) (.bl _)⟩
  · cases e
/-! ### list(), tuple() -/
def listD : List D → Option D
  | [.lst ds] => some (.lst ds)
  | [.tup ds] => some (.lst ds)
  | _ => none
theorem co_list : CallO X C (.type "list") listD := by
  refine ⟨_, call_list_of, fun F H vs ds d Q s r e k => ?_⟩
  unfold listD at e
  split at e
  · next ds =>
    cases e
    cases r with
    | cons r1 r2 =>
      cases r2
      obtain ⟨a, vs, rfl, q, ql, r⟩ := r1.lst s
      exact ⟨a, vs, rfl, .inl (SqL.of q), fun l hl => k l _ hl ⟨vs, upd_same, ql, r⟩⟩
  · next ds =>
    cases e
    cases r with
    | cons r1 r2 =>
      cases r2
      obtain ⟨a, vs, rfl, q, ql, r⟩ := r1.tup s
      exact ⟨a, vs, rfl, .inr q, fun l hl => k l _ hl ⟨vs, upd_same, ql, r⟩⟩
  · cases e
def tupleD : List D → Option D
  | [.lst ds] => some (.tup ds)
  | [.tup ds] => some (.tup ds)
  | _ => none
theorem cd_tuple : CallD X C (.type "tuple") tupleD := by
  refine ⟨_, call_tuple_of, fun F H vs ds d Q s r e k => ?_⟩
  unfold tupleD at e
  split at e
  · next ds =>
    cases e
    cases r with
    | cons r1 r2 =>
      cases r2
      obtain ⟨a, vs, rfl, q, ql, r⟩ := r1.lst s
      refine ⟨a, vs, rfl, .inl ⟨SqL.of q, fun l hl => ?_⟩⟩
      have ex : Ext F H (upd F l (.tup vs)) (upd H l (.tup vs)) := Ext.laid s hl
      exact k _ _ _ ex (.tup (SqT.of upd_same) ql (r.mono ex.sub))
  · next ds =>
    cases e
    cases r with
    | cons r1 r2 =>
      cases r2
      rcases r1 with r1 | ⟨a, rfl, r1⟩
      · cases r1 with
        | tup h1 hl h2 => exact ⟨_, _, rfl, .inr ⟨SqT.sub s h1, k _ F H (Ext.rfl' s) (.tup h1 hl h2)⟩⟩
      · exact r1.elim
  · cases e
/-! ### sorted of ints -/
def insI (n : Int) : List Int → List Int
  | [] => [n]
  | m :: ms => if n ≤ m then n :: m :: ms else m :: insI n ms
def sortI : List Int → List Int
  | [] => []
  | n :: ns => insI n (sortI ns)
theorem insI_perm (n : Int) : ∀ ns : List Int, (insI n ns).Perm (n :: ns)
  | [] => .refl _
  | m :: ms => by
    unfold insI
    split
    · exact .refl _
    · exact ((insI_perm n ms).cons m).trans (.swap n m ms)
theorem sortI_perm : ∀ ns : List Int, (sortI ns).Perm ns
  | [] => .refl _
  | n :: ns => (insI_perm n (sortI ns)).trans ((sortI_perm ns).cons n)
theorem insI_sorted (n : Int) : ∀ ns : List Int, ns.Pairwise (· ≤ ·) → (insI n ns).Pairwise (· ≤ ·)
  | [], _ => List.pairwise_singleton _ _
  | m :: ms, h => by
    unfold insI
    have h' := List.pairwise_cons.mp h
    split
    · next q =>
      refine List.pairwise_cons.mpr ⟨fun y hy => ?_, h⟩
      rcases List.mem_cons.mp hy with z | z
      · subst z; exact q
      · have := h'.1 y z; omega
    · next q =>
      refine List.pairwise_cons.mpr ⟨fun y hy => ?_, insI_sorted n ms h'.2⟩
      have hy' := (insI_perm n ms).mem_iff.mp hy
      rcases List.mem_cons.mp hy' with z | z
      · subst z; omega
      · exact h'.1 y z
theorem sortI_sorted : ∀ ns : List Int, (sortI ns).Pairwise (· ≤ ·)
  | [] => .nil
  | n :: ns => insI_sorted n _ (sortI_sorted ns)
theorem sorted_unique : ∀ {xs ys : List Int}, xs.Perm ys → xs.Pairwise (· ≤ ·) → ys.Pairwise (· ≤ ·) → xs = ys
  | [], ys, p, _, _ => (List.Perm.nil_eq p)
  | x :: xs, [], p, _, _ => by have := p.length_eq; simp at this
  | x :: xs, y :: ys, p, hx, hy => by
    have hx' := List.pairwise_cons.mp hx
    have hy' := List.pairwise_cons.mp hy
    have e : x = y := by
      have h1 : x ∈ y :: ys := p.mem_iff.mp (List.mem_cons_self ..)
      have h2 : y ∈ x :: xs := p.mem_iff.mpr (List.mem_cons_self ..)
      have a1 : y ≤ x := by
        rcases List.mem_cons.mp h1 with q | q
        · rw [q]; exact Int.le_refl _
        · exact hy'.1 x q
      have a2 : x ≤ y := by
        rcases List.mem_cons.mp h2 with q | q
        · rw [q]; exact Int.le_refl _
        · exact hx'.1 y q
      exact Int.le_antisymm a2 a1
    subst e
    rw [sorted_unique (List.perm_cons x |>.mp p) hx'.2 hy'.2]
def sortedI : List D → Option D
  | [.lst ds] => (intsD ds).bind fun ns => some (.lst ((sortI ns).map D.int))
  | _ => none
theorem co_sorted : CallO X C (.builtin "sorted") sortedI := by
  refine ⟨_, cr_sortedI, fun F H vs ds d Q s r e k => ?_⟩
  unfold sortedI at e
  split at e
  · next ds =>
    obtain ⟨ns, h1, e⟩ := Option.bind_eq_some_iff.mp e
    cases e
    cases r with
    | cons r1 r2 =>
      cases r2
      obtain ⟨a, vs, rfl, q, ql, r⟩ := r1.lst s
      have ev := intsD_rp r h1
      subst ev
      refine ⟨a, ns, rfl, SqL.of q, fun ns' p hp hs hn => ?_⟩
      have e2 : ns' = sortI ns := sorted_unique (hp.trans (sortI_perm ns).symm) hs (sortI_sorted ns)
      subst e2
      refine k p _ hn ⟨_, upd_same, ?_, rp_ints _⟩
      rw [List.length_map] at ql ⊢
      rw [(sortI_perm ns).length_eq]
      exact ql
  · cases e
end
end DL

namespace DL
open PySem L2
section
variable {m : Bool} {X : Cx} {C : CA} {c : Cs} {e a b o : Expr} {es : List Expr} {fa : AF} {f g : EF} {pos p apos cpos : Pos} {x : Str} {id T : String} {name : Str}
/-! ### methods that turn a slot's own object -/
def MtD (X : Cx) (C : CA) (id : String) (op : D → List D → Option (D × D)) : Prop := ∃ r, MtR X id r ∧
  ∀ F H a dc vs ds res dc' Q, Same F H → Own X.K C F H a dc → RpAll X.K C F vs ds → op dc ds = some (res, dc') → (∀ v u, Own X.K C F (upd H a u) a dc' → Rp X.K C F v res → Q v (upd H a u)) → r (.ref a) vs H Q
def isLst : D → Bool
  | .lst _ => true
  | _ => false
def fMt (i : Nat) (op : D → List D → Option (D × D)) (fa : AF) : EF := fun env => (gt env i).bind fun d0 => if isLst d0 = true then (fa env).bind fun p => (vals p.1).bind fun ds => (gt p.2 i).bind fun dc => (op dc ds).bind fun r => some (.val r.1, st p.2 i (some r.2)) else none
theorem Own.isL {K : PySem.W.Frag} {F H : Hp} {a : Addr} {d : D} (h : Own K C F H a d) (hl : isLst d = true) : ∃ vs, SqL K H a vs := by
  cases d <;> cases hl
  obtain ⟨vs, h1, _⟩ := h
  exact ⟨vs, SqL.of h1⟩
theorem de_mt (i : Nat) {op : D → List D → Option (D × D)} (h : MtD X C id op) (slot : Slot "list" name id) (hty : typeOf (.builtin id) = pure (.type "method_descriptor")) (ha : DA X C c (e :: es) fa)
    (hO : i ∈ c.O := by decide) (hN : X.N[i]? = some x := by rfl) (hv : Vis X.env.scope x := by first | exact Or.inl rfl | exact Or.inr (Or.inl rfl) | exact Or.inr (Or.inr rfl)) (hd : (x == ("__debug__" : Str)) = false := by decide) (hcd : (x == ("__classdict__" : Str)) = false := by decide)
    (hbase : attributeBase (.Name x p) name X.env (eval (.Name x p) X.env) = eval (.Name x p) X.env := by rfl)
    (hfew : ((backTo cpos (starEach (e :: es) X.env)).all (fun x => !x.1) && (backToKw cpos (keywordEach [] X.env)).all (fun x => x.1.isSome)
      && decide ((e :: es).length + ([] : List Keyword).length + (if ([] : List Keyword).isEmpty then 0 else 1) < 30)) = true := by rfl)
    (hline : (apos.endLine == cpos.line) = true := by rfl) (hs : starEach (e :: es) X.env = (false, eval e X.env) :: starEach es X.env := by rfl) (hplain : (backTo cpos (starEach es X.env)).any (·.1) = false := by rfl) :
    DE X C c (.Call (.Attribute (.Name x p) name apos) (e :: es) [] cpos) (fMt i op fa) := by
  obtain ⟨r, hr, hw⟩ := h
  refine PE.imp (pe_bm PySem.F.plainAttrs_list slot hty hr (pe_var hN hv hd hcd) ha hbase hfew hline hs hplain) fun σ H Q ⟨z, F, env, b, env', S, e, k⟩ => ?_
  obtain ⟨d0, h0, e⟩ := Option.bind_eq_some_iff.mp e
  split at e
  case isFalse => cases e
  next hl =>
  simp only [Option.bind_eq_some_iff] at e
  obtain ⟨⟨bs, e1⟩, h1, ds, h2, dc, h3, ⟨res, dc'⟩, h4, e⟩ := e
  cases e
  obtain ⟨a, ha, _, ow, _⟩ := S.own i d0 h0 hO
  refine ⟨_, ha, .inl ⟨rfl, ow.isL hl⟩, z, F, env, bs, e1, S, h1, fun vs F1 H1 s1 S1 r1 => ?_⟩
  obtain ⟨a', ha', _, ow1, _⟩ := S1.own i dc h3 hO
  rw [ha] at ha'; cases ha'
  exact hw F1 H1 a dc vs ds res dc' Q S1.sub ow1 (vals_rp r1 h2) h4 fun v u ow2 rv => k v F1 _ s1 (S1.write hO h3 ha ow2) rv
theorem de_mt0 (i : Nat) {op : D → List D → Option (D × D)} (h : MtD X C id op) (slot : Slot "list" name id) (hty : typeOf (.builtin id) = pure (.type "method_descriptor"))
    (hO : i ∈ c.O := by decide) (hN : X.N[i]? = some x := by rfl) (hv : Vis X.env.scope x := by first | exact Or.inl rfl | exact Or.inr (Or.inl rfl) | exact Or.inr (Or.inr rfl)) (hd : (x == ("__debug__" : Str)) = false := by decide) (hcd : (x == ("__classdict__" : Str)) = false := by decide)
    (hbase : attributeBase (.Name x p) name X.env (eval (.Name x p) X.env) = eval (.Name x p) X.env := by rfl) (hline : (apos.endLine == cpos.line) = true := by rfl) :
    DE X C c (.Call (.Attribute (.Name x p) name apos) [] [] cpos) (fMt i op aN) := by
  obtain ⟨r, hr, hw⟩ := h
  refine PE.imp (pe_bm0 PySem.F.plainAttrs_list slot hty hr (pe_var hN hv hd hcd) hbase hline) fun σ H Q ⟨z, F, env, b, env', S, e, k⟩ => ?_
  obtain ⟨d0, h0, e⟩ := Option.bind_eq_some_iff.mp e
  split at e
  case isFalse => cases e
  next hl =>
  simp only [Option.bind_eq_some_iff] at e
  obtain ⟨⟨bs, e1⟩, h1, ds, h2, dc, h3, ⟨res, dc'⟩, h4, e⟩ := e
  cases e
  cases h1
  cases h2
  rw [h0] at h3; cases h3
  obtain ⟨a, ha, _, ow, _⟩ := S.own i d0 h0 hO
  exact ⟨_, ha, .inl ⟨rfl, ow.isL hl⟩, hw F H a d0 [] [] res dc' Q S.sub ow .nil h4 fun v u ow2 rv => k v F _ (Same.refl _) (S.write hO h0 ha ow2) rv⟩
def appD (dc : D) (ds : List D) : Option (D × D) := match dc with
  | .lst xs => (match ds with
    | [d] => gd (xs.length + 1) (some (.non, .lst (xs ++ [d])))
    | _ => none)
  | _ => none
theorem md_append : MtD X C "list.append" appD := by
  refine ⟨_, mt_append, fun F H a dc vs ds res dc' Q s ow r e k => ?_⟩
  cases dc <;> simp only [appD] at e <;> try (cases e; done)
  split at e
  case h_2 => cases e
  next d =>
  obtain ⟨hl, e⟩ := gd_some e
  cases e
  obtain ⟨xs, h1, h2, h3⟩ := ow
  cases r with
  | cons r1 r2 =>
    cases r2
    have hl' : xs.length < sizeLine := by rw [h3.length]; exact hl
    exact ⟨a, xs, _, rfl, rfl, h1, hl', k _ _ ⟨_, upd_same, by rw [List.length_append]; exact hl', h3.app (.one r1)⟩ .non⟩
def popD (dc : D) (ds : List D) : Option (D × D) := match dc with
  | .lst xs => (match ds with
    | [] => (xs[xs.length - 1]?).bind fun y => some (y, .lst xs.dropLast)
    | _ => none)
  | _ => none
theorem md_pop : MtD X C "list.pop" popD := by
  refine ⟨_, mt_pop, fun F H a dc vs ds res dc' Q s ow r e k => ?_⟩
  cases dc <;> simp only [popD] at e <;> try (cases e; done)
  split at e
  case h_2 => cases e
  obtain ⟨y, h0, e⟩ := Option.bind_eq_some_iff.mp e
  cases e
  obtain ⟨xs, h1, h2, h3⟩ := ow
  cases r
  obtain ⟨v, hv, rv⟩ := h3.get' h0
  refine ⟨a, xs, v, rfl, rfl, h1, by rw [h3.length]; exact hv, k _ _ ⟨_, upd_same, ?_, h3.dropLast⟩ rv⟩
  rw [List.length_dropLast]; omega
def popAtD (dc : D) (ds : List D) : Option (D × D) := match dc with
  | .lst xs => (match ds with
    | [.int i] => (ixN xs.length i).bind fun j => (xs[j]?).bind fun y => some (y, .lst (xs.eraseIdx j))
    | _ => none)
  | _ => none
theorem md_popAt : MtD X C "list.pop" popAtD := by
  refine ⟨_, mt_popAt, fun F H a dc vs ds res dc' Q s ow r e k => ?_⟩
  cases dc <;> simp only [popAtD] at e <;> try (cases e; done)
  split at e
  case h_2 => cases e
  next i =>
  obtain ⟨j, h4, e⟩ := Option.bind_eq_some_iff.mp e
  obtain ⟨y, h0, e⟩ := Option.bind_eq_some_iff.mp e
  cases e
  obtain ⟨xs, h1, h2, h3⟩ := ow
  cases r with
  | cons r1 r2 =>
    cases r2
    cases r1
    obtain ⟨v, hv, rv⟩ := h3.get' h0
    obtain ⟨q1, q2, q3, q4⟩ := ixN_seq h4
    have hz := h2
    rw [sizeLine_eq, h3.length] at hz
    refine ⟨a, xs, i, j, v, rfl, rfl, h1, by omega, by omega, by rw [h3.length]; exact q1, hv, k _ _ ⟨_, upd_same, ?_, h3.erase j⟩ rv⟩
    have := len_erase xs j
    omega
/-- xs.extend(ys), ys read -/
def fExt (i : Nat) (f : EF) : EF := fun env => (gt env i).bind fun d0 => if isLst d0 = true then (f env).bind fun p => (rdB p.2 p.1).bind fun dy => (gt p.2 i).bind fun dc => (match dc with
    | .lst xs => (match dy with
      | .lst ys => gd (xs.length + ys.length) (some (.val .non, st p.2 i (some (.lst (xs ++ ys)))))
      | _ => none)
    | _ => none) else none
theorem de_extend (i : Nat) (ha : DE X C c e f)
    (hO : i ∈ c.O := by decide) (hN : X.N[i]? = some x := by rfl) (hv : Vis X.env.scope x := by first | exact Or.inl rfl | exact Or.inr (Or.inl rfl) | exact Or.inr (Or.inr rfl)) (hd : (x == ("__debug__" : Str)) = false := by decide) (hcd : (x == ("__classdict__" : Str)) = false := by decide)
    (hbase : attributeBase (.Name x p) "extend" X.env (eval (.Name x p) X.env) = eval (.Name x p) X.env := by rfl)
    (hfew : ((backTo cpos (starEach [e] X.env)).all (fun x => !x.1) && (backToKw cpos (keywordEach [] X.env)).all (fun x => x.1.isSome)
      && decide ([e].length + ([] : List Keyword).length + (if ([] : List Keyword).isEmpty then 0 else 1) < 30)) = true := by rfl)
    (hline : (apos.endLine == cpos.line) = true := by rfl) (hs : starEach [e] X.env = (false, eval e X.env) :: starEach [] X.env := by rfl) (hplain : (backTo cpos (starEach [] X.env)).any (·.1) = false := by rfl) :
    DE X C c (.Call (.Attribute (.Name x p) "extend" apos) [e] [] cpos) (fExt i f) := by
  refine PE.imp (pe_bm PySem.F.plainAttrs_list PySem.F.slot_list_extend PySem.F.type_list_extend mt_extend (pe_var hN hv hd hcd) (pa_cons ha pa_nil hs) hbase hfew hline hs hplain) fun σ H Q ⟨z, F, env, b, env', S, e, k⟩ => ?_
  obtain ⟨d0, h0, e⟩ := Option.bind_eq_some_iff.mp e
  split at e
  case isFalse => cases e
  next hl =>
  simp only [Option.bind_eq_some_iff] at e
  obtain ⟨⟨b1, e1⟩, h1, dy, h2, dc, h3, e⟩ := e
  obtain ⟨a, ha, _, ow, _⟩ := S.own i d0 h0 hO
  refine ⟨_, ha, .inl ⟨rfl, ow.isL hl⟩, z, F, env, b1, e1, S, h1, fun v F1 H1 s1 S1 r1 => ?_⟩
  cases dc <;> simp only at e <;> try (cases e; done)
  cases dy <;> simp only at e <;> try (cases e; done)
  obtain ⟨hl, e⟩ := gd_some e
  cases e
  obtain ⟨a', ha', _, ow1, _⟩ := S1.own i _ h3 hO
  rw [ha] at ha'; cases ha'
  obtain ⟨xs, q1, q2, q3⟩ := id ow1
  obtain ⟨b, ys, rfl, q4, q5, q6⟩ := (r1.rb S1 h2).lst S1.sub
  have hl' : xs.length + ys.length ≤ sizeLine := by rw [q3.length, q6.length]; exact hl
  exact ⟨a, b, xs, ys, rfl, rfl, q1, q4, hl', k _ F1 _ s1 (S1.write hO h3 ha ⟨_, upd_same, by rw [List.length_append]; exact hl', q3.app q6⟩) .non⟩
/-! ### x[i] = e of a slot's own list or dict -/
def putD (ks : List (Key × D)) (k : Key) (d : D) : List (Key × D) := if (ks.any fun p => decide (p.1 = k)) = true then ks.map (fun p => if p.1 = k then (p.1, d) else p) else ks ++ [(k, d)]
theorem RpKV.any {K : PySem.W.Frag} {F : Hp} {kvs : List (Key × V)} {ks : List (Key × D)} (h : RpKV K C F kvs ks) (k : Key) : (kvs.any fun p => decide (p.1 = k)) = (ks.any fun p => decide (p.1 = k)) := by
  rw [valV_any, h.has]; rfl
theorem RpKV.map {K : PySem.W.Frag} {F : Hp} {k : Key} {v : V} {d : D} (r : Rp K C F v d) : ∀ {kvs : List (Key × V)} {ks : List (Key × D)}, RpKV K C F kvs ks → RpKV K C F (kvs.map fun p => if p.1 = k then (p.1, v) else p) (ks.map fun p => if p.1 = k then (p.1, d) else p)
  | _, _, .nil => .nil
  | _, _, @RpKV.cons _ _ _ k' v' vs d' ds h1 h2 => by
    by_cases e : k' = k
    · simp only [List.map_cons, e, if_true]; exact .cons r (RpKV.map r h2)
    · simp only [List.map_cons, e, if_false]; exact .cons h1 (RpKV.map r h2)
theorem RpKV.app {K : PySem.W.Frag} {F : Hp} {k : Key} {v : V} {d : D} (r : Rp K C F v d) : ∀ {kvs : List (Key × V)} {ks : List (Key × D)}, RpKV K C F kvs ks → RpKV K C F (kvs ++ [(k, v)]) (ks ++ [(k, d)])
  | _, _, .nil => .cons r .nil
  | _, _, .cons h1 h2 => .cons h1 (RpKV.app r h2)
theorem RpKV.put {K : PySem.W.Frag} {F : Hp} {kvs : List (Key × V)} {ks : List (Key × D)} (h : RpKV K C F kvs ks) (k : Key) {v : V} {d : D} (r : Rp K C F v d) : RpKV K C F (putK kvs k v) (putD ks k d) := by
  unfold putK putD
  rw [h.any]
  split
  · exact RpKV.map r h
  · exact RpKV.app r h
def setD (dc k d : D) : Option D := match dc with
  | .lst xs => (match k with
    | .int i => (ixN xs.length i).bind fun j => some (.lst (xs.set j d))
    | _ => none)
  | .dic ks => (keyD k).bind fun kk => gd (ks.length + 1) (some (.dic (putD ks kk d)))
  | _ => none
def sSetIx (i : Nat) (fk fe : EF) : SF := fun env => (fe env).bind fun p => match p.1 with
  | .val d => (gt p.2 i).bind fun _ => (fk p.2).bind fun q => (rdB q.2 q.1).bind fun k => (gt q.2 i).bind fun dc => (setD dc k d).bind fun dc' => some (.nx (st q.2 i (some dc')))
  | .slot _ => none
theorem ds_setIx (i : Nat) {k : Expr} {pos' : Pos} (hu : X.A.units + 64 < cLine) (hk : DE X C c k g) (he : DE X C c e f)
    (hO : i ∈ c.O := by decide) (hN : X.N[i]? = some x := by rfl) (hv : Vis X.env.scope x := by first | exact Or.inl rfl | exact Or.inr (Or.inl rfl) | exact Or.inr (Or.inr rfl)) (hd : (x == ("__debug__" : Str)) = false := by decide) (hcd : (x == ("__classdict__" : Str)) = false := by decide)
    (hs : swapsWith e (some (.Subscript (.Name x p) k pos')) pos.line X.env = pure false := by rfl)
    (hs1 : swapsWithSole [.Subscript (.Name x p) k pos'] e pos.line X.env = pure false := by rfl) (hw : swappedStores [.Subscript (.Name x p) k pos'] e X.env = pure none := by rfl) (h1 : (assignEach [.Subscript (.Name x p) k pos'] X.env).map (·.2) = [assign (.Subscript (.Name x p) k pos') X.env] := by rfl)
    (has : ∀ v, assign (.Subscript (.Name x p) k pos') X.env v = (do let ov ← holding [v] (eval (.Name x p) X.env); let iv ← holding [v, ov] (eval k X.env); standAt pos'; holding [v, ov, iv] (setItem ov iv v); release [v, ov, iv] []) := by intro _; rfl) : DS m X C c (.Assign [.Subscript (.Name x p) k pos'] e pos) (sSetIx i g f) := by
  have pv : PE X (.Name x p) (tVar i) := pe_var hN hv hd hcd
  refine PS.imp (PS.or (ps_asg he (pg_sub pv hk set_list has) hs1 hw h1) (ps_dput (by omega) pv hk he hs)) fun Dn σ H ⟨z, F, env, fl, S, hg, e, kk⟩ => ?_
  obtain ⟨⟨b, e1⟩, h1, e⟩ := Option.bind_eq_some_iff.mp e
  cases b with
  | slot _ => cases e
  | val d =>
    simp only [Option.bind_eq_some_iff] at e
    obtain ⟨d0, h2, ⟨b2, e2⟩, h3, dk, h4, dc, h5, dc', h6, e⟩ := e
    cases e
    by_cases hdic : ∃ ks, dc = .dic ks
    · obtain ⟨ks, rfl⟩ := hdic
      refine .inr ⟨z, F, env, _, e1, S, h1, fun v F1 H1 s1 S1 r1 => ?_⟩
      obtain ⟨a, ha, _⟩ := S1.own i d0 h2 hO
      refine ⟨_, ha, z, F1, e1, b2, e2, S1, h3, fun w F2 H2 s2 S2 r2 => ?_⟩
      obtain ⟨a', ha', _, ow, _⟩ := S2.own i _ h5 hO
      rw [ha] at ha'; cases ha'
      obtain ⟨kvs, q1, q2⟩ := id ow
      obtain ⟨key, q3, q4⟩ := Option.bind_eq_some_iff.mp h6
      obtain ⟨hl, q4⟩ := gd_some q4
      cases q4
      have hl' : kvs.length < sizeLine := by rw [q2.length]; exact hl
      exact ⟨a, _, rfl, .inl ⟨kvs, key, q1, keyD_v (r2.rb S2 h4) q3, hl', rfl⟩, kk F2 σ _ (s1.trans s2) (S2.write hO h5 ha ⟨_, upd_same, q2.put key (Rp.mono s2 r1)⟩)⟩
    · refine .inl ⟨z, F, env, _, e1, S, h1, fun v F1 H1 s1 S1 r1 => ?_⟩
      obtain ⟨a, ha, _⟩ := S1.own i d0 h2 hO
      refine ⟨_, ha, z, F1, e1, b2, e2, S1, h3, fun w F2 H2 s2 S2 r2 => ?_⟩
      obtain ⟨a', ha', _, ow, _⟩ := S2.own i _ h5 hO
      rw [ha] at ha'; cases ha'
      cases dc <;> simp only [setD] at h6 <;> try (cases h6; done)
      · cases dk <;> simp only at h6 <;> try (cases h6; done)
        obtain ⟨j, q3, q4⟩ := Option.bind_eq_some_iff.mp h6
        cases q4
        obtain ⟨xs, q1, q5, q2⟩ := id ow
        exact ⟨a, xs, _, j, rfl, (r2.rb S2 h4).int, q1, by rw [q2.length]; exact q3, kk F2 σ _ (s1.trans s2) (S2.write hO h5 ha ⟨_, upd_same, by rw [List.length_set]; exact q5, q2.set (Rp.mono s2 r1) j⟩)⟩
      · exact absurd ⟨_, rfl⟩ hdic
end
end DL

namespace DL
open PySem L2
section
variable {m : Bool} {X : Cx} {C : CA} {c : Cs} {e a b o : Expr} {es : List Expr} {fa : AF} {f g : EF} {pos p apos cpos : Pos} {x : Str}
/-! ### x, y = e1, e2: each a datum or a new object -/
/-- an expression that gives data (o = false) or a new object (o = true) -/
def tX (o : Bool) (K : PySem.W.Frag) (C : CA) (c : Cs) (f : OF) : TE := fun σ H Q => ∃ z F env d env', SR K C c z F env σ H ∧ f env = some (d, env') ∧
  ∀ v F' H', Same F F' → SR K C c z F' env' σ H' → (if o = true then ∃ a, v = .ref a ∧ F' a = none ∧ z.H0 a = none ∧ Own K C F' H' a d ∧ (Apt C c env' σ a) ∧ (∀ e, (a, e) ∉ z.gh) else Rp K C F' v d) → Q v H'
def DX (o : Bool) (X : Cx) (C : CA) (c : Cs) (e : Expr) (f : OF) : Prop := PE X e (tX o X.K C c f)
theorem DO.dx {fo : OF} (h : DO X C c e fo) : DX true X C c e fo := PE.imp h fun σ H Q ⟨z, F, env, d, env', S, e, k⟩ => ⟨z, F, env, d, env', S, e, fun a F' H' s' S' fa za ow ap ng => k _ F' H' s' S' ⟨a, rfl, fa, za, ow, ap, ng⟩⟩
def oP (f : EF) : OF := fun env => (f env).bind fun r => match r.1 with
  | .val d => some (d, r.2)
  | .slot _ => none
theorem DE.dx (h : DE X C c e f) : DX false X C c e (oP f) := PE.imp h fun σ H Q ⟨z, F, env, d, env', S, e, k⟩ => by
  obtain ⟨⟨b, e1⟩, h1, e⟩ := Option.bind_eq_some_iff.mp e
  cases b with
  | slot _ => cases e
  | val d' =>
    cases e
    exact ⟨z, F, env, _, _, S, h1, fun v F' H' s' S' r => k v F' H' s' S' r⟩
/-- store a datum or a new object -/
theorem SR.setX {K : PySem.W.Frag} {z : Zn} {F : Hp} {env : Env} {σ : St} {H : Hp} {o : Bool} {v : V} {d : D} (S : SR K C c z F env σ H) {i : Nat} (hi : if o = true then i ∈ c.O ∧ i ∉ c.io else i ∉ c.O) (hn : i < c.n)
    (h : if o = true then ∃ a, v = .ref a ∧ F a = none ∧ z.H0 a = none ∧ Own K C F H a d ∧ (Apt C c env σ a) ∧ (∀ e, (a, e) ∉ z.gh) else Rp K C F v d) : SR K C c z F (st env i (some d)) (σ.set i (some v)) H := by
  cases o with
  | true =>
    obtain ⟨a, rfl, fa, za, ow, ap, ng⟩ := h
    exact S.setO hi.1 hi.2 hn fa za ow ap ng
  | false => exact S.setP hi hn h
def sPar (i j : Nat) (f g : OF) : SF := fun env => (f env).bind fun p => (g p.2).bind fun q => some (.nx (st (st q.2 i (some p.1)) j (some q.1)))
/-- the core: two values in a row -/
theorem par_core {oi oj : Bool} {fi fj : OF} {i j : Nat} {σ : St} {H : Hp} {R : V → V → Hp → Prop} {z : Zn} {F : Hp} {env env' : Env} (S : SR X.K C c z F env σ H) (hij : i ≠ j) (hi : if oi = true then i ∈ c.O ∧ i ∉ c.io else i ∉ c.O) (hni : i < c.n) (hj : if oj = true then j ∈ c.O ∧ j ∉ c.io else j ∉ c.O) (hnj : j < c.n)
    (e : sPar i j fi fj env = some (.nx env')) (k : ∀ v w F' H', Same F F' → SR X.K C c z F' env' ((σ.set i (some v)).set j (some w)) H' → R v w H') : tX oi X.K C c fi σ H fun v H1 => tX oj X.K C c fj σ H1 fun w H2 => R v w H2 := by
  simp only [sPar, Option.bind_eq_some_iff] at e
  obtain ⟨⟨d1, e1⟩, h1, ⟨d2, e2⟩, h2, e⟩ := e
  cases e
  refine ⟨z, F, env, d1, e1, S, h1, fun v F1 H1 s1 S1 r1 => ?_⟩
  cases oi with
  | false =>
    refine ⟨z, F1, e1, d2, e2, S1, h2, fun w F2 H2 s2 S2 r2 => k v w F2 H2 (s1.trans s2) ?_⟩
    have S3 := S2.setP (i := i) (v := v) (d := d1) hi hni (Rp.mono s2 r1)
    refine S3.setX hj hnj ?_
    cases oj with
    | false => exact r2
    | true =>
      obtain ⟨a, rfl, fa, za, ow, ap, ng⟩ := r2
      exact ⟨a, rfl, fa, za, ow, S2.aptP hi hni ap, ng⟩
  | true =>
    obtain ⟨a, rfl, fa, za, ow, ap, ng⟩ := r1
    have Sg := S1.ghost fa za ow ap ng
    refine ⟨_, F1, e1, d2, e2, Sg, h2, fun w F2 H2 s2 S2 r2 => k _ w F2 H2 (s1.trans s2) ?_⟩
    obtain ⟨S3, fa2, za2, ow2, ap2, ng2⟩ := S2.unghost
    have S4 : SR X.K C c z F2 (st e2 i (some d1)) (σ.set i (some (.ref a))) H2 := S3.setO hi.1 hi.2 hni fa2 za2 ow2 ap2 ng2
    refine S4.setX hj hnj ?_
    cases oj with
    | false => exact r2
    | true =>
      obtain ⟨b, rfl, fb, zb, owb, apb, ngb⟩ := r2
      have hba : b ≠ a := fun q => ngb d1 (q ▸ List.mem_cons_self ..)
      exact ⟨b, rfl, fb, zb, owb, S3.aptO hni hba apb, fun e h => ngb e (List.mem_cons_of_mem _ h)⟩
theorem ds_par {oi oj : Bool} {fi fj : OF} (i j : Nat) {y : Str} {px py pt : Pos} {kt k2 : Nat} {pt2 : Pos} (hN : X.N.Nodup) (hi : if oi = true then i ∈ c.O ∧ i ∉ c.io else i ∉ c.O) (hj : if oj = true then j ∈ c.O ∧ j ∉ c.io else j ∉ c.O) (h1 : DX oi X C c a fi) (h2 : DX oj X C c b fj)
    (hni : i < c.n := by decide) (hnj : j < c.n := by decide) (hxi : X.N[i]? = some x := by rfl) (hyj : X.N[j]? = some y := by rfl) (hij : i ≠ j := by decide) (hx : X.env.scope.names.lookup x = some .local := by rfl) (hy : X.env.scope.names.lookup y = some .local := by rfl)
    (hc : X.calm = true := by rfl) (hw : swappedStores [.Tuple [.Name x px, .Name y py] kt pt] (.Tuple [a, b] k2 pt2) X.env = pure (some [x, y]) := by rfl) (hs : swapsWithSole [.Tuple [.Name x px, .Name y py] kt pt] (.Tuple [a, b] k2 pt2) pos.line X.env = pure false := by rfl)
    (hs1 : starEach (a :: [b]) X.env = (false, eval a X.env) :: starEach [b] X.env := by rfl) (hs2 : starEach (b :: []) X.env = (false, eval b X.env) :: starEach [] X.env := by rfl) :
    DS m X C c (.Assign [.Tuple [.Name x px, .Name y py] kt pt] (.Tuple [a, b] k2 pt2) pos) (sPar i j fi fj) := by
  refine PS.imp (ps_par hc hN hxi hyj hij hx hy (pa_cons h1 (pa_cons h2 pa_nil hs2) hs1) hw hs) fun Dn σ H ⟨z, F, env, fl, S, hg, e, k⟩ => ?_
  have e0 := e
  simp only [sPar, Option.bind_eq_some_iff] at e
  obtain ⟨⟨d1, e1⟩, q1, ⟨d2, e2⟩, q2, e⟩ := e
  cases e
  exact par_core (R := fun v w H' => ∃ v1 w1, [v, w] = [v1, w1] ∧ Dn.nx ((σ.set i (some v1)).set j (some w1)) H') S hij hi hni hj hnj e0 fun v w F' H' s' S' => ⟨v, w, rfl, k F' _ H' s' S'⟩
/-- .. where one of the names is a cell: a tuple is made and taken apart -/
theorem ds_parC {oi oj : Bool} {fi fj : OF} (i j : Nat) {y : Str} {px py pt : Pos} {kt k2 : Nat} {pt2 : Pos} (hN : X.N.Nodup) (hi : if oi = true then i ∈ c.O ∧ i ∉ c.io else i ∉ c.O) (hj : if oj = true then j ∈ c.O ∧ j ∉ c.io else j ∉ c.O) (h1 : DX oi X C c a fi) (h2 : DX oj X C c b fj)
    (hni : i < c.n := by decide) (hnj : j < c.n := by decide) (hxi : X.N[i]? = some x := by rfl) (hyj : X.N[j]? = some y := by rfl) (hij : i ≠ j := by decide) (hx : Loc X.env.scope x := by first | exact Or.inl rfl | exact Or.inr rfl) (hy : Loc X.env.scope y := by first | exact Or.inl rfl | exact Or.inr rfl)
    (hc : X.calm = true := by rfl) (hw : swappedStores [.Tuple [.Name x px, .Name y py] kt pt] (.Tuple [a, b] k2 pt2) X.env = pure none := by rfl) (hs : swapsWithSole [.Tuple [.Name x px, .Name y py] kt pt] (.Tuple [a, b] k2 pt2) pos.line X.env = pure false := by rfl)
    (hs1 : starEach (a :: [b]) X.env = (false, eval a X.env) :: starEach [b] X.env := by rfl) (hs2 : starEach (b :: []) X.env = (false, eval b X.env) :: starEach [] X.env := by rfl)
    (hfx : X.fn x = true ∨ X.env.scope.names.lookup x = some .local := by first | exact .inl rfl | exact .inr rfl | assumption) (hfy : X.fn y = true ∨ X.env.scope.names.lookup y = some .local := by first | exact .inl rfl | exact .inr rfl | assumption)
    (t1 : (assignEach (.Name x px :: [.Name y py]) X.env).map (·.2) = assign (.Name x px) X.env :: (assignEach [.Name y py] X.env).map (·.2) := by rfl) (t2 : (assignEach (.Name y py :: []) X.env).map (·.2) = assign (.Name y py) X.env :: (assignEach [] X.env).map (·.2) := by rfl)
    (t3 : (assignEach [.Name x px, .Name y py] X.env).length = 2 := by rfl) (t4 : (assignEach [.Name x px, .Name y py] X.env).findIdx? (·.1) = none := by rfl) (t5 : (assignEach [.Tuple [.Name x px, .Name y py] kt pt] X.env).map (·.2) = [assign (.Tuple [.Name x px, .Name y py] kt pt) X.env] := by rfl) :
    DS m X C c (.Assign [.Tuple [.Name x px, .Name y py] kt pt] (.Tuple [a, b] k2 pt2) pos) (sPar i j fi fj) := by
  refine PS.imp (ps_asg (pe_tup (pa_cons h1 (pa_cons h2 pa_nil hs2) hs1)) (pg_tup hc (pgs_cons (pg_name hN hxi hx hfx) (pgs_cons (pg_name hN hyj hy hfy) pgs_nil t2) t1) t3 t4) hs hw t5) fun Dn σ H ⟨z, F, env, fl, S, hg, e, k⟩ => ?_
  have e0 := e
  simp only [sPar, Option.bind_eq_some_iff] at e
  obtain ⟨⟨d1, e1⟩, q1, ⟨d2, e2⟩, q2, e⟩ := e
  cases e
  refine par_core (R := fun v w H' => [v, w].length ≤ sizeLine ∧ ∀ p, H' p = none → gTup X.K 2 (gCons (gName i) (gCons (gName j) gNil)) (.ref p) σ (upd H' p (.tup [v, w])) Dn.nx) S hij hi hni hj hnj e0 fun v w F' H' s' S' => ⟨by rw [sizeLine_eq]; show 2 ≤ 16777216; decide, fun p hp => ?_⟩
  refine ⟨p, [v, w], rfl, SqT.of upd_same, rfl, v, [w], rfl, w, [], rfl, rfl, ?_⟩
  have ex : Ext F' H' (upd F' p (.tup [v, w])) (upd H' p (.tup [v, w])) := Ext.laid S'.sub hp
  exact k _ _ _ (s'.trans ex.sub) (S'.ext ex)
/-! ### name op= e -/
def sAug (i : Nat) (op : D → D → Option D) (f : EF) : SF := fun env => (gt env i).bind fun d => (f env).bind fun p => (rdB p.2 p.1).bind fun y => (op d y).bind fun r => some (.nx (st p.2 i (some r)))
theorem ds_augAdd (i : Nat) {pos' : Pos} (hN : X.N.Nodup) (he : DE X C c e f) (hO : i ∉ c.O := by decide) (hn : i < c.n := by decide) (hi : X.N[i]? = some x := by rfl) (hx : Loc X.env.scope x := by first | exact Or.inl rfl | exact Or.inr rfl) (hf : X.fn x = true ∨ X.env.scope.names.lookup x = some .local := by first | exact .inl rfl | exact .inr rfl | assumption) :
    DS m X C c (.AugAssign (.Name x pos') .Add e pos) (sAug i addII f) := by
  refine PS.imp (ps_aug hN hi hx he ip_add hf) fun Dn σ H ⟨z, F, env, fl, S, hg, e, k⟩ => ?_
  simp only [sAug, Option.bind_eq_some_iff] at e
  obtain ⟨d, h1, ⟨b, e1⟩, h2, y, h3, r, h4, e⟩ := e
  cases e
  obtain ⟨v, hv, rv⟩ := S.pur i d h1 hO hn
  obtain ⟨i1, j1, rfl, rfl, e⟩ := iiD_some h4
  cases e
  cases rv
  refine ⟨_, hv, z, F, env, b, e1, S, h2, fun w F1 H1 s1 S1 r1 => ⟨i1, j1, rfl, (r1.rb S1 h3).int, k F1 _ H1 s1 (S1.setP hO hn (.int _))⟩⟩
/-! ### slices -/
def cutD (xs : List D) (lo hi : Option Int) : List D := (xs.drop (HT.sIx xs.length 0 lo)).take (HT.sIx xs.length xs.length hi - HT.sIx xs.length 0 lo)
theorem cut_rp {K : PySem.W.Frag} {F : Hp} {vs : List V} {ds : List D} (h : RpAll K C F vs ds) (lo hi : Option Int) : RpAll K C F (cutV vs lo hi) (cutD ds lo hi) := by
  unfold cutV cutD
  rw [h.length]
  exact (h.drop _).take _
abbrev PF := Env → Option (Option Int × Env)
def tPt (K : PySem.W.Frag) (C : CA) (c : Cs) (f : PF) : TO := fun σ H Q => ∃ z F env i env', SR K C c z F env σ H ∧ f env = some (i, env') ∧ ∀ F' H', Same F F' → SR K C c z F' env' σ H' → Q i H'
def DPt (X : Cx) (C : CA) (c : Cs) (e : Option Expr) (f : PF) : Prop := PO X e (tPt X.K C c f)
theorem PO.imp {e : Option Expr} {t t' : TO} (h : PO X e t) (i : ∀ σ H Q, t' σ H Q → t σ H Q) : PO X e t' := ⟨fun pins s σ H Q I q => h.run pins s σ H Q I (i σ H Q q)⟩
def pN : PF := fun env => some (none, env)
def pI (f : EF) : PF := fun env => (f env).bind fun p => (rdB p.2 p.1).bind fun d => match d with
  | .int i => some (some i, p.2)
  | _ => none
theorem dp_none : DPt X C c none pN := PO.imp po_none fun σ H Q ⟨z, F, env, i, env', S, e, k⟩ => by cases e; exact k F H (Same.refl _) S
theorem dp_some (h : DE X C c e f) : DPt X C c (some e) (pI f) := PO.imp (po_some h) fun σ H Q ⟨z, F, env, i, env', S, e, k⟩ => by
  simp only [pI, Option.bind_eq_some_iff] at e
  obtain ⟨⟨b, e1⟩, h1, d, h2, e⟩ := e
  cases d <;> simp only at e <;> try (cases e; done)
  cases e
  exact ⟨z, F, env, b, _, S, h1, fun v F1 H1 s1 S1 r1 => ⟨_, (r1.rb S1 h2).int, k F1 H1 s1 S1⟩⟩
def oSlL (f : EF) (l h : PF) : OF := fun env => (f env).bind fun p => (l p.2).bind fun q => (h q.2).bind fun r => (rdB r.2 p.1).bind fun d => match d with
  | .lst xs => some (.lst (cutD xs q.1 r.1), r.2)
  | _ => none
/-- xs[a:b] of a list: a new list -/
theorem do_slice {lo hi : Option Expr} {fl fh : PF} {p2 : Pos} (he : DE X C c e f) (hl : DPt X C c lo fl) (hh : DPt X C c hi fh) : DO X C c (.Subscript e (.Slice lo hi none p2) pos) (oSlL f fl fh) := by
  refine PE.imp (pe_slice sl_list he hl hh) fun σ H Q ⟨z, F, env, b, env', S, e, k⟩ => ?_
  simp only [oSlL, Option.bind_eq_some_iff] at e
  obtain ⟨⟨b1, e1⟩, h1, ⟨i1, e2⟩, h2, ⟨i2, e3⟩, h3, d, h4, e⟩ := e
  cases d <;> simp only at e <;> try (cases e; done)
  cases e
  refine ⟨z, F, env, b1, e1, S, h1, fun v F1 H1 s1 S1 r1 => ⟨z, F1, e1, i1, e2, S1, h2, fun F2 H2 s2 S2 => ⟨z, F2, e2, i2, _, S2, h3, fun F3 H3 s3 S3 => ?_⟩⟩⟩
  obtain ⟨a, vs, rfl, q, ql, r⟩ := ((r1.mono (s2.trans s3)).rb S3 h4).lst S3.sub
  refine ⟨a, vs, rfl, SqL.of q, fun p hp => ?_⟩
  obtain ⟨S4, fp, zp, ap, ng⟩ := S3.newO (o := .lst (cutV vs i1 i2)) hp
  exact k p F3 _ (s1.trans (s2.trans s3)) S4 fp zp ⟨_, upd_same, Nat.le_trans (cutV_length vs i1 i2) ql, cut_rp r i1 i2⟩ ap ng
/-! ### what is walked: lists, tuples, ranges, enumerate, zip -/
def keyVD : Key → D
  | .inl i => .int i
  | .inr x => .str x
theorem keyVD_rp {K : PySem.W.Frag} {F : Hp} (k : Key) : Rp K C F (kV k) (keyVD k) := by
  cases k with
  | inl i => exact .int i
  | inr x => exact .str x
theorem RpKV.at {K : PySem.W.Frag} {F : Hp} : ∀ {kvs : List (Key × V)} {ks : List (Key × D)}, RpKV K C F kvs ks → ∀ {i : Nat} {k : Key} {v : V}, kvs[i]? = some (k, v) → ∃ d, ks[i]? = some (k, d) ∧ Rp K C F v d
  | _, _, .nil, i, k, v, e => by simp at e
  | _, _, .cons h t, i, k, v, e => by
    cases i with
    | zero => simp at e; obtain ⟨rfl, rfl⟩ := e; exact ⟨_, rfl, h⟩
    | succ i => simpa using t.at (by simpa using e)
theorem RpKV.len {K : PySem.W.Frag} {F : Hp} : ∀ {kvs : List (Key × V)} {ks : List (Key × D)}, RpKV K C F kvs ks → kvs.length = ks.length
  | _, _, .nil => rfl
  | _, _, .cons h t => by simp [t.len]
theorem wk_keys {K : PySem.W.Frag} {F : Hp} {a : Addr} {od : Obj} {kvs : List (Key × V)} {ks : List (Key × D)} (h : F a = some (.frz od (.dK kvs))) (hl : ks.length ≤ sizeLine) (r : RpKV K C F kvs ks) : Wk K C (Itk a od kvs) F (ks.map fun p => keyVD p.1) := by
  have ln := r.len
  refine ⟨fun i F' H s1 s2 hi => ⟨s2 _ _ (s1 _ _ h), by rw [ln]; simpa using hi⟩, fun F' H s1 s2 => ⟨s2 _ _ (s1 _ _ h), by rw [ln]; simp⟩, fun i F' H x H' s1 s2 hi y => ?_, by simpa using hl⟩
  obtain ⟨rfl, k, v, hk, rfl⟩ := y
  obtain ⟨d, hd, _⟩ := r.at hk
  exact ⟨F', keyVD k, Ext.rfl' s2, by simp [hd], keyVD_rp k⟩
def itmsS : D → Option (List D)
  | .lst xs => some xs
  | .tup xs => some xs
  | _ => none
def itms : D → Option (List D)
  | .lst xs => some xs
  | .tup xs => some xs
  | .dic ks => gd ks.length (some (ks.map fun p => keyVD p.1))
  | _ => none
def iX (f : EF) : IF := fun env => (f env).bind fun p => match p.1 with
  | .val d => (itms d).bind fun xs => some (xs, p.2)
  | .slot _ => none
theorem PI.imp {tg it : Expr} {t t' : TI} (h : PI X tg it t) (i : ∀ σ H R, t' σ H R → t σ H R) : PI X tg it t' := ⟨fun pins s σ H R I q => h.run pins s σ H R I (i σ H R q)⟩
theorem PI.or {tg it : Expr} {t t' : TI} (h : PI X tg it t) (h' : PI X tg it t') : PI X tg it (fun σ H R => t σ H R ∨ t' σ H R) := ⟨fun pins s σ H R I q => q.elim (h.run pins s σ H R I) (h'.run pins s σ H R I)⟩
theorem wk_list {K : PySem.W.Frag} {F : Hp} {a : Addr} {vs : List V} {ds : List D} (h : F a = some (.lst vs)) (hl : vs.length ≤ sizeLine) (r : RpAll K C F vs ds) : Wk K C (Itl K a) F ds := by
  have w := walk_list (K := K) (a := a) (xs := vs)
  rw [r.length] at w
  refine ⟨fun i F' H s1 s2 hi => w.goes i H hi (SqL.of (s2 _ _ (s1 _ _ h))), fun F' H s1 s2 => w.stops H (SqL.of (s2 _ _ (s1 _ _ h))), fun i F' H x H' s1 s2 hi y => ?_, by rw [← r.length]; exact hl⟩
  obtain ⟨rfl, hx⟩ := w.yields i H x H' hi (SqL.of (s2 _ _ (s1 _ _ h))) y
  obtain ⟨d, hd, rd⟩ := r.get hx
  exact ⟨F', d, Ext.rfl' s2, hd, rd.mono s1⟩
theorem wk_tup {K : PySem.W.Frag} {F : Hp} {a : Addr} {vs : List V} {ds : List D} (h : SqT K F a vs) (hl : vs.length ≤ sizeLine) (r : RpAll K C F vs ds) : Wk K C (Itt K a) F ds := by
  have w := walk_tup (K := K) (a := a) (xs := vs)
  rw [r.length] at w
  refine ⟨fun i F' H s1 s2 hi => w.goes i H hi (SqT.sub s2 (SqT.sub s1 h)), fun F' H s1 s2 => w.stops H (SqT.sub s2 (SqT.sub s1 h)), fun i F' H x H' s1 s2 hi y => ?_, by rw [← r.length]; exact hl⟩
  obtain ⟨rfl, hx⟩ := w.yields i H x H' hi (SqT.sub s2 (SqT.sub s1 h)) y
  obtain ⟨d, hd, rd⟩ := r.get hx
  exact ⟨F', d, Ext.rfl' s2, hd, rd.mono s1⟩
/-- a list or a tuple -/
theorem di_seq {tg : Expr} (h : DE X C c e f) : DI X C c tg e (iX f) := by
  refine PI.imp (PI.or (pi_list h) (PI.or (pi_tup h) (pi_keys h))) fun σ H R ⟨z, F, env, ds, env', S, e, k⟩ => ?_
  simp only [iX, Option.bind_eq_some_iff] at e
  obtain ⟨⟨b, e1⟩, h1, e⟩ := e
  cases b with
  | slot _ => cases e
  | val d =>
    obtain ⟨xs, h2, e⟩ := Option.bind_eq_some_iff.mp e
    cases e
    cases d <;> simp only [itms] at h2 <;> try (cases h2; done)
    · cases h2
      refine .inl ⟨z, F, env, _, e1, S, h1, fun v F1 H1 s1 S1 r1 => ?_⟩
      cases r1 with
      | lst q ql r => exact ⟨_, rfl, ⟨_, SqL.of (S1.sub _ _ q)⟩, k _ F1 H1 s1 S1 (wk_list q ql r)⟩
    · cases h2
      refine .inr (.inl ⟨z, F, env, _, e1, S, h1, fun v F1 H1 s1 S1 r1 => ?_⟩)
      cases r1 with
      | tup q ql r => exact ⟨_, rfl, ⟨_, SqT.sub S1.sub q⟩, k _ F1 H1 s1 S1 (wk_tup q ql r)⟩
    · obtain ⟨hl, e⟩ := gd_some h2
      cases e
      refine .inr (.inr ⟨z, F, env, _, e1, S, h1, fun v F1 H1 s1 S1 r1 => ?_⟩)
      cases r1 with
      | dic q r => exact ⟨_, _, rfl, .inl ⟨_, S1.sub _ _ q, k _ F1 H1 s1 S1 (wk_keys q hl r)⟩⟩
def rngD (lo : Int) (n : Nat) : List D := (List.range n).map fun i => .int (lo + (i : Nat))
theorem wk_range {K : PySem.W.Frag} {F : Hp} {lo : Int} {n : Nat} (hn : n ≤ sizeLine) : Wk K C (Itr lo n) F (rngD lo n) := by
  have w := walk_range (lo := lo) (n := n)
  have el : (rngD lo n).length = n := by simp [rngD]
  rw [show n = (rngD lo n).length from el.symm] at w
  refine ⟨fun i F' H s1 s2 hi => ?_, fun F' H s1 s2 => ?_, fun i F' H x H' s1 s2 hi y => ?_, by rw [el]; exact hn⟩
  · rw [el] at hi; exact hi
  · rw [el]; exact Nat.le_refl n
  · obtain ⟨rfl, rfl⟩ := y
    refine ⟨F', .int (lo + i), Ext.rfl' s2, ?_, .int _⟩
    rw [el] at hi
    simp [rngD, hi]
def iR1 (fa : AF) : IF := fun env => (fa env).bind fun p => (rdAll p.2 p.1).bind fun ds => match ds with
  | [.int j] => if -(2 ^ 62) ≤ j then gd j.toNat (some (rngD 0 j.toNat, p.2)) else none
  | _ => none
def iR2 (fa : AF) : IF := fun env => (fa env).bind fun p => (rdAll p.2 p.1).bind fun ds => match ds with
  | [.int i, .int j] => if decide (-(2 ^ 62) ≤ i) && decide (i < 2 ^ 62) && decide (-(2 ^ 62) ≤ j) && decide (j < 2 ^ 62) then gd (j - i).toNat (some (rngD i (j - i).toNat, p.2)) else none
  | _ => none
theorem di_range1 {tg : Expr} (hm : X.mg "range" = none) (ha : DA X C c [a] fa) (hg : Gl X "range" := by rfl) (hs : starEach [a] X.env = [(false, eval a X.env)] := by rfl) : DI X C c tg (.Call (.Name "range" p) [a] [] pos) (iR1 fa) := by
  refine PI.imp (pi_range1 hg hm ha hs) fun σ H R ⟨z, F, env, ds, env', S, e, k⟩ => ?_
  simp only [iR1, Option.bind_eq_some_iff] at e
  obtain ⟨⟨bs, e1⟩, h1, ds, h2, e⟩ := e
  refine ⟨z, F, env, bs, e1, S, h1, fun vs F1 H1 s1 S1 r1 => ?_⟩
  have r := r1.rb S1 h2
  split at e
  case h_2 => cases e
  next j =>
  split at e
  case isFalse => cases e
  next hb =>
  obtain ⟨hl, e⟩ := gd_some e
  cases e
  rw [sizeLine_eq] at hl
  cases r with
  | cons q1 q2 =>
    cases q2
    refine ⟨j, by rw [q1.int], ?_, ?_, k _ F1 H1 s1 S1 (wk_range (by rw [sizeLine_eq]; exact hl))⟩
    · exact hb
    · omega
theorem di_range2 {tg : Expr} (hm : X.mg "range" = none) (ha : DA X C c [a, b] fa) (hg : Gl X "range" := by rfl) (hs : starEach [a, b] X.env = [(false, eval a X.env), (false, eval b X.env)] := by rfl) (hs2 : starEach [b] X.env = [(false, eval b X.env)] := by rfl) : DI X C c tg (.Call (.Name "range" p) [a, b] [] pos) (iR2 fa) := by
  refine PI.imp (pi_range2 hg hm ha hs hs2) fun σ H R ⟨z, F, env, ds, env', S, e, k⟩ => ?_
  simp only [iR2, Option.bind_eq_some_iff] at e
  obtain ⟨⟨bs, e1⟩, h1, ds, h2, e⟩ := e
  refine ⟨z, F, env, bs, e1, S, h1, fun vs F1 H1 s1 S1 r1 => ?_⟩
  have r := r1.rb S1 h2
  split at e
  case h_2 => cases e
  next i j =>
  split at e
  case isFalse => cases e
  next hb =>
  simp only [Bool.and_eq_true, decide_eq_true_eq] at hb
  obtain ⟨hl, e⟩ := gd_some e
  cases e
  cases r with
  | cons q1 q2 =>
    cases q2 with
    | cons q2 q3 =>
      cases q3
      exact ⟨i, j, by rw [q1.int, q2.int], ⟨hb.1.1.1, hb.1.1.2, hb.1.2, hb.2⟩, k _ F1 H1 s1 S1 (wk_range hl)⟩
end
end DL

namespace PySem
open Sem (wp)
theorem meets_enum_one {v : Value} {o : Obj} {H : Heap → Prop} (B : Begins v o H) :
    Meets (Builtin.«enumerate.__new__» ⟨[.type "enumerate", v], []⟩) (fun _ R s => H s.heap ∧
      R (.ok (.ret (.ref (s.heap.push o).objs.size))) { s with heap := (s.heap.push o).push { cls := .type "enumerate", data := .fields #[.none, .bool false, .ref s.heap.objs.size, rawInt 0, .none, .none] } }) :=
  .of_wp fun prog w A R s h => by
    obtain ⟨hp, g, d, tk, os⟩ := s; obtain ⟨h1, h⟩ := h
    have hsub := sub_enumerate
    have q1 : ∀ {A' : Around} {E : Value → Shared → Prop} {Q : Value → Shared → Prop}, Q (.ref hp.objs.size) ⟨hp.push o, g, d, tk, os⟩ → wpAny (model prog w) A' (pyIter v) Q E ⟨hp, g, d, tk, os⟩ :=
      fun q => B.iter prog w _ _ ⟨hp, g, d, tk, os⟩ _ h1 q
    wp_walk using q1
    refine wpAny_stack_any fun st => wpAny_pure ?_
    split
    · rename_i c _ _ _ _ _
      cases (c == Value.type "enumerate")
      · wp_walk using q1
        exact ⟨_, rfl, h⟩
      · wp_walk using q1
        exact ⟨_, rfl, h⟩
    · wp_walk using q1
      exact ⟨_, rfl, h⟩
section
variable {prog : Program} {w : World} {A : Around} {E : Value → Shared → Prop} {s : Shared}
theorem enum_begins1 {v : Value} {o : Obj} {H : Heap → Prop} {Q : Value → Shared → Prop} (B : Begins v o H) (h1 : H s.heap)
    (h : ∀ h', IsEnum h' (s.heap.objs.size + 1) s.heap.objs.size 0 .none → h'.get? s.heap.objs.size = some o → h'.objs.size = s.heap.objs.size + 2 →
      (∀ b o, s.heap.get? b = some o → h'.get? b = some o) → Q (.ref (s.heap.objs.size + 1)) { s with heap := h' }) :
    wpAny (model prog w) A (call (.type "enumerate") [v]) Q E s := by
  refine callType_new F.called_enumerate (by decide) (F.typeCall_enumerate_1 _) (F.newCall_enumerate_1 _) (fun obj => F.args_object_init_2 obj _) F.entry_enumerate_new
    (meets_enum_one B) ⟨h1, ?_⟩
  have hz : (s.heap.push o).objs.size = s.heap.objs.size + 1 := Heap.size_push ..
  show _ ∧ _
  rw [hz]
  have he : IsEnum ((s.heap.push o).push { cls := .type "enumerate", data := .fields #[.none, .bool false, .ref s.heap.objs.size, rawInt 0, .none, .none] }) (s.heap.objs.size + 1) s.heap.objs.size 0 .none := by
    have := Heap.get?_push_size (s.heap.push o) (o := { cls := .type "enumerate", data := .fields #[.none, .bool false, .ref s.heap.objs.size, rawInt 0, .none, .none] }) rfl
    rw [hz] at this; exact this
  refine ⟨⟨_, he, rfl⟩, h _ he (Heap.get?_push_of_some _ (Heap.get?_push_size _ B.free)) (by rw [Heap.size_push, hz]) fun b o x => Heap.get?_push_of_some _ (Heap.get?_push_of_some _ x)⟩
theorem enum_endT {e it l : Addr} {i : Nat} {items : Array Value} {old : Value} {Q : Option Value → Shared → Prop} (hh : A.handled = none)
    (he : IsEnum s.heap e it i old) (hit : s.heap.IsTupleIter it l i) (hl : s.heap.IsTuple l items) (hx : items[i]? = none)
    (hQ : ∀ h', Heap.ExtBut it s.heap h' → Q none { s with heap := h' }) : wpAny (model prog w) A (pyNext (.ref e)) Q E s := by
  have hT : s.TypeIs (.ref e) "enumerate" := ⟨_, he, rfl⟩
  unfold pyNext
  refine wpAny_bind (wpAny_attempt (wpAny_callSpecial?_slot (name := Str.ofString "__next__") hT F.slot_enumerate_next
    (wpAny_call_entry F.slot_enumerate_next hT F.entry_enumerate_next ?_ (F.args_enumerate_next_1 _))))
  show wpAny _ _ (field (.ref e) 2 >>= _) _ _ _
  refine wpAny_bind (wpAny_field he rfl (x := .ref it) rfl ?_)
  refine wpAny_bind (wpAny_nextOf_tuple_end (show A.in1.handled = none from hh) hit hl hx fun h' x he' hx' => ?_)
  obtain ⟨o, ho, hc⟩ := hx'
  refine wpAny_bind (wpAny_isInstance (T := "StopIteration") (b := true) ⟨o, ho, hc⟩ isSubtype_stop ?_)
  exact wpAny_pure (hQ _ he')
end
end PySem
namespace L2
open PySem PySem.Spec PyProof.Rows
/-- enumerate of a tuple -/
def IteT (K : PySem.W.Frag) (a : Addr) : It :=
  ⟨fun i H => ∃ xs x, SqT K H a xs ∧ xs[i]? = some x, fun i H v H' => ∃ T x, v = .ref T ∧ H T = none ∧ H' = upd H T (.tup [.int (i : Nat), x]) ∧ ∀ xs, SqT K H a xs → xs[i]? = some x, fun i H => ∃ xs, SqT K H a xs ∧ xs.length ≤ i⟩
theorem turn_enumT {P : Program} {w : World} {K : PySem.W.Frag} {elts : List Expr} {kk : Nat} {tpos : Pos} (a e it : Addr) (hai : a ≠ it) (hae : e ≠ a) :
    Turn P w K (.Tuple elts kk tpos) (IteT K a) [e, it] e (fun i h => (∃ old, IsEnum h e it ((i : Nat) : Int) old) ∧ h.IsTupleIter it a i ∧ e ≠ it) where
  mem := by simp
  obj := fun i h st b hb => by
    obtain ⟨⟨old, he⟩, ⟨o, ho, hc, hd⟩, _⟩ := st
    have e' : b = e ∨ b = it := by simpa using hb
    rcases e' with z | z
    · rw [z]; exact ⟨_, he, fun v q => nomatch q⟩
    · rw [z]; exact ⟨o, ho, fun v q => by rw [hd] at q; cases q⟩
  keep := fun i h h' st k => let ⟨⟨old, he⟩, hi, hne⟩ := st; ⟨⟨old, k e (by simp) _ he⟩, hi.at fun o q => k it (by simp) o q, hne⟩
  item := by
    intro X hP hw hK hc i pins s σ H E I hf st hg
    subst hP hw hK
    obtain ⟨⟨old, he⟩, hit, hne⟩ := st
    obtain ⟨xs, x, hq, hx⟩ := hg
    obtain ⟨its, rv, p, hz⟩ := I.tuple hq
    obtain ⟨u, hu, ru⟩ := rv.get hx
    have hel : e < s.heap.objs.size := Heap.lt_size he
    have hil : it < s.heap.objs.size := by obtain ⟨_, q, _⟩ := hit; exact Heap.lt_size q
    have hh : (X.A.in1).handled = none := I.ok.hd hc
    have D := Draws.tuple (prog := X.prog) (w := X.w) (A := X.A.in1) hh it a hai its.toArray
    have hlt : i < its.toArray.size := by
      have := (List.getElem?_eq_some_iff.mp hu).1
      simpa using this
    have hsT : s.heap.IsTuple a its.toArray := p
    refine wpAny_pyNext_enum_itemD D he ⟨hit, hsT⟩ hlt hne (by simp [hne, hae]) fun y h' tk hP ho hst hT hsz hk => ?_
    have hy : y = u := by
      have h1 : its.toArray[i]? = some y := hP
      have h2 : its.toArray[i]? = some u := by simpa using hu
      rw [h1] at h2; exact Option.some.inj h2
    subst hy
    refine ⟨_, rfl, wpAny_letOwnedTupleGo_enum (s := { s with heap := h', toks := tk + 1 }) ho fun h'' he' sb => ?_⟩
    have hT2 : h''.get? s.heap.objs.size = some { cls := .type "tuple", data := .seq #[.int i tk, y] } := (sb.2 _ (Nat.ne_of_gt hel)).trans hT
    have new : ObjOk X.prog X.w (upd H s.heap.objs.size (.tup [.int (i : Nat), x])) h'' s.heap.objs.size (.tup [.int (i : Nat), x]) :=
      ⟨by show 2 ≤ sizeLine; decide, [.int i tk, y], .cons ⟨_, rfl⟩ (.cons ru .nil), ⟨_, hT2, rfl, _, rfl⟩⟩
    have I1 : Inv X pins σ (upd H s.heap.objs.size (.tup [.int (i : Nat), x])) { s with heap := h'', toks := tk + 1 } :=
      I.turnedNew (ch := [e, it]) (fun b ob hb q => (sb.2 b (fun z => hb (by simp [z]))).trans (hk b ob (fun z => hb (by simp [z])) (fun z => hb (by simp [z])) q)) hf (Nat.le_refl _) new
    refine ⟨.ref s.heap.objs.size, _, I1, rfl, ⟨_, x, rfl, I.hok.fresh (Nat.le_refl _), rfl, fun ys hy => by rw [I.tuple_inj hy hq]; exact hx⟩, ⟨⟨y, ?_⟩, hst.1.at fun o q => (sb.2 it (Ne.symm hne)).trans q, hne⟩, fun b hb => ?_⟩
    · have e1 : ((i + 1 : Nat) : Int) = (i : Int) + 1 := by omega
      rw [e1]; exact he'
    · have hb' : b < s.heap.objs.size := by
        have e' : b = e ∨ b = it := by simpa using hb
        rcases e' with z | z
        · rw [z]; exact hel
        · rw [z]; exact hil
      rw [upd_ne (Nat.ne_of_lt hb')]
      exact (hf b hb).1
  done := by
    intro X hP hw hK hc i pins s σ H E I hf st hg
    subst hP hw hK
    obtain ⟨⟨old, he⟩, hit, hne⟩ := st
    obtain ⟨xs, hq, hx⟩ := hg
    obtain ⟨its, rv, p, hz⟩ := I.tuple hq
    obtain ⟨f0, f1, f2, f3, f4, f5⟩ := hf it (by simp)
    have hl := rv.length
    exact enum_endT (I.ok.hd hc) he hit p (by simp; omega) fun h' eb => ⟨rfl, I.turned (t' := s.toks) (fun b o hb q => eb b o hb q) f0 f1 f3 f4 f5⟩
  self := fun A i s Q E st h => let ⟨⟨_, he⟩, _⟩ := st; wpAny_pyIter_enum he h
def iEnumT (K : PySem.W.Frag) (ta : TA) : TI := fun σ H R => ta σ H fun vs H1 => ∃ a xs, vs = [.ref a] ∧ SqT K H1 a xs ∧ R (IteT K a) H1
theorem pi_enumT {X : Cx} {e : Expr} {ta : TA} {p pos tpos : Pos} {elts : List Expr} {kk : Nat} (hg : Gl X "enumerate") (hm : X.mg "enumerate" = none) (ha : PA X [e] ta) (hs : starEach [e] X.env = [(false, eval e X.env)] := by rfl) :
    PI X (.Tuple elts kk tpos) (.Call (.Name "enumerate" p) [e] [] pos) (iEnumT X.K ta) := by
  refine ⟨fun pins s σ H R I h => ?_⟩
  refine Call_ (ld_blt I hg hm boot_enumerate (PyProof.Rows.callWith_type1 (thn (ha.run pos pins s σ H _ I h) fun us s1 ⟨vs, H1, I1, r1, q1⟩ => ?_) hs rfl))
  obtain ⟨a, xs, ex, hq, q⟩ := q1
  subst ex
  cases r1 with
  | cons r rr =>
    cases rr
    cases r
    obtain ⟨its, rv, p', hz⟩ := I1.tuple hq
    have hal : a < s1.heap.objs.size := p'.lt
    refine enum_begins1 (begins_tuple a its.toArray) p' fun h' he hit hsz hk => wpAny_pyIter_enum he ?_
    have I2 : Inv X pins σ H1 { s1 with heap := h' } := I1.kept (t' := s1.toks) hk
    refine ⟨s1.heap.objs.size + 1, [s1.heap.objs.size + 1, s1.heap.objs.size], _, _, H1, rfl, I2, turn_enumT a (s1.heap.objs.size + 1) s1.heap.objs.size (Nat.ne_of_lt hal) (Nat.ne_of_gt (Nat.lt_succ_of_lt hal)), ⟨⟨.none, he⟩, ⟨_, hit, rfl, rfl⟩, Nat.succ_ne_self _⟩, fun b hb => ?_, q⟩
    have e' : b = s1.heap.objs.size + 1 ∨ b = s1.heap.objs.size := by simpa using hb
    have hle : s1.heap.objs.size ≤ b := by
      rcases e' with z | z
      · rw [z]; exact Nat.le_add_right _ _
      · rw [z]; exact Nat.le_refl _
    exact I1.fpOk hle (I1.hok.fresh hle)
end L2
namespace DL
open PySem L2
section
variable {X : Cx} {C : CA} {c : Cs} {e : Expr} {fa : AF} {f : EF} {pos p : Pos}
def enumL (xs : List D) : List D := xs.mapIdx fun i d => .tup [.int (i : Nat), d]
theorem enumL_length (xs : List D) : (enumL xs).length = xs.length := by simp [enumL]
theorem enumL_get {xs : List D} {i : Nat} {d : D} (h : xs[i]? = some d) : (enumL xs)[i]? = some (.tup [.int (i : Nat), d]) := by simp [enumL, h]
theorem wk_enum {K : PySem.W.Frag} {F : Hp} {a : Addr} {vs : List V} {ds : List D} (h : F a = some (.lst vs)) (hl : vs.length ≤ sizeLine) (r : RpAll K C F vs ds) : Wk K C (Ite K a) F (enumL ds) := by
  have w := walk_enum (K := K) (a := a) (xs := vs)
  have el := enumL_length ds
  rw [r.length] at w
  refine ⟨fun i F' H s1 s2 hi => w.goes i H (el ▸ hi) (SqL.of (s2 _ _ (s1 _ _ h))), fun F' H s1 s2 => by rw [el]; exact w.stops H (SqL.of (s2 _ _ (s1 _ _ h))), fun i F' H x H' s1 s2 hi y => ?_, by rw [el, ← r.length]; exact hl⟩
  obtain ⟨T, i', x', rfl, hT, rfl, e1, e2⟩ := w.yields i H x H' (el ▸ hi) (SqL.of (s2 _ _ (s1 _ _ h))) y
  cases e1
  obtain ⟨d, hd, rd⟩ := r.get e2
  have ex : Ext F' H (upd F' T (.tup [.int (i : Nat), x'])) (upd H T (.tup [.int (i : Nat), x'])) := Ext.laid s2 hT
  exact ⟨_, _, ex, enumL_get hd, .tup (SqT.of upd_same) (by rw [sizeLine_eq]; show 2 ≤ 16777216; decide) (.cons (.int _) (.one (rd.mono (s1.trans ex.sub))))⟩
theorem wk_enumT {K : PySem.W.Frag} {F : Hp} {a : Addr} {vs : List V} {ds : List D} (h : SqT K F a vs) (hl : vs.length ≤ sizeLine) (r : RpAll K C F vs ds) : Wk K C (IteT K a) F (enumL ds) := by
  have el := enumL_length ds
  refine ⟨fun i F' H s1 s2 hi => ?_, fun F' H s1 s2 => ⟨vs, SqT.sub s2 (SqT.sub s1 h), by rw [el, r.length]; exact Nat.le_refl _⟩, fun i F' H x H' s1 s2 hi y => ?_, by rw [el, ← r.length]; exact hl⟩
  · rw [el, ← r.length] at hi
    exact ⟨vs, vs[i], SqT.sub s2 (SqT.sub s1 h), by simp [hi]⟩
  · obtain ⟨T, x', rfl, hT, rfl, e2⟩ := y
    obtain ⟨d, hd, rd⟩ := r.get (e2 vs (SqT.sub s2 (SqT.sub s1 h)))
    have ex : Ext F' H (upd F' T (.tup [.int (i : Nat), x'])) (upd H T (.tup [.int (i : Nat), x'])) := Ext.laid s2 hT
    exact ⟨_, _, ex, enumL_get hd, .tup (SqT.of upd_same) (by rw [sizeLine_eq]; show 2 ≤ 16777216; decide) (.cons (.int _) (.one (rd.mono (s1.trans ex.sub))))⟩
def iEn (f : EF) : IF := fun env => (f env).bind fun p => match p.1 with
  | .val d => (itmsS d).bind fun xs => some (enumL xs, p.2)
  | .slot _ => none
theorem di_enum {elts : List Expr} {kk : Nat} {tpos : Pos} (hm : X.mg "enumerate" = none) (h : DE X C c e f) (hg : Gl X "enumerate" := by rfl) (hs : starEach [e] X.env = [(false, eval e X.env)] := by rfl) (hs0 : starEach (e :: []) X.env = (false, eval e X.env) :: starEach [] X.env := by rfl) : DI X C c (.Tuple elts kk tpos) (.Call (.Name "enumerate" p) [e] [] pos) (iEn f) := by
  refine PI.imp (PI.or (pi_enum hg hm (pa_cons h pa_nil hs0) hs) (pi_enumT hg hm (pa_cons h pa_nil hs0) hs)) fun σ H R ⟨z, F, env, ds, env', S, e, k⟩ => ?_
  simp only [iEn, Option.bind_eq_some_iff] at e
  obtain ⟨⟨b, e1⟩, h1, e⟩ := e
  cases b with
  | slot _ => cases e
  | val d =>
    obtain ⟨xs, h2, e⟩ := Option.bind_eq_some_iff.mp e
    cases e
    cases d <;> simp only [itmsS] at h2 <;> try (cases h2; done)
    · cases h2
      refine .inl ⟨z, F, env, _, e1, S, h1, fun v F1 H1 s1 S1 r1 => ?_⟩
      cases r1 with
      | lst q ql r => exact ⟨_, _, rfl, SqL.of (S1.sub _ _ q), k _ F1 H1 s1 S1 (wk_enum q ql r)⟩
    · cases h2
      refine .inr ⟨z, F, env, _, e1, S, h1, fun v F1 H1 s1 S1 r1 => ?_⟩
      cases r1 with
      | tup q ql r => exact ⟨_, _, rfl, SqT.sub S1.sub q, k _ F1 H1 s1 S1 (wk_enumT q ql r)⟩
end
end DL

namespace DL
open PySem L2
def wipeE (env : Env) : List Nat → Env
  | [] => env
  | v :: vs => st (wipeE env vs) v none
def backE (env : Env) : List Nat → Env → Env
  | [], e => e
  | v :: vs, e => st (backE env vs e) v (gt env v)
theorem backE_length (env e : Env) : ∀ own : List Nat, (backE env own e).length = e.length
  | [] => rfl
  | v :: vs => by show (st (backE env vs e) v _).length = _; rw [st_length, backE_length env e vs]
theorem gt_none {e : Env} {i : Nat} (h : e.length ≤ i) : gt e i = none := by
  cases q : gt e i with
  | none => rfl
  | some d => exact absurd (gt_lt q) (by omega)
theorem gt_backE_in {env e : Env} (hl : e.length = env.length) {j : Nat} : ∀ {own : List Nat}, j ∈ own → gt (backE env own e) j = gt env j
  | v :: vs, h => by
    show gt (st (backE env vs e) v (gt env v)) j = _
    by_cases q : v = j
    · subst q
      by_cases lt : v < (backE env vs e).length
      · exact gt_st lt
      · rw [gt_none (by rw [st_length]; omega), gt_none (by rw [backE_length, hl] at lt; omega)]
    · rw [gt_st_ne q]
      rcases List.mem_cons.mp h with z | z
      · exact absurd z.symm q
      · exact gt_backE_in hl z
theorem gt_backE_out {env e : Env} {j : Nat} : ∀ {own : List Nat}, j ∉ own → gt (backE env own e) j = gt e j
  | [], _ => rfl
  | v :: vs, h => by
    show gt (st (backE env vs e) v (gt env v)) j = _
    have h1 : v ≠ j := fun q => h (q ▸ List.mem_cons_self ..)
    rw [gt_st_ne h1]
    exact gt_backE_out fun q => h (List.mem_cons_of_mem _ q)
section
variable {K : PySem.W.Frag} {C : CA} {c : Cs} {z : Zn} {F F' : Hp} {env env' : Env} {σ : St} {H H' : Hp}
theorem SRo.wipe1 (S : SRo K C c z F env σ H) {i : Nat} (hi : i ∉ c.O) : SRo K C c z F (st env i none) (σ.set i none) H := by
  refine ⟨S.sub, S.f0, S.new, S.keep, by rw [st_length, List.length_set]; exact S.len, by rw [st_length]; exact S.num, fun j e h hj => ?_, fun j e h hj => ?_, fun j k dj dk b hj hk hjk ej ek sj sk => ?_, S.iol, S.gho, fun b e j e2 h hj ej => ?_, S.ghn, fun k j hk => ?_⟩
  · obtain ⟨hij, h⟩ := gt_st_none h
    rw [List.getElem?_set_ne hij]
    exact S.pur j e h hj
  · obtain ⟨hij, h⟩ := gt_st_none h
    rw [List.getElem?_set_ne hij]
    exact S.own j e h hj
  · obtain ⟨h1, ej⟩ := gt_st_none ej
    obtain ⟨h2, ek⟩ := gt_st_none ek
    rw [List.getElem?_set_ne h1] at sj
    rw [List.getElem?_set_ne h2] at sk
    exact S.dist j k dj dk b hj hk hjk ej ek sj sk
  · obtain ⟨h1, ej⟩ := gt_st_none ej
    rw [List.getElem?_set_ne h1]
    exact S.ghd b e j e2 h hj ej
  · obtain ⟨h1, b, e, h2, h3, h4⟩ := S.ios k j hk
    have hij : i ≠ j := fun q => hi (q ▸ h1)
    exact ⟨h1, b, e, h2, by rw [List.getElem?_set_ne hij]; exact h3, by rw [gt_st_ne hij]; exact h4⟩
theorem SRo.back {e1 : Env} {F1 H1 : Hp} {own : List Nat} (S0 : SRo K C c z F env σ H) (S1 : SRo K C c z F1 e1 (L2.wipe σ own) H1) (s : Same F F1) (ho : ∀ j ∈ own, j ∉ c.O) : SRo K C c z F1 (backE env own e1) σ H1 := by
  have le : e1.length = env.length := by rw [S1.num, S0.num]
  have out : ∀ j, j ∈ c.O → j ∉ own := fun j hj hq => ho j hq hj
  refine ⟨S1.sub, S1.f0, S1.new, S1.keep, by rw [backE_length, le]; exact S0.len, by rw [backE_length]; exact S1.num, fun j e h hj => ?_, fun j e h hj => ?_, fun j k dj dk b hj hk hjk ej ek sj sk => ?_, S1.iol, S1.gho, fun b e j e2 h hj ej => ?_, S1.ghn, fun k j hk => ?_⟩
  · by_cases q : j ∈ own
    · rw [gt_backE_in le q] at h
      obtain ⟨v, h1, h2⟩ := S0.pur j e h hj
      exact ⟨v, h1, h2.mono s⟩
    · rw [gt_backE_out q] at h
      obtain ⟨v, h1, h2⟩ := S1.pur j e h hj
      exact ⟨v, by rw [← wipe_out q]; exact h1, h2⟩
  · rw [gt_backE_out (out j hj)] at h
    rw [← wipe_out (out j hj)]
    exact S1.own j e h hj
  · rw [gt_backE_out (out j hj)] at ej
    rw [gt_backE_out (out k hk)] at ek
    rw [← wipe_out (out j hj)] at sj
    rw [← wipe_out (out k hk)] at sk
    exact S1.dist j k dj dk b hj hk hjk ej ek sj sk
  · rw [gt_backE_out (out j hj)] at ej
    rw [← wipe_out (out j hj)]
    exact S1.ghd b e j e2 h hj ej
  · obtain ⟨h1, b, e, h2, h3, h4⟩ := S1.ios k j hk
    exact ⟨h1, b, e, h2, by rw [← wipe_out (out j h1)]; exact h3, by rw [gt_backE_out (out j h1)]; exact h4⟩
/-- the object kept in mind is written -/
theorem SRo.gwrite {a : Addr} {d d' : D} {gs : List (Addr × D)} {o : HO} (S : SRo K C c { z with gh := (a, d) :: gs } F env σ H) (ho : Own K C F (upd H a o) a d') : SRo K C c { z with gh := (a, d') :: gs } F env σ (upd H a o) := by
  obtain ⟨h1, h2, h3⟩ := S.gho a d (List.mem_cons_self ..)
  have nd := S.ghn
  rw [List.map_cons, List.nodup_cons] at nd
  have same : ∀ b u, F b = some u → b ≠ a := fun b u h q => by subst q; rw [h1] at h; cases h
  refine ⟨fun b u h => by rw [upd_ne (same b u h)]; exact S.sub _ _ h, S.f0, S.new, fun b u h hb => ?_, S.len, S.num, S.pur, fun j e h hj => ?_, S.dist, S.iol, fun b e h => ?_, fun b e j e2 h hj ej => ?_, ?_, S.ios⟩
  · have hne : b ≠ a := by
      rintro rfl
      have h3' : z.H0 b = none := h3
      have h' : z.H0 b = some u := h
      rw [h3'] at h'; cases h'
    rw [upd_ne hne]; exact S.keep b u h hb
  · obtain ⟨b, q1, q2, q3, q4⟩ := S.own j e h hj
    have hne : b ≠ a := fun q => S.ghd a d j e (List.mem_cons_self ..) hj h (q ▸ q1)
    exact ⟨b, q1, q2, q3.mono (Same.refl _) (upd_ne hne), q4⟩
  · rcases List.mem_cons.mp h with q | q
    · cases q; exact ⟨h1, ho, h3⟩
    · obtain ⟨q1, q2, q3⟩ := S.gho b e (List.mem_cons_of_mem _ q)
      have hne : b ≠ a := fun z => nd.1 (z ▸ List.mem_map.mpr ⟨_, q, rfl⟩)
      exact ⟨q1, q2.mono (Same.refl _) (upd_ne hne), q3⟩
  · rcases List.mem_cons.mp h with q | q
    · cases q; exact S.ghd a d j e2 (List.mem_cons_self ..) hj ej
    · exact S.ghd b e j e2 (List.mem_cons_of_mem _ q) hj ej
  · rw [List.map_cons, List.nodup_cons]; exact nd

theorem wipe_app {τ : St} : ∀ {own : List Nat} {σ : St}, (∀ j ∈ own, j < σ.length) → L2.wipe (σ ++ τ) own = L2.wipe σ own ++ τ
  | [], _, _ => rfl
  | v :: vs, σ, h => by
    show (L2.wipe (σ ++ τ) vs).set v none = (L2.wipe σ vs).set v none ++ τ
    rw [wipe_app fun j hj => h j (List.mem_cons_of_mem _ hj)]
    exact List.set_append_left _ _ (by rw [wipe_length]; exact h v (List.mem_cons_self ..))
theorem SR.wipe1 (S : SR K C c z F env σ H) {i : Nat} (hi : i ∉ c.O) (hn : i < c.n) : SR K C c z F (st env i none) (σ.set i none) H := by
  have h := S.b.wipe1 (x_notO hi hn)
  rw [S.setC hn] at h
  exact ⟨h, by rw [List.length_set]; exact S.ln, S.hO, S.hio⟩
theorem SR.wipe (S : SR K C c z F env σ H) : ∀ {own : List Nat}, (∀ j ∈ own, j ∉ c.O ∧ j < c.n) → SR K C c z F (wipeE env own) (L2.wipe σ own) H
  | [], _ => S
  | v :: vs, h => (SR.wipe S (own := vs) fun j hj => h j (List.mem_cons_of_mem _ hj)).wipe1 (h v (List.mem_cons_self ..)).1 (h v (List.mem_cons_self ..)).2
theorem SR.back {e1 : Env} {F1 H1 : Hp} {own : List Nat} (S0 : SR K C c z F env σ H) (S1 : SR K C c z F1 e1 (L2.wipe σ own) H1) (s : Same F F1) (ho : ∀ j ∈ own, j ∉ c.O ∧ j < c.n) : SR K C c z F1 (backE env own e1) σ H1 := by
  have h1 := S1.b
  rw [← wipe_app (τ := cells C c) fun j hj => by rw [S0.ln]; exact (ho j hj).2] at h1
  exact ⟨S0.b.back h1 s fun j hj => x_notO (ho j hj).1 (ho j hj).2, S0.ln, S0.hO, S0.hio⟩
theorem SR.aptB {e1 : Env} {own : List Nat} {D : Addr} (S0 : SR K C c z F env σ H) (ho : ∀ j ∈ own, j ∉ c.O ∧ j < c.n) (ap : Apt C c e1 (L2.wipe σ own) D) : Apt C c (backE env own e1) σ D := fun j e hj ej => by
  have hjo : j ∉ own := fun q => x_notO (ho j q).1 (ho j q).2 hj
  rw [gt_backE_out hjo] at ej
  have := ap j e hj ej
  rwa [← wipe_app (τ := cells C c) fun j hj => by rw [S0.ln]; exact (ho j hj).2, wipe_out hjo] at this
theorem SR.gwrite {a : Addr} {d d' : D} {gs : List (Addr × D)} {o : HO} (S : SR K C c { z with gh := (a, d) :: gs } F env σ H) (ho : Own K C F (upd H a o) a d') : SR K C c { z with gh := (a, d') :: gs } F env σ (upd H a o) := ⟨S.b.gwrite ho, S.ln, S.hO, S.hio⟩
end
section
variable {m : Bool} {X : Cx} {C : CA} {c : Cs} {e a b o : Expr} {es : List Expr} {fa : AF} {f g : EF} {pos p apos cpos : Pos} {x : Str}
def tYesF : TF := fun env => some (true, env)
def DTs (X : Cx) (C : CA) (c : Cs) (es : List Expr) (f : TF) : Prop := PTs X es (tT X.K C c f)
theorem dts_nil : DTs X C c [] tYesF := ⟨fun pins s σ H Q I ⟨z, F, env, k, env', S, e, h⟩ => pts_nil.run pins s σ H Q I (by cases e; exact h F H (Same.refl _) S)⟩
theorem dts_one {t : TF} (h : DT X C c e t) : DTs X C c [e] t := pts_one h
/-- the turns of a comprehension: what is made so far -/
def lcD (gg : GF) (tt : TF) (f : EF) (own : List Nat) : List D → Env → List D → Option (List D × Env)
  | [], env, acc => some (acc, env)
  | d :: ds, env, acc => (gg d env).bind fun e1 => (tt e1).bind fun r => if r.1 = true then (f r.2).bind fun p => (match p.1 with
    | .val y => lcD gg tt f own ds (wipeE p.2 own) (acc ++ [y])
    | .slot _ => none) else lcD gg tt f own ds (wipeE r.2 own) acc
def oLc (i : IF) (gg : GF) (tt : TF) (f : EF) (own : List Nat) : OF := fun env => (i env).bind fun p => (lcD gg tt f own p.1 (wipeE p.2 own) []).bind fun r => some (.lst r.1, backE p.2 own r.2)
theorem wipe_wipe (σ : St) (own : List Nat) (h : ∀ σ', L2.wipe σ' own = L2.wipe σ own → True) : True := trivial
theorem wipe_idem : ∀ (own : List Nat) (σ : St), L2.wipe (L2.wipe σ own) own = L2.wipe σ own := by
  intro own σ
  have cong : ∀ (own : List Nat) (σ1 σ2 : St), σ1.length = σ2.length → (∀ j, j ∉ own → σ1[j]? = σ2[j]?) → L2.wipe σ1 own = L2.wipe σ2 own := by
    intro own σ1 σ2 hl h
    refine List.ext_getElem? fun j => ?_
    by_cases q : j ∈ own
    · have z : ∀ σ : St, (L2.wipe σ own)[j]? = if j < σ.length then some none else none := by
        intro σ
        by_cases lt : j < σ.length
        · rw [if_pos lt]
          cases e : (L2.wipe σ own)[j]? with
          | none => rw [List.getElem?_eq_none_iff, wipe_length] at e; omega
          | some v =>
            cases v with
            | none => rfl
            | some v => exact absurd q (wipe_some e).2
        · rw [if_neg lt, List.getElem?_eq_none_iff, wipe_length]; omega
      rw [z, z, hl]
    · rw [wipe_out q, wipe_out q, h j q]
  exact cong own _ _ (wipe_length σ own) fun j hj => wipe_out hj
/-- the reading of a comprehension -/
theorem lc_read {tt : TF} {gg : GF} {ts own : List Nat} {f : EF} {fi : IF} {σ : St} {H : Hp} {Q : VK} {z : Zn} {F : Hp} {env env' : Env} {d : D} (ho : ∀ j ∈ own, j ∉ c.O ∧ j < c.n) (hts : ∀ t ∈ ts, t ∈ own) (S : SR X.K C c z F env σ H) (e : oLc fi gg tt f own env = some (d, env'))
    (k : ∀ a F' H', Same F F' → SR X.K C c z F' env' σ H' → F' a = none → z.H0 a = none → Own X.K C F' H' a d → (Apt C c env' σ a) → (∀ e, (a, e) ∉ z.gh) → Q (.ref a) H') :
    tLc (tI X.K C c fi) (tG X.K C c ts gg) (tT X.K C c tt) (tE X.K C c f) own σ H Q := by
  simp only [oLc, Option.bind_eq_some_iff] at e
  obtain ⟨⟨ds, e1⟩, h1, ⟨res, e2⟩, h2, e⟩ := e
  cases e
  refine ⟨z, F, env, ds, e1, S, h1, fun J F1 H1 s1 S1 W D hD => ?_⟩
  obtain ⟨S2, fD, zD, apD, ngD⟩ := S1.newO (o := .lst []) hD
  have S3 := (S2.ghost (d := .lst []) fD zD ⟨[], upd_same, Nat.zero_le _, .nil⟩ apD ngD).wipe ho
  refine ⟨fun i n H => n = ds.length - i ∧ i ≤ ds.length ∧ ∃ F4 env4 acc, Same F1 F4 ∧ SR X.K C c { z with gh := (D, .lst acc) :: z.gh } F4 env4 (L2.wipe σ own) H ∧ acc.length ≤ i ∧ lcD gg tt f own (ds.drop i) env4 acc = some (res, e2), ⟨ds.length, by simp, Nat.zero_le _, F1, _, [], Same.refl _, S3, Nat.zero_le _, h2⟩, ?_⟩
  rintro i n H4 ⟨rfl, hi, F4, env4, acc, s4, S4, hacc, e4⟩
  by_cases hlt : i < ds.length
  · refine .inr ⟨W.go i F4 H4 s4 S4.sub hlt, fun H' => ∃ F5 env5 acc5, Same F1 F5 ∧ SR X.K C c { z with gh := (D, .lst acc5) :: z.gh } F5 env5 (L2.wipe σ own) H' ∧ acc5.length ≤ i + 1 ∧ lcD gg tt f own (ds.drop (i + 1)) env5 acc5 = some (res, e2), fun H' ⟨F5, env5, acc5, q1, q2, q3, q4⟩ => ⟨ds.length - (i + 1), by omega, rfl, hlt, F5, env5, acc5, q1, q2, q3, q4⟩, fun x H5 y => ?_⟩
    obtain ⟨F5, dx, ex, hd, r⟩ := W.yld i F4 H4 x H5 s4 S4.sub hlt y
    have ed : ds.drop i = dx :: ds.drop (i + 1) := by
      rw [List.drop_eq_getElem_cons hlt]
      obtain ⟨_, q⟩ := List.getElem?_eq_some_iff.mp hd
      rw [q]
    rw [ed] at e4
    obtain ⟨e5, h5, e4⟩ := Option.bind_eq_some_iff.mp e4
    obtain ⟨⟨k6, e6⟩, h6, e4⟩ := Option.bind_eq_some_iff.mp e4
    refine ⟨_, F5, env4, dx, e5, S4.ext ex, r, h5, fun F6 σ6 H6 s6 S6 w6 => ?_⟩
    have w6' := (w6 own hts).trans (wipe_idem own σ)
    refine ⟨w6', _, F6, e5, k6, e6, S6, h6, fun F7 H7 s7 S7 => ?_⟩
    have s17 : Same F1 F7 := s4.trans (ex.sub.trans (s6.trans s7))
    cases k6 with
    | false =>
      refine iteF ⟨F7, wipeE e6 own, acc, s17, ?_, by omega, e4⟩
      have := S7.wipe ho
      rw [w6'] at this
      exact this
    | true =>
      obtain ⟨⟨b8, e8⟩, h8, e4⟩ := Option.bind_eq_some_iff.mp e4
      refine iteT ⟨_, F7, e6, b8, e8, S7, h8, fun v F8 H8 s8 S8 r8 => ?_⟩
      cases b8 with
      | slot _ => cases e4
      | val yd =>
        obtain ⟨q1, q2, q3⟩ := S8.gho D (.lst acc) (List.mem_cons_self ..)
        obtain ⟨vs, q4, q5, q6⟩ := q2
        have hlen : vs.length < sizeLine := by
          have := W.size
          rw [q6.length]; omega
        refine ⟨vs, q4, hlen, F8, wipeE e8 own, acc ++ [yd], s17.trans s8, ?_, by rw [List.length_append, List.length_singleton]; omega, e4⟩
        have S9 := (S8.gwrite (d' := .lst (acc ++ [yd])) (o := .lst (vs ++ [v])) ⟨_, upd_same, by rw [List.length_append]; exact hlen, q6.app (.one r8)⟩).wipe ho
        rw [w6'] at S9
        exact S9
  · have q : i = ds.length := by omega
    subst q
    rw [List.drop_length] at e4
    cases e4
    refine .inl ⟨W.stop F4 H4 s4 S4.sub, ?_⟩
    obtain ⟨S5, fa, za, ow, ap, ng⟩ := S4.unghost
    have S6 : SR X.K C c z F4 (backE e1 own e2) σ H4 := S1.back S5 s4 ho
    refine k D F4 H4 (s1.trans s4) S6 fa za ow (S1.aptB ho ap) ng
theorem do_lc {elt tg iter : Expr} {ifs : List Expr} {scope : Scope} {fi : IF} {gg : GF} {tt : TF} {ts : List Nat} (own : List (Str × Nat)) (hN : X.N.Nodup) (hi : DI X C c tg iter fi) (ok : BlkOk X.N X.env.scope scope own)
    (hg : ∀ (s : Shared) (H : Hp) (C' : Addr) (cl : List (Str × Addr)) (fp : List Addr), DG (X.blk s H scope (compEnvC scope cl C' X.env) fp) C c tg ts gg) (ht : ∀ (s : Shared) (H : Hp) (C' : Addr) (cl : List (Str × Addr)) (fp : List Addr), DTs (X.blk s H scope (compEnvC scope cl C' X.env) fp) C c ifs tt)
    (he : ∀ (s : Shared) (H : Hp) (C' : Addr) (cl : List (Str × Addr)) (fp : List Addr), DE (X.blk s H scope (compEnvC scope cl C' X.env) fp) C c elt f) (ho : ∀ j ∈ own.map (·.2), j ∉ c.O ∧ j < c.n := by decide) (hts : ∀ t ∈ ts, t ∈ own.map (·.2) := by decide) (hc : X.calm = true := by rfl) (hs : ∀ x, foldedSetIterable iter X.env x = pure x := by intro _; rfl) :
    DO X C c (.ListComp elt [⟨tg, iter, ifs, 0⟩] scope pos) (oLc fi gg tt f (own.map (·.2))) := by
  refine PE.imp (pe_lc (wi := tI X.K C c fi) (g := tG X.K C c ts gg) (tt := tT X.K C c tt) (te := tE X.K C c f) hc hN hi ok (fun s H C' cl fp => hg s H C' cl fp) (fun s H C' cl fp => ht s H C' cl fp) (fun s H C' cl fp => he s H C' cl fp) hs) fun σ H Q ⟨z, F, env, d, env', S, e, k⟩ => ?_
  exact lc_read ho hts S e k
/-- y = [..], y a plain local: an own list -/
theorem ds_setLc (i : Nat) {y : Str} {py spos : Pos} {elt tg iter : Expr} {ifs : List Expr} {scope : Scope} {fi : IF} {gg : GF} {tt : TF} {ts : List Nat} (own : List (Str × Nat)) (hN : X.N.Nodup) (hi : DI X C c tg iter fi) (ok : BlkOk X.N X.env.scope scope own)
    (hg : ∀ (s : Shared) (H : Hp) (C' : Addr) (cl : List (Str × Addr)) (fp : List Addr), DG (X.blk s H scope (compEnvC scope cl C' X.env) fp) C c tg ts gg) (ht : ∀ (s : Shared) (H : Hp) (C' : Addr) (cl : List (Str × Addr)) (fp : List Addr), DTs (X.blk s H scope (compEnvC scope cl C' X.env) fp) C c ifs tt)
    (he : ∀ (s : Shared) (H : Hp) (C' : Addr) (cl : List (Str × Addr)) (fp : List Addr), DE (X.blk s H scope (compEnvC scope cl C' X.env) fp) C c elt f) (hsw : swapsWith (.ListComp elt [⟨tg, iter, ifs, 0⟩] scope pos) (some (.Name y py)) spos.line X.env = pure true)
    (ho : ∀ j ∈ own.map (·.2), j ∉ c.O ∧ j < c.n := by decide) (hts : ∀ t ∈ ts, t ∈ own.map (·.2) := by decide) (hO : i ∈ c.O := by decide) (hio : i ∉ c.io := by decide) (hn : i < c.n := by decide) (hy : X.N[i]? = some y := by rfl) (hyl : X.env.scope.names.lookup y = some .local := by rfl) (hc : X.calm = true := by rfl) (hs : ∀ x, foldedSetIterable iter X.env x = pure x := by intro _; rfl) :
    DS m X C c (.Assign [.Name y py] (.ListComp elt [⟨tg, iter, ifs, 0⟩] scope pos) spos) (sSetO i (oLc fi gg tt f (own.map (·.2)))) := by
  refine PS.imp (ps_setLc (wi := tI X.K C c fi) (g := tG X.K C c ts gg) (tt := tT X.K C c tt) (te := tE X.K C c f) hc hN hy hyl hsw hi ok (fun s H C' cl fp => hg s H C' cl fp) (fun s H C' cl fp => ht s H C' cl fp) (fun s H C' cl fp => he s H C' cl fp) hs) fun Dn σ H ⟨z, F, env, fl, S, hgh, e, k⟩ => ?_
  obtain ⟨⟨d, e1⟩, h1, e⟩ := Option.bind_eq_some_iff.mp e
  cases e
  exact lc_read ho hts S h1 fun a F1 H1 s1 S1 fa za ow ap ng => k F1 _ H1 s1 (S1.setO hO hio hn fa za ow ap ng)
theorem oLc_lst {i : IF} {gg : GF} {tt : TF} {f : EF} {own : List Nat} {env e1 : Env} {d : D} (h : oLc i gg tt f own env = some (d, e1)) : ∃ ds, d = .lst ds := by
  simp only [oLc, Option.bind_eq_some_iff] at h
  obtain ⟨_, _, _, _, e⟩ := h
  cases e
  exact ⟨_, rfl⟩
/-- .. as data -/
theorem ds_setLcP (i : Nat) {y : Str} {py spos : Pos} {elt tg iter : Expr} {ifs : List Expr} {scope : Scope} {fi : IF} {gg : GF} {tt : TF} {ts : List Nat} (own : List (Str × Nat)) (hN : X.N.Nodup) (hi : DI X C c tg iter fi) (ok : BlkOk X.N X.env.scope scope own)
    (hg : ∀ (s : Shared) (H : Hp) (C' : Addr) (cl : List (Str × Addr)) (fp : List Addr), DG (X.blk s H scope (compEnvC scope cl C' X.env) fp) C c tg ts gg) (ht : ∀ (s : Shared) (H : Hp) (C' : Addr) (cl : List (Str × Addr)) (fp : List Addr), DTs (X.blk s H scope (compEnvC scope cl C' X.env) fp) C c ifs tt)
    (he : ∀ (s : Shared) (H : Hp) (C' : Addr) (cl : List (Str × Addr)) (fp : List Addr), DE (X.blk s H scope (compEnvC scope cl C' X.env) fp) C c elt f) (hsw : swapsWith (.ListComp elt [⟨tg, iter, ifs, 0⟩] scope pos) (some (.Name y py)) spos.line X.env = pure true)
    (ho : ∀ j ∈ own.map (·.2), j ∉ c.O ∧ j < c.n := by decide) (hts : ∀ t ∈ ts, t ∈ own.map (·.2) := by decide) (hO : i ∉ c.O := by decide) (hn : i < c.n := by decide) (hy : X.N[i]? = some y := by rfl) (hyl : X.env.scope.names.lookup y = some .local := by rfl) (hc : X.calm = true := by rfl) (hs : ∀ x, foldedSetIterable iter X.env x = pure x := by intro _; rfl) :
    DS m X C c (.Assign [.Name y py] (.ListComp elt [⟨tg, iter, ifs, 0⟩] scope pos) spos) (sSet i (fO (oLc fi gg tt f (own.map (·.2))))) := by
  refine PS.imp (ps_setLc (wi := tI X.K C c fi) (g := tG X.K C c ts gg) (tt := tT X.K C c tt) (te := tE X.K C c f) hc hN hy hyl hsw hi ok (fun s H C' cl fp => hg s H C' cl fp) (fun s H C' cl fp => ht s H C' cl fp) (fun s H C' cl fp => he s H C' cl fp) hs) fun Dn σ H ⟨z, F, env, fl, S, hgh, e, k⟩ => ?_
  simp only [sSet, fO, Option.bind_eq_some_iff] at e
  obtain ⟨r, ⟨⟨d, e1⟩, h1, e0⟩, e⟩ := e
  cases e0
  cases e
  exact lc_read ho hts S h1 fun a F1 H1 s1 S1 fa za ow ap ng => by
    obtain ⟨ds, rfl⟩ := oLc_lst h1
    obtain ⟨o, S2, s2, r⟩ := S1.freezeL fa za ow ap ng
    exact k _ _ H1 (s1.trans s2) (S2.setP hO hn r)
end
end DL

namespace DL
open PySem L2
/-! ### what a def promises -/
abbrev FF := List D → Option (D × List D)
structure ArgsR (K : PySem.W.Frag) (C : CA) (io : List Nat) (F H : Hp) (vs : List V) (ds : List D) : Prop where
  len : vs.length = ds.length
  pur : ∀ (i : Nat) v d, vs[i]? = some v → ds[i]? = some d → i ∉ io → Rp K C F v d
  own : ∀ (i : Nat), i ∈ io → ∃ a d, vs[i]? = some (.ref a) ∧ ds[i]? = some d ∧ F a = none ∧ Own K C F H a d
  dist : ∀ (i j : Nat) a, i ∈ io → j ∈ io → i ≠ j → vs[i]? = some (.ref a) → vs[j]? ≠ some (.ref a)
structure Done (m : Bool) (K : PySem.W.Frag) (C : CA) (io : List Nat) (F H : Hp) (vs : List V) (F' H' : Hp) (v : V) (r : D) (outs : List D) : Prop where
  sub : Same F F'
  inn : Same F' H'
  new : ∀ b o, F' b = some o → F b = some o ∨ H b = none
  keep : ∀ b o, H b = some o → (∀ (i : Nat), i ∈ io → vs[i]? ≠ some (.ref b)) → H' b = some o
  ios : ∀ (k i : Nat) a, io[k]? = some i → vs[i]? = some (.ref a) → ∃ d, outs[k]? = some d ∧ F' a = none ∧ Own K C F' H' a d
  val : if m = true then ∃ a, v = .ref a ∧ H a = none ∧ F' a = none ∧ Own K C F' H' a r else Rp K C F' v r
def spF (K : PySem.W.Frag) (C : CA) (io : List Nat) (m : Bool) (np : Nat) (f : FF) : Sp := fun vs H Q _ => ∃ F ds r outs, Same F H ∧ vs.length = np ∧ ArgsR K C io F H vs ds ∧ f ds = some (r, outs) ∧
  ∀ v F' H', Done m K C io F H vs F' H' v r outs → Q v H'
/-- a promise for fewer arguments -/
theorem spF_mono {K : PySem.W.Frag} {C : CA} {io : List Nat} {m : Bool} {np : Nat} {f g : FF} (h : ∀ ds r, ds.length = np → g ds = some r → f ds = some r) : ∀ vs H Q E, spF K C io m np g vs H Q E → spF K C io m np f vs H Q E := by
  rintro vs H Q E ⟨F, ds, r, outs, s, hl, ar, e, k⟩
  exact ⟨F, ds, r, outs, s, hl, ar, h ds _ (ar.len ▸ hl) e, k⟩
def env0 (n : Nat) (ds : List D) : Env := ds.map some ++ List.replicate (n - ds.length) none
def outsOf (env : Env) : List Nat → Option (List D)
  | [] => some []
  | i :: is => (gt env i).bind fun d => (outsOf env is).bind fun ds => some (d :: ds)
def endF (io : List Nat) : Fl → Option (D × List D)
  | .rt d env => (outsOf env io).bind fun os => some (d, os)
  | .nx env => (outsOf env io).bind fun os => some (.non, os)
  | _ => none
def runF (c : Cs) (fb : SF) : FF := fun ds => (fb (env0 c.n ds)).bind fun fl => endF c.io fl
theorem gt_env0 {n : Nat} : ∀ {ds : List D} {i : Nat} {d : D}, gt (env0 n ds) i = some d ↔ ds[i]? = some d := by
  intro ds i d
  have aux : ∀ (k : Nat) (i : Nat), gt (List.replicate k none) i = none := by
    intro k
    induction k with
    | zero => intro i; rfl
    | succ k ih => intro i; cases i with
      | zero => rfl
      | succ i => exact ih i
  have main : ∀ (ds : List D) (k i : Nat), gt (ds.map some ++ List.replicate k none) i = ds[i]? := by
    intro ds
    induction ds with
    | nil => intro k i; simp [aux]
    | cons x xs ih => intro k i; cases i with
      | zero => rfl
      | succ i => simpa [gt] using ih k i
  unfold env0
  rw [main]
theorem outs_get {env : Env} : ∀ {io : List Nat} {os : List D}, outsOf env io = some os → ∀ (k i : Nat), io[k]? = some i → ∃ d, os[k]? = some d ∧ gt env i = some d
  | [], _, e, k, i, h => by simp at h
  | j :: io, _, e, k, i, h => by
    obtain ⟨d, h1, e⟩ := Option.bind_eq_some_iff.mp e
    obtain ⟨ds, h2, e⟩ := Option.bind_eq_some_iff.mp e
    cases e
    cases k with
    | zero => simp at h; subst h; exact ⟨d, rfl, h1⟩
    | succ k => simpa using outs_get h2 k i (by simpa using h)
section
variable {P : Program} {w : World} {K : PySem.W.Frag} {mg : Str → Option Value} {base : Heap} {x qual : Str} {params : Arguments} {body : List Stmt} {scope : Scope} {dvs : List V} {kws : List (Str × V)} {fa : Addr} {fd : FuncData}
/-- the addresses of the arguments that are handed in to be changed -/
def ioAs (io : List Nat) (vs : List V) : List Addr := io.map fun i => match vs[i]? with
  | some (V.ref a) => a
  | _ => (0 : Addr)
theorem ioAs_get {io : List Nat} {vs : List V} {k i : Nat} {a : Addr} (h : io[k]? = some i) (hv : vs[i]? = some (.ref a)) : (ioAs io vs)[k]? = some a := by
  unfold ioAs
  rw [List.getElem?_map, h]
  simp [hv]
/-- THE RULE: a def keeps the promise that its body's reading tells -/
theorem fun_ok {N ps : List Str} {k : Nat} {C : CA} {m : Bool} (c : Cs) (Fn : FunD K x qual params body scope dvs kws fa fd) (Sc : FnScope N ps scope) (fb : SF) (hn : c.n = N.length) (hio : ∀ i ∈ c.io, i < ps.length ∧ i ∈ c.O) (hO : ∀ i ∈ c.O, i < ps.length → i ∈ c.io) (hnx : m = true → ∀ env env', fb env ≠ some (.nx env'))
    (hbody : ∀ (cdv : Value) (A : Around) (outer : List PySem.Env) (s : Shared) (H : Hp) (E : XK), Room k (A.deeper (PyProof.Rows.envOfC qual scope s.heap.objs.size fa cdv)) → DSs m (cxOf CX0 P w K mg base N qual scope fa cdv A outer s H E).nox C c body fb)
    (hci : c.ci = [] := by rfl) (hcn : c.cn = [] := by rfl) (hOn : ∀ i ∈ c.O, i < c.n := by decide) : FnOk P w K mg base CX0 (k + 1) fa fd ps (spF K C c.io m ps.length (runF c fb)) := by
  refine Fn.ok Sc (fun vs H Q E ⟨F, ds, r, outs, s, hl, _⟩ => hl) fun cdv A outer s H vs Q E hr ⟨F, ds, r, outs, sb, hl, ar, e, kk⟩ => ?_
  refine ⟨_, PSs.nox (hbody cdv A outer s H E hr), ?_⟩
  obtain ⟨fl, e1, e2⟩ := Option.bind_eq_some_iff.mp e
  have hps : ps.length ≤ N.length := by have := congrArg List.length Sc.pre; rw [List.length_take] at this; omega
  have hdl : ds.length = ps.length := by rw [← ar.len]; exact hl
  have hst : ∀ (i : Nat) v, vs[i]? = some v → (L2.start N vs)[i]? = some (some v) := fun i v h => by
    unfold L2.start
    have lt : i < vs.length := (List.getElem?_eq_some_iff.mp h).1
    rw [List.getElem?_append_left (by simpa using lt), List.getElem?_map, h]
    rfl
  have el : (env0 c.n ds).length = c.n := by
    unfold env0
    rw [List.length_append, List.length_map, List.length_replicate]
    omega
  have xio : c.x.io = c.io := by rw [x_nil hci hcn]
  have S : SR K C c ⟨F, H, ioAs c.io vs, []⟩ F (env0 c.n ds) (L2.start N vs) H := by
    refine SRo.up ?_ hci hcn hOn
    refine ⟨sb, Same.refl _, fun b o h => .inl h, fun b o h _ => h, ?_, el, fun i d h hi => ?_, fun i d h hi => ?_, fun i j di dj a hi hj hij ei ej si sj => ?_, by simp [ioAs], fun a d h => (nomatch h), fun a d i e h => (nomatch h), List.nodup_nil, fun k i h => ?_⟩
    · rw [el, hn]
      unfold L2.start
      rw [List.length_append, List.length_map, List.length_replicate]
      omega
    · have hd := gt_env0.mp h
      have lt : i < vs.length := by rw [ar.len]; exact (List.getElem?_eq_some_iff.mp hd).1
      have hv : vs[i]? = some vs[i] := List.getElem?_eq_getElem lt
      exact ⟨_, hst i _ hv, ar.pur i _ d hv hd fun q => hi (hio i q).2⟩
    · have hd := gt_env0.mp h
      have lt : i < ps.length := by rw [← hdl]; exact (List.getElem?_eq_some_iff.mp hd).1
      have hi2 := hO i hi lt
      obtain ⟨a, d', h1, h2, h3, h4⟩ := ar.own i hi2
      rw [hd] at h2; cases h2
      obtain ⟨kq, hk⟩ := List.getElem?_of_mem hi2
      exact ⟨a, hst i _ h1, h3, h4, .inr ⟨hi2, List.mem_of_getElem? (ioAs_get hk h1)⟩⟩
    · have h1 := gt_env0.mp ei
      have h2 := gt_env0.mp ej
      have l1 : i < ps.length := by rw [← hdl]; exact (List.getElem?_eq_some_iff.mp h1).1
      have l2 : j < ps.length := by rw [← hdl]; exact (List.getElem?_eq_some_iff.mp h2).1
      obtain ⟨a1, _, q1, _⟩ := ar.own i (hO i hi l1)
      obtain ⟨a2, _, q2, _⟩ := ar.own j (hO j hj l2)
      have e1 := hst i _ q1
      have e2 := hst j _ q2
      rw [si] at e1; cases e1
      rw [sj] at e2; cases e2
      exact ar.dist i j a (hO i hi l1) (hO j hj l2) hij q1 q2
    · have hi := List.mem_of_getElem? h
      obtain ⟨a, d, h1, h2, h3, h4⟩ := ar.own i hi
      exact ⟨(hio i hi).2, a, d, ioAs_get h h1, hst i _ h1, gt_env0.mpr h2⟩
  have fin : ∀ v F' H' env', RetOk m K C c ⟨F, H, ioAs c.io vs, []⟩ F' env' H' v r → outsOf env' c.io = some outs → Q v H' := fun v F' H' env' R ho => by
    refine kk v F' H' ⟨R.f0, R.sub, R.new, fun b o h hb => R.keep b o h fun hm => ?_, fun k i a hk ha => ?_, ?_⟩
    · obtain ⟨i, hi, q⟩ := List.mem_map.mp hm
      obtain ⟨a, _, h1, _⟩ := ar.own i hi
      rw [h1] at q
      have q' : a = b := q
      subst q'
      exact hb i hi h1
    · obtain ⟨a', d, h1, h2, h3, h4⟩ := R.ios k i (by rw [xio]; exact hk)
      have h1' := ioAs_get hk ha
      have h1'' : (ioAs c.io vs)[k]? = some a' := h1
      rw [h1'] at h1''; cases h1''
      obtain ⟨d', q1, q2⟩ := outs_get ho k i hk
      rw [h2] at q2; cases q2
      exact ⟨d, q1, h3, h4⟩
    · have := R.val
      cases m with
      | false => exact this
      | true =>
        obtain ⟨a, h1, h2, h3, h4⟩ := this
        exact ⟨a, h1, h3, h2, h4⟩
  refine ⟨⟨F, H, ioAs c.io vs, []⟩, F, env0 c.n ds, fl, S, rfl, e1, ?_⟩
  cases fl with
  | nx env' =>
    obtain ⟨os, h1, h2⟩ := Option.bind_eq_some_iff.mp e2
    cases h2
    intro F' σ' H' s' S'
    cases m with
    | true => exact absurd e1 (hnx rfl _ _)
    | false => exact fin .non F' H' env' (S'.ret (m := false) .non) h1
  | rt d env' =>
    obtain ⟨os, h1, h2⟩ := Option.bind_eq_some_iff.mp e2
    cases h2
    intro v F' H' s' R
    exact fin v F' H' env' R h1
  | bk _ => cases e2
  | ct _ => cases e2
end
/-! ### calls -/
section
variable {X : Cx} {C : CA} {c : Cs} {e o : Expr} {es : List Expr} {fa : AF} {f : EF} {pos p apos : Pos} {x : Str} {k np : Nat} {fad : Addr} {fd : FuncData} {ps : List Str} {dv : List V} {ds0 : List Value} {ff : FF}
/-- f(..) of data; nothing handed in is changed; dd: the defaults -/
def fC0 (np : Nat) (ff : FF) (dd : List D) (fa : AF) : EF := fun env => (fa env).bind fun q => (vals q.1).bind fun ds => if (ds ++ dd).length = np then (ff (ds ++ dd)).bind fun r => some (.val r.1, q.2) else none
def oC0 (np : Nat) (ff : FF) (dd : List D) (fa : AF) : OF := fun env => (fa env).bind fun q => (vals q.1).bind fun ds => if (ds ++ dd).length = np then (ff (ds ++ dd)).bind fun r => some (r.1, q.2) else none
theorem args0 {K : PySem.W.Frag} {F H : Hp} {vs : List V} {ds : List D} (r : RpAll K C F vs ds) : ArgsR K C [] F H vs ds :=
  ⟨r.length, fun i v d h1 h2 _ => by
    obtain ⟨d', h3, h4⟩ := r.get h1
    rw [h2] at h3; cases h3
    exact h4, fun i h => (nomatch h), fun i j a h => (nomatch h)⟩
theorem Done.ext {m : Bool} {K : PySem.W.Frag} {F H F' H' : Hp} {vs : List V} {v : V} {r : D} {outs : List D} (d : Done m K C [] F H vs F' H' v r outs) : Ext F H F' H' := ⟨d.sub, d.inn, fun b o h => d.keep b o h fun i hi => (nomatch hi), d.new⟩
/-- the reading of a call without io -/
theorem call0_read {m : Bool} {F H : Hp} {vs : List V} {ds : List D} {dd : List D} {Q : VK} {r : D × List D} (s : Same F H) (rp : RpAll X.K C F vs ds) (hd : RpAll X.K C F dv dd) (hl : (vs ++ dv).length = np) (e : ff (ds ++ dd) = some r) (k : ∀ v F' H', Ext F H F' H' → (if m = true then ∃ a, v = .ref a ∧ H a = none ∧ F' a = none ∧ Own X.K C F' H' a r.1 else Rp X.K C F' v r.1) → Q v H') :
    spF X.K C [] m np ff (vs ++ dv) H Q E0 :=
  ⟨F, ds ++ dd, r.1, r.2, s, hl, args0 (rp.app hd), e, fun v F' H' dn => k v F' H' dn.ext dn.val⟩
theorem de_call0 {dd : List D} (Fk : FnOk X.prog X.w X.K X.mg X.base CX0 k fad fd ps (spF X.K C [] false np ff)) (hr : Room k X.A) (hm : X.mg x = some (.ref fad)) (hk : PySem.W.keepIn X.K (.ref fad) = true) (hb : Binds X.K fd ps ds0) (hd : Vals dv ds0) (hdd : ∀ F, RpAll X.K C F dv dd) (ha : DA X C c (e :: es) fa)
    (hg : Gl X x := by rfl) (hdb : (x == ("__debug__" : Str)) = false := by decide) (he : starEach (e :: es) X.env = (false, eval e X.env) :: starEach es X.env := by rfl) (hpl : (backTo pos (starEach es X.env)).any (·.1) = false := by rfl) :
    DE X C c (.Call (.Name x p) (e :: es) [] pos) (fC0 np ff dd fa) := by
  refine PE.imp (pe_call Fk hr hg hm hk hb hd pass0 ha hdb he hpl) fun σ H Q ⟨z, F, env, b, env', S, e, kk⟩ => ?_
  simp only [fC0, Option.bind_eq_some_iff] at e
  obtain ⟨⟨bs, e1⟩, h1, ds, h2, e⟩ := e
  split at e
  case isFalse => cases e
  next hnp =>
  obtain ⟨r, h3, e⟩ := Option.bind_eq_some_iff.mp e
  cases e
  refine ⟨z, F, env, bs, e1, S, h1, fun vs F1 H1 s1 S1 r1 => ?_⟩
  have rp := vals_rp r1 h2
  exact call0_read (m := false) S1.sub rp (hdd F1) (by rw [List.length_append, rp.length, (hdd F1).length, ← List.length_append]; exact hnp) h3 fun v F' H' ex rv => kk v F' H' (s1.trans ex.sub) (S1.ext ex) rv
theorem do_call0 {dd : List D} (Fk : FnOk X.prog X.w X.K X.mg X.base CX0 k fad fd ps (spF X.K C [] true np ff)) (hr : Room k X.A) (hm : X.mg x = some (.ref fad)) (hk : PySem.W.keepIn X.K (.ref fad) = true) (hb : Binds X.K fd ps ds0) (hd : Vals dv ds0) (hdd : ∀ F, RpAll X.K C F dv dd) (ha : DA X C c (e :: es) fa)
    (hg : Gl X x := by rfl) (hdb : (x == ("__debug__" : Str)) = false := by decide) (he : starEach (e :: es) X.env = (false, eval e X.env) :: starEach es X.env := by rfl) (hpl : (backTo pos (starEach es X.env)).any (·.1) = false := by rfl) :
    DO X C c (.Call (.Name x p) (e :: es) [] pos) (oC0 np ff dd fa) := by
  refine PE.imp (pe_call Fk hr hg hm hk hb hd pass0 ha hdb he hpl) fun σ H Q ⟨z, F, env, b, env', S, e, kk⟩ => ?_
  simp only [oC0, Option.bind_eq_some_iff] at e
  obtain ⟨⟨bs, e1⟩, h1, ds, h2, e⟩ := e
  split at e
  case isFalse => cases e
  next hnp =>
  obtain ⟨r, h3, e⟩ := Option.bind_eq_some_iff.mp e
  cases e
  refine ⟨z, F, env, bs, e1, S, h1, fun vs F1 H1 s1 S1 r1 => ?_⟩
  have rp := vals_rp r1 h2
  exact call0_read (m := true) S1.sub rp (hdd F1) (by rw [List.length_append, rp.length, (hdd F1).length, ← List.length_append]; exact hnp) h3 fun v F' H' ex rv => by
    obtain ⟨a, rfl, hn, fa', ow⟩ := rv
    have S2 := S1.ext ex
    refine kk a F' H' (s1.trans ex.sub) S2 fa' (S1.free0 hn) ow (fun j d hj ej hs => ?_) fun d hgd => ?_
    · obtain ⟨a', q1, _, q3, _⟩ := S1.b.own j d ej hj
      rw [hs] at q1; cases q1
      obtain ⟨o, ho⟩ := q3.some
      rw [hn] at ho; cases ho
    · obtain ⟨_, q3, _⟩ := S1.gho a d hgd
      obtain ⟨o, ho⟩ := q3.some
      rw [hn] at ho; cases ho
/-! ### calls that change one argument: a slot of the caller's -/
theorem SRo.called {K : PySem.W.Frag} {z : Zn} {F F' H H' : Hp} {env : Env} {σ : St} (S : SRo K C c z F env σ H) {i : Nat} {d d' : D} {a : Addr} (hi : i ∈ c.O) (hd : gt env i = some d) (ha : σ[i]? = some (some (.ref a))) (s : Same F F') (inn : Same F' H') (new : ∀ b o, F' b = some o → F b = some o ∨ H b = none) (keep : ∀ b o, H b = some o → b ≠ a → H' b = some o) (fa : F' a = none) (ow : Own K C F' H' a d') :
    SRo K C c z F' (st env i (some d')) σ H' := by
  obtain ⟨a1, h1, fa1, o1, z1⟩ := S.own i d hd hi
  rw [ha] at h1; cases h1
  have lt : i < env.length := gt_lt hd
  have free' : ∀ b u, F b = none → H b = some u → F' b = none := fun b u h1 h2 => by
    cases q : F' b with
    | none => rfl
    | some o' =>
      rcases new b o' q with r | r
      · rw [h1] at r; cases r
      · rw [r] at h2; cases h2
  refine ⟨inn, S.f0.trans s, fun b u h => ?_, fun b u h hb => ?_, by rw [st_length]; exact S.len, by rw [st_length]; exact S.num, fun j e h hj => ?_, fun j e h hj => ?_, fun j k dj dk b hj hk hjk ej ek sj sk => ?_, S.iol, fun b e h => ?_, fun b e j e2 h hj ej => ?_, S.ghn, fun k j hk => ?_⟩
  · rcases new b u h with q | q
    · exact S.new b u q
    · exact .inr (S.free0 q)
  · have hne : b ≠ a := by
      rintro rfl
      rcases z1 with q | ⟨_, q⟩
      · rw [h] at q; cases q
      · exact hb q
    exact keep b u (S.keep b u h hb) hne
  · have hij : i ≠ j := fun q => hj (q ▸ hi)
    rw [gt_st_ne hij] at h
    obtain ⟨v, q1, q2⟩ := S.pur j e h hj
    exact ⟨v, q1, q2.mono s⟩
  · by_cases hij : i = j
    · subst hij
      rw [gt_st lt] at h; cases h
      exact ⟨a, ha, fa, ow, z1⟩
    · rw [gt_st_ne hij] at h
      obtain ⟨b, h1, h2, h3, h4⟩ := S.own j e h hj
      have hne : b ≠ a := by
        rintro rfl
        exact S.dist i j d e b hi hj hij hd h ha h1
      obtain ⟨u, hu⟩ := h3.some
      exact ⟨b, h1, free' b u h2 hu, h3.mono s ((keep b u hu hne).trans hu.symm), h4⟩
  · have old : ∀ m e, gt (st env i (some d')) m = some e → ∃ e', gt env m = some e' := fun m e h => by
      by_cases him : i = m
      · subst him; exact ⟨d, hd⟩
      · rw [gt_st_ne him] at h; exact ⟨e, h⟩
    obtain ⟨e1, h1⟩ := old j dj ej
    obtain ⟨e2, h2⟩ := old k dk ek
    exact S.dist j k e1 e2 b hj hk hjk h1 h2 sj sk
  · obtain ⟨h1, h2, h3⟩ := S.gho b e h
    have hne : b ≠ a := fun q => S.ghd b e i d h hi hd (q ▸ ha)
    obtain ⟨u, hu⟩ := h2.some
    exact ⟨free' b u h1 hu, h2.mono s ((keep b u hu hne).trans hu.symm), h3⟩
  · by_cases hij : i = j
    · subst hij; exact S.ghd b e i d h hi hd
    · rw [gt_st_ne hij] at ej; exact S.ghd b e j e2 h hj ej
  · obtain ⟨h1, b, e, h2, h3, h4⟩ := S.ios k j hk
    refine ⟨h1, b, ?_⟩
    by_cases hij : i = j
    · subst hij; exact ⟨d', h2, h3, gt_st lt⟩
    · exact ⟨e, h2, h3, by rw [gt_st_ne hij]; exact h4⟩
theorem SR.calledX {K : PySem.W.Frag} {z : Zn} {F F' H H' : Hp} {env : Env} {σ : St} (S : SR K C c z F env σ H) {i : Nat} {d d' : D} {a : Addr} (hi : i ∈ c.x.O) (hd : gt env i = some d) (ha : (σ ++ cells C c)[i]? = some (some (.ref a))) (s : Same F F') (inn : Same F' H') (new : ∀ b o, F' b = some o → F b = some o ∨ H b = none) (keep : ∀ b o, H b = some o → b ≠ a → H' b = some o) (fa : F' a = none) (ow : Own K C F' H' a d') :
    SR K C c z F' (st env i (some d')) σ H' := ⟨S.b.called hi hd ha s inn new keep fa ow, S.ln, S.hO, S.hio⟩
theorem SR.called {K : PySem.W.Frag} {z : Zn} {F F' H H' : Hp} {env : Env} {σ : St} (S : SR K C c z F env σ H) {i : Nat} {d d' : D} {a : Addr} (hi : i ∈ c.O) (hd : gt env i = some d) (ha : σ[i]? = some (some (.ref a))) (s : Same F F') (inn : Same F' H') (new : ∀ b o, F' b = some o → F b = some o ∨ H b = none) (keep : ∀ b o, H b = some o → b ≠ a → H' b = some o) (fa : F' a = none) (ow : Own K C F' H' a d') :
    SR K C c z F' (st env i (some d')) σ H' := ⟨S.b.called (x_mem hi) hd (by rw [S.at (S.hO i hi)]; exact ha) s inn new keep fa ow, S.ln, S.hO, S.hio⟩
/-- the first argument is the slot's own object -/
def ioArgs (env : Env) : List B → Option (Nat × List D)
  | .slot j :: bs => (gt env j).bind fun d => (vals bs).bind fun ds => some (j, d :: ds)
  | _ => none
def fC1 (np : Nat) (ff : FF) (fa : AF) : EF := fun env => (fa env).bind fun q => (ioArgs q.2 q.1).bind fun a => if a.2.length = np then (ff a.2).bind fun r => (match r.2 with
  | [o] => some (.val r.1, st q.2 a.1 (some o))
  | _ => none) else none
def oC1 (np : Nat) (ff : FF) (fa : AF) : OF := fun env => (fa env).bind fun q => (ioArgs q.2 q.1).bind fun a => if a.2.length = np then (ff a.2).bind fun r => (match r.2 with
  | [o] => some (r.1, st q.2 a.1 (some o))
  | _ => none) else none
theorem call1_read {m : Bool} {z : Zn} {F H : Hp} {env : Env} {σ : St} {vs : List V} {bs : List B} {j : Nat} {ds : List D} {Q : VK} {r o : D} (S : SR X.K C c z F env σ H) (rb : RBs X.K C c F σ vs bs) (ea : ioArgs env bs = some (j, ds)) (hl : ds.length = np) (e : ff ds = some (r, [o])) (k : ∀ v F' H', Same F F' → SR X.K C c z F' (st env j (some o)) σ H' → (if m = true then ∃ a, v = .ref a ∧ H a = none ∧ F' a = none ∧ Own X.K C F' H' a r else Rp X.K C F' v r) → Q v H') :
    spF X.K C [0] m np ff (vs ++ []) H Q E0 := by
  cases rb with
  | nil => cases ea
  | @cons v vs b bs r1 r2 =>
    cases b with
    | val _ => cases ea
    | slot i =>
      simp only [ioArgs, Option.bind_eq_some_iff] at ea
      obtain ⟨d, h1, ds', h2, ea⟩ := ea
      cases ea
      obtain ⟨hO, hv⟩ := r1
      obtain ⟨a, ha, fa1, ow, za⟩ := S.b.own j d h1 hO
      rw [hv] at ha; cases ha
      have rp := vals_rp r2 h2
      rw [List.append_nil]
      refine ⟨F, d :: ds', r, [o], S.sub, by rw [List.length_cons, rp.length]; exact hl, ⟨by simp [rp.length], fun i v d h1 h2 hi => ?_, fun i hi => ?_, fun i j a hi hj hij => ?_⟩, e, fun v F' H' dn => ?_⟩
      · cases i with
        | zero => exact absurd (List.mem_cons_self ..) hi
        | succ i =>
          obtain ⟨d', q1, q2⟩ := rp.get (by simpa using h1)
          have h2' : ds'[i]? = some d := by simpa using h2
          rw [h2'] at q1; cases q1
          exact q2
      · have : i = 0 := by simpa using hi
        subst this
        exact ⟨a, d, rfl, rfl, fa1, ow⟩
      · have h1 : i = 0 := by simpa using hi
        have h2 : j = 0 := by simpa using hj
        exact absurd (h1.trans h2.symm) hij
      · obtain ⟨d', q1, q2, q3⟩ := dn.ios 0 0 a rfl rfl
        have q1' : o = d' := Option.some.inj q1
        subst q1'
        refine k v F' H' dn.sub (S.calledX hO h1 hv dn.sub dn.inn dn.new (fun b u hu hne => dn.keep b u hu fun i hi hb => ?_) q2 q3) dn.val
        have hi0 : i = 0 := by simpa using hi
        subst hi0
        have hb' : V.ref a = V.ref b := Option.some.inj hb
        cases hb'
        exact hne rfl
theorem de_call1 (Fk : FnOk X.prog X.w X.K X.mg X.base CX0 k fad fd ps (spF X.K C [0] false np ff)) (hr : Room k X.A) (hm : X.mg x = some (.ref fad)) (hk : PySem.W.keepIn X.K (.ref fad) = true) (hb : Binds X.K fd ps []) (ha : DA X C c (e :: es) fa)
    (hg : Gl X x := by rfl) (hdb : (x == ("__debug__" : Str)) = false := by decide) (he : starEach (e :: es) X.env = (false, eval e X.env) :: starEach es X.env := by rfl) (hpl : (backTo pos (starEach es X.env)).any (·.1) = false := by rfl) :
    DE X C c (.Call (.Name x p) (e :: es) [] pos) (fC1 np ff fa) := by
  refine PE.imp (pe_call Fk hr hg hm hk hb .nil pass0 ha hdb he hpl) fun σ H Q ⟨z, F, env, b, env', S, e, kk⟩ => ?_
  simp only [fC1, Option.bind_eq_some_iff] at e
  obtain ⟨⟨bs, e1⟩, h1, ⟨j, ds⟩, h2, e⟩ := e
  split at e
  case isFalse => cases e
  next hnp =>
  obtain ⟨⟨r, os⟩, h3, e⟩ := Option.bind_eq_some_iff.mp e
  dsimp only at e
  split at e
  case h_2 => cases e
  next _ o =>
  cases e
  exact ⟨z, F, env, bs, e1, S, h1, fun vs F1 H1 s1 S1 r1 => call1_read (m := false) S1 r1 h2 hnp h3 fun v F' H' s' S' rv => kk v F' H' (s1.trans s') S' rv⟩
theorem do_call1 (Fk : FnOk X.prog X.w X.K X.mg X.base CX0 k fad fd ps (spF X.K C [0] true np ff)) (hr : Room k X.A) (hm : X.mg x = some (.ref fad)) (hk : PySem.W.keepIn X.K (.ref fad) = true) (hb : Binds X.K fd ps []) (ha : DA X C c (e :: es) fa)
    (hg : Gl X x := by rfl) (hdb : (x == ("__debug__" : Str)) = false := by decide) (he : starEach (e :: es) X.env = (false, eval e X.env) :: starEach es X.env := by rfl) (hpl : (backTo pos (starEach es X.env)).any (·.1) = false := by rfl) :
    DO X C c (.Call (.Name x p) (e :: es) [] pos) (oC1 np ff fa) := by
  refine PE.imp (pe_call Fk hr hg hm hk hb .nil pass0 ha hdb he hpl) fun σ H Q ⟨z, F, env, b, env', S, e, kk⟩ => ?_
  simp only [oC1, Option.bind_eq_some_iff] at e
  obtain ⟨⟨bs, e1⟩, h1, ⟨j, ds⟩, h2, e⟩ := e
  split at e
  case isFalse => cases e
  next hnp =>
  obtain ⟨⟨r, os⟩, h3, e⟩ := Option.bind_eq_some_iff.mp e
  dsimp only at e
  split at e
  case h_2 => cases e
  next _ o =>
  cases e
  refine ⟨z, F, env, bs, e1, S, h1, fun vs F1 H1 s1 S1 r1 => call1_read (m := true) S1 r1 h2 hnp h3 fun v F' H' s' S' rv => ?_⟩
  obtain ⟨a, rfl, hn, fa', ow⟩ := rv
  refine kk a F' H' (s1.trans s') S' fa' (S1.free0 hn) ow (fun i d hi ei hs => ?_) fun d hgd => ?_
  · have old : ∃ d', gt e1 i = some d' := by
      by_cases hij : j = i
      · subst hij
        cases bs with
        | nil => cases h2
        | cons b bs => cases b with
          | val _ => cases h2
          | slot q =>
            simp only [ioArgs, Option.bind_eq_some_iff] at h2
            obtain ⟨d0, q1, _, _, q2⟩ := h2
            cases q2
            exact ⟨d0, q1⟩
      · rw [gt_st_ne hij] at ei; exact ⟨d, ei⟩
    obtain ⟨d', hd'⟩ := old
    obtain ⟨a', q1, _, q3, _⟩ := S1.b.own i d' hd' hi
    rw [hs] at q1; cases q1
    obtain ⟨u, hu⟩ := q3.some
    rw [hn] at hu; cases hu
  · obtain ⟨_, q3, _⟩ := S1.gho a d hgd
    obtain ⟨u, hu⟩ := q3.some
    rw [hn] at hu; cases hu
end
end DL

namespace DL
open PySem L2
section
variable {m : Bool} {X : Cx} {C : CA} {c : Cs} {e a b o : Expr} {es : List Expr} {fa : AF} {f g : EF} {pos p apos cpos : Pos} {x : Str} {k np : Nat} {fad : Addr} {fd : FuncData} {ps : List Str} {dv : List V} {ds0 : List Value} {ff : FF}
/-! ### o.f -/
def attrD (kk : Nat) (nm : Str) (x : D) : Option D := match x with
  | .obj k fs => if k = kk then fs.lookup nm else none
  | _ => none
def fAt (kk : Nat) (nm : Str) (f : EF) : EF := fun env => (f env).bind fun p => (rdB p.2 p.1).bind fun x => (attrD kk nm x).bind fun d => some (.val d, p.2)
theorem de_attr (kk : Nat) {nm : Str} (he : DE X C c e f) (cl : Cls X.K (C kk)) (na : NoAttr X.K (C kk) nm) (hb : attributeBase e nm X.env (eval e X.env) = eval e X.env := by rfl) : DE X C c (.Attribute e nm pos) (fAt kk nm f) := by
  refine PE.imp (pe_fld he hb) fun σ H Q ⟨z, F, env, b, env', S, e, k⟩ => ?_
  simp only [fAt, Option.bind_eq_some_iff] at e
  obtain ⟨⟨b1, e1⟩, h1, x, h2, d, h3, e⟩ := e
  cases e
  refine ⟨z, F, env, b1, e1, S, h1, fun v F1 H1 s1 S1 r1 => ?_⟩
  cases x <;> simp only [attrD] at h3 <;> try (cases h3; done)
  split at h3
  case isFalse => cases h3
  next hk =>
  subst hk
  obtain ⟨a, dx, vs, rfl, q1, q2⟩ := (r1.rb S1 h2).obj S1.sub
  obtain ⟨u, q3, q4⟩ := q2.look h3
  exact ⟨a, _, dx, vs, u, rfl, q1, cl, na, q3, k u F1 H1 s1 S1 q4⟩
/-! ### self.f = e in a slot's own object -/
def putFD (f : Str) (d : D) : List (Str × D) → List (Str × D)
  | [] => [(f, d)]
  | (g, d') :: r => if g = f then (g, d) :: r else (g, d') :: putFD f d r
theorem RpFs.put {K : PySem.W.Frag} {F : Hp} {f : Str} {v : V} {d : D} (r : Rp K C F v d) : ∀ {vs : List (Str × V)} {fs : List (Str × D)}, RpFs K C F vs fs → RpFs K C F (putF f v vs) (putFD f d fs)
  | _, _, .nil => .cons r .nil
  | _, _, @RpFs.cons _ _ _ g v' vs d' ds h1 h2 => by
    unfold putF putFD
    by_cases e : g = f
    · rw [if_pos e, if_pos e]; exact .cons r h2
    · rw [if_neg e, if_neg e]; exact .cons h1 (RpFs.put r h2)
def sFldD (i kk : Nat) (nm : Str) (fe : EF) : SF := fun env => (fe env).bind fun p => match p.1 with
  | .val d => (gt p.2 i).bind fun o => (match o with
    | .obj k fs => if k = kk ∧ fs.length < 1000 then some (.nx (st p.2 i (some (.obj k (putFD nm d fs))))) else none
    | _ => none)
  | .slot _ => none
theorem ds_fld (i kk : Nat) {nm : Str} {pos' p' : Pos} (cl : Cls X.K (C kk)) (na : NoAttr X.K (C kk) nm) (he : DE X C c e f) (hO : i ∈ c.O := by decide) (hN : X.N[i]? = some x := by rfl) (hv : Vis X.env.scope x := by first | exact Or.inl rfl | exact Or.inr (Or.inl rfl) | exact Or.inr (Or.inr rfl)) (hd : (x == ("__debug__" : Str)) = false := by decide) (hcd : (x == ("__classdict__" : Str)) = false := by decide)
    (hs : swapsWith e (some (.Attribute (.Name x p') nm pos')) pos.line X.env = pure false := by rfl) : DS m X C c (.Assign [.Attribute (.Name x p') nm pos'] e pos) (sFldD i kk nm f) := by
  refine PS.imp (ps_fld (pe_var hN hv hd hcd) he hs) fun Dn σ H ⟨z, F, env, fl, S, hg, q0, k⟩ => ?_
  obtain ⟨⟨b1, e1⟩, h1, q1⟩ := Option.bind_eq_some_iff.mp q0
  cases b1 with
  | slot _ => cases q1
  | val d =>
    obtain ⟨o, h2, q2⟩ := Option.bind_eq_some_iff.mp q1
    clear q0 q1
    refine ⟨z, F, env, _, e1, S, h1, fun v F1 H1 s1 S1 r1 => ?_⟩
    cases o <;> simp only at q2 <;> try (cases q2; done)
    split at q2
    case isFalse => cases q2
    next hk =>
    obtain ⟨hk, hl⟩ := hk
    subst hk
    cases q2
    obtain ⟨a, ha, fa', ow, za⟩ := S1.own i _ h2 hO
    obtain ⟨dx, vs, w1, w2⟩ := id ow
    exact ⟨_, ha, a, _, dx, vs, rfl, w1, cl, na, by rw [w2.length]; exact hl, k F1 σ _ s1 (S1.write hO h2 ha ⟨dx, _, upd_same, w2.put r1⟩)⟩
/-! ### C(..): a new instance -/
def oMk (kk np : Nat) (ff : FF) (dd : List D) (fa : AF) : OF := fun env => (fa env).bind fun q => (vals q.1).bind fun ds => if (D.obj kk [] :: (ds ++ dd)).length = np then (ff (.obj kk [] :: (ds ++ dd))).bind fun r => (match r.1 with
  | .non => (match r.2 with
    | [o] => some (o, q.2)
    | _ => none)
  | _ => none) else none
theorem make_read {kk : Nat} {F H : Hp} {z : Zn} {env : Env} {σ : St} {vs : List V} {ds dd : List D} {Q : VK} {o : D} (S : SR X.K C c z F env σ H) (rp : RpAll X.K C F vs ds) (hdd : RpAll X.K C F dv dd) (hnp : (D.obj kk [] :: (ds ++ dd)).length = np) (e : ff (.obj kk [] :: (ds ++ dd)) = some (.non, [o]))
    (k : ∀ a F' H', Same F F' → SR X.K C c z F' env σ H' → F' a = none → z.H0 a = none → Own X.K C F' H' a o → (Apt C c env σ a) → (∀ e, (a, e) ∉ z.gh) → Q (.ref a) H') :
    ∀ x dx, H x = none → H dx = none → dx ≠ x → spF X.K C [0] false np ff (.ref x :: (vs ++ dv)) (upd (upd H dx (.own x)) x (.ins (C kk) dx [])) (fun v H2 => v = .non ∧ Q (.ref x) H2) E0 := by
  intro x dx hx hdx hne
  have hx1 : (upd H dx (.own x)) x = none := by rw [upd_ne (Ne.symm hne)]; exact hx
  have sH : Same H (upd (upd H dx (.own x)) x (.ins (C kk) dx [])) := (same_upd hdx).trans (same_upd hx1)
  have S2 : SR X.K C c z F env σ (upd (upd H dx (.own x)) x (.ins (C kk) dx [])) := S.ext ⟨Same.refl _, S.sub.trans sH, sH, fun b o h => .inl h⟩
  have fx : F x = none := S.sub.free hx
  have ow : Own X.K C F (upd (upd H dx (.own x)) x (.ins (C kk) dx [])) x (.obj kk []) := ⟨dx, [], upd_same, .nil⟩
  refine ⟨F, .obj kk [] :: (ds ++ dd), .non, [o], S2.sub, by rw [List.length_cons, List.length_append, rp.length, hdd.length, ← List.length_append]; exact hnp, ⟨by simp [rp.length, hdd.length], fun i v d h1 h2 hi => ?_, fun i hi => ?_, fun i j a hi hj hij => ?_⟩, e, fun v F' H' dn => ?_⟩
  · cases i with
    | zero => exact absurd (List.mem_cons_self ..) hi
    | succ i =>
      obtain ⟨d', q1, q2⟩ := (rp.app hdd).get (by simpa using h1)
      have h2' : (ds ++ dd)[i]? = some d := by simpa using h2
      rw [h2'] at q1; cases q1
      exact q2
  · have : i = 0 := by simpa using hi
    subst this
    exact ⟨x, .obj kk [], rfl, rfl, fx, ow⟩
  · have h1 : i = 0 := by simpa using hi
    have h2 : j = 0 := by simpa using hj
    exact absurd (h1.trans h2.symm) hij
  · have hv : v = .non := by
      have q : Rp X.K C F' v .non := dn.val
      cases q; rfl
    refine ⟨hv, ?_⟩
    obtain ⟨d', q1, q2, q3⟩ := dn.ios 0 0 x rfl rfl
    have q1' : o = d' := Option.some.inj q1
    subst q1'
    have keep : ∀ b u, H b = some u → H' b = some u := fun b u hu => dn.keep b u (sH b u hu) fun i hi hb => by
      have hi0 : i = 0 := by simpa using hi
      subst hi0
      have hb' : V.ref x = V.ref b := Option.some.inj hb
      cases hb'
      rw [hx] at hu; cases hu
    have ex : Ext F H F' H' := ⟨dn.sub, dn.inn, keep, fun b u h => by
      rcases dn.new b u h with q | q
      · exact .inl q
      · exact .inr (sH.free q)⟩
    refine k x F' H' dn.sub (S.ext ex) q2 (S.free0 hx) q3 (fun j d hj ej hs => ?_) fun d hgd => ?_
    · obtain ⟨a', w1, _, w3, _⟩ := S.b.own j d ej hj
      rw [hs] at w1; cases w1
      obtain ⟨u, hu⟩ := w3.some
      rw [hx] at hu; cases hu
    · obtain ⟨_, w3, _⟩ := S.gho x d hgd
      obtain ⟨u, hu⟩ := w3.some
      rw [hx] at hu; cases hu
theorem do_make {dd : List D} (kk : Nat) (M : Mk X.K (C kk) fad) (Fk : FnOk X.prog X.w X.K X.mg X.base CX0 k fad fd ps (spF X.K C [0] false np ff)) (hr : Room (k + 1) X.A) (hm : X.mg x = some (.ref (C kk))) (hb : Binds X.K fd ps ds0) (hd : Vals dv ds0) (hdd : ∀ F, RpAll X.K C F dv dd) (ha : DA X C c (e :: es) fa)
    (hg : Gl X x := by rfl) (hdb : (x == ("__debug__" : Str)) = false := by decide) (he : starEach (e :: es) X.env = (false, eval e X.env) :: starEach es X.env := by rfl) (hpl : (backTo pos (starEach es X.env)).any (·.1) = false := by rfl) :
    DO X C c (.Call (.Name x p) (e :: es) [] pos) (oMk kk np ff dd fa) := by
  refine PE.imp (pe_make M Fk hr hg hm hb hd pass0 ha hdb he hpl) fun σ H Q ⟨z, F, env, b, env', S, e, kk⟩ => ?_
  simp only [oMk, Option.bind_eq_some_iff] at e
  obtain ⟨⟨bs, e1⟩, h1, ds, h2, e⟩ := e
  split at e
  case isFalse => cases e
  next hnp =>
  obtain ⟨⟨r, os⟩, h3, e⟩ := Option.bind_eq_some_iff.mp e
  dsimp only at e
  cases r <;> simp only at e <;> try (cases e; done)
  split at e
  case h_2 => cases e
  cases e
  exact ⟨z, F, env, bs, _, S, h1, fun vs F1 H1 s1 S1 r1 => make_read S1 (vals_rp r1 h2) (hdd F1) hnp h3 fun a F' H' s' S' => kk a F' H' (s1.trans s') S'⟩
/-! ### o.m(..) of an object that is data -/
def fMe (kk : Nat) (nm : Str) (np : Nat) (ff : FF) (dd : List D) (fo : EF) (fa : AF) : EF := fun env => (fo env).bind fun p => match p.1 with
  | .val (.obj k fs) => if k = kk ∧ fs.lookup nm = none then (fa p.2).bind fun q => (vals q.1).bind fun ds => if (D.obj k fs :: (ds ++ dd)).length = np then (ff (.obj k fs :: (ds ++ dd))).bind fun r => some (.val r.1, q.2) else none else none
  | _ => none
theorem meth_core {z : Zn} {F : Hp} {env env' : Env} {σ : St} {H : Hp} {Q : VK} {kk : Nat} {nm : Str} {dd : List D} {d : B} {fo : EF} (S : SR X.K C c z F env σ H) (hdd : ∀ F, RpAll X.K C F dv dd) (q0 : fMe kk nm np ff dd fo fa env = some (d, env')) (k : ∀ v F' H', Same F F' → SR X.K C c z F' env' σ H' → RB X.K C c F' σ v d → Q v H') :
    tMeth (C kk) nm (spF X.K C [] false np ff) dv E0 (tE X.K C c fo) (tAr X.K C c fa) σ H Q := by
  obtain ⟨⟨b, e1⟩, h1, q1⟩ := Option.bind_eq_some_iff.mp q0
  clear q0
  cases b with
  | slot _ => cases q1
  | val dx =>
    cases dx <;> simp only at q1 <;> try (cases q1; done)
    split at q1
    case isFalse => cases q1
    next hk =>
    obtain ⟨hk, hl⟩ := hk
    subst hk
    obtain ⟨⟨bs, e2⟩, h2, q2⟩ := Option.bind_eq_some_iff.mp q1
    obtain ⟨ds, h3, q3⟩ := Option.bind_eq_some_iff.mp q2
    clear q1 q2
    split at q3
    case isFalse => cases q3
    next hnp =>
    obtain ⟨r, h4, q4⟩ := Option.bind_eq_some_iff.mp q3
    cases q4
    refine ⟨z, F, env, _, e1, S, h1, fun v F1 H1 s1 S1 r1 => ?_⟩
    cases r1 with
    | obj w1 w2 =>
      refine ⟨_, _, _, rfl, S1.sub _ _ w1, w2.look_none hl, z, F1, e1, bs, e2, S1, h2, fun vs F2 H2 s2 S2 r2 => ?_⟩
      have rp : RpAll X.K C F2 (.ref _ :: vs) (.obj _ _ :: ds) := .cons (Rp.mono s2 (.obj w1 w2)) (vals_rp r2 h3)
      exact call0_read (m := false) S2.sub rp (hdd F2) (by rw [List.length_append, rp.length, (hdd F2).length, ← List.length_append]; exact hnp) h4 fun v F' H' ex rv => k v F' H' (s1.trans (s2.trans ex.sub)) (S2.ext ex) rv
theorem de_meth {dd : List D} (kk : Nat) {nm : Str} {pl : Sem Bool} (ho : DE X C c o f) (cl : Cls X.K (C kk)) (hmt : Meth X.K (C kk) nm fad) (Fk : FnOk X.prog X.w X.K X.mg X.base CX0 k fad fd ps (spF X.K C [] false np ff)) (hr : Room k X.A) (hb : Binds X.K fd ps ds0) (hd : Vals dv ds0) (hdd : ∀ F, RpAll X.K C F dv dd) (ha : DA X C c (e :: es) fa)
    (hst : starEach (e :: es) X.env = (false, eval e X.env) :: starEach es X.env := by rfl) (hpl : (backTo pos (starEach es X.env)).any (·.1) = false := by rfl)
    (ht : eval (.Call (.Attribute o nm apos) (e :: es) [] pos) X.env = (do
      let ov ← eval o X.env
      standAt apos.atName
      let (f, first) ← holding [ov] (getMethod ov nm pl)
      callWith pos f first (backTo pos (starEach (e :: es) X.env)) (backToKw pos (keywordEach [] X.env))) := by rfl) :
    DE X C c (.Call (.Attribute o nm apos) (e :: es) [] pos) (fMe kk nm np ff dd f fa) :=
  PE.imp (pe_meth ho cl hmt Fk hr hb hd pass0 ha hst hpl ht) fun σ H Q ⟨z, F, env, b, env', S, e, kk⟩ => meth_core S hdd e kk
/-! ### isinstance -/
def instB (T : String) : D → Option Bool
  | .non => some false
  | .bl _ => some (T == "bool" || T == "int")
  | .int _ => some (T == "int")
  | .str _ => some (T == "str")
  | .lst _ => some (T == "list")
  | .tup _ => some (T == "tuple")
  | .dic _ => some (T == "dict")
  | _ => none
def tyN : D → String
  | .non => "NoneType"
  | .bl _ => "bool"
  | .int _ => "int"
  | .str _ => "str"
  | .lst _ => "list"
  | .tup _ => "tuple"
  | .dic _ => "dict"
  | _ => "object"
def isTN (T : String) : Prop := T = "bool" ∨ T = "int" ∨ T = "str" ∨ T = "list" ∨ T = "tuple" ∨ T = "dict"
theorem inst_kit {K : PySem.W.Frag} {T : String} {d : D} {b : Bool} (h : instB T d = some b) (hT : isTN T) : PySem.W.kitOne K (.type (tyN d)) (.type T) = some b := by
  rcases hT with rfl | rfl | rfl | rfl | rfl | rfl <;> (cases d <;> cases h <;> dsimp only [tyN] <;> exact kit_ty (by decide +kernel))
theorem Rb.ty {K : PySem.W.Frag} {F H : Hp} {v : V} {d : D} {T : String} {b : Bool} (s : Same F H) (h : Rb K C F H v d) (e : instB T d = some b) : TyX K H v (.type (tyN d)) := by
  cases d <;> simp only [instB] at e <;> try (cases e; done)
  · rw [h.non]; exact .base .non
  · rw [h.bl]; exact .base (.bl _)
  · rw [h.int]; exact .base (.int _)
  · rw [h.str]; exact .base (.str _)
  · obtain ⟨a, vs, rfl, q, _⟩ := h.lst s; exact .base (.lst q)
  · obtain ⟨a, vs, rfl, q, _⟩ := h.tup s
    rcases q with (q | ⟨o, q⟩) | ⟨o, its, n, hk, hc, _⟩
    · exact .base (.tup q)
    · exact .fTuple q
    · exact .kTuple hk hc
  · obtain ⟨a, vs, rfl, q, _⟩ := h.dic s
    rcases q with q | ⟨o, q⟩
    · exact .base (.dK q)
    · exact .fDict q
/-- isinstance(x, T), T a built-in class by its name -/
def fIs (T : String) (f : EF) : EF := fun env => (f env).bind fun p => (rdB p.2 p.1).bind fun d => (instB T d).bind fun b => some (.val (.bl b), p.2)
theorem de_isinst {T : Str} {q1 : Pos} (TN : String) (hTN : isTN TN) (he : DE X C c e f) (hm : X.mg "isinstance" = none) (hT : X.mg T = none) (hv : bootBuiltins T = some (.type TN)) (hg : Gl X "isinstance" := by rfl) (hgT : Gl X T := by rfl) (hnT : T ≠ "__name__" := by decide) (hdT : (T == ("__debug__" : Str)) = false := by decide)
    (hs1 : starEach (e :: [.Name T q1]) X.env = (false, eval e X.env) :: starEach [.Name T q1] X.env := by rfl) (hs2 : starEach (.Name T q1 :: []) X.env = (false, eval (.Name T q1) X.env) :: starEach [] X.env := by rfl) (hpl : (backTo pos (starEach [.Name T q1] X.env)).any (·.1) = false := by rfl) :
    DE X C c (.Call (.Name "isinstance" p) [e, .Name T q1] [] pos) (fIs TN f) := by
  refine PE.imp (pe_callB call_isi hg hm (by decide +kernel) (pa_cons he (pa_cons (pe_bltn (v := .ty TN) hgT hT hv rfl hnT hdT) pa_nil hs2) hs1) (by decide) (by decide) hs1 hpl) fun σ H Q ⟨z, F, env, b, env', S, e, k⟩ => ?_
  simp only [fIs, Option.bind_eq_some_iff] at e
  obtain ⟨⟨b1, e1⟩, h1, d, h2, bb, h3, e⟩ := e
  cases e
  refine ⟨z, F, env, b1, e1, S, h1, fun v F1 H1 s1 S1 r1 => ?_⟩
  exact ⟨v, .ty TN, _, _, bb, rfl, .ty TN, (r1.rb S1 h2).ty S1.sub h3, inst_kit h3 hTN, k _ F1 H1 s1 S1 (.bl bb)⟩
/-- isinstance(x, (list, tuple)) -/
def fIsLT (f : EF) : EF := fun env => (f env).bind fun p => (rdB p.2 p.1).bind fun d => (instB "list" d).bind fun b1 => (instB "tuple" d).bind fun b2 => some (.val (.bl (b1 || b2)), p.2)
theorem de_isLT {q1 q2 q3 : Pos} {kt : Nat} (he : DE X C c e f) (hm : X.mg "isinstance" = none) (hL : X.mg "list" = none) (hTu : X.mg "tuple" = none) (hg : Gl X "isinstance" := by rfl) (hgL : Gl X "list" := by rfl) (hgT : Gl X "tuple" := by rfl)
    (hs1 : starEach (e :: [.Tuple [.Name "list" q1, .Name "tuple" q2] kt q3]) X.env = (false, eval e X.env) :: starEach [.Tuple [.Name "list" q1, .Name "tuple" q2] kt q3] X.env := by rfl)
    (hs2 : starEach (.Tuple [.Name "list" q1, .Name "tuple" q2] kt q3 :: []) X.env = (false, eval (.Tuple [.Name "list" q1, .Name "tuple" q2] kt q3) X.env) :: starEach [] X.env := by rfl) (hpl : (backTo pos (starEach [.Tuple [.Name "list" q1, .Name "tuple" q2] kt q3] X.env)).any (·.1) = false := by rfl)
    (hs3 : starEach (.Name "list" q1 :: [.Name "tuple" q2]) X.env = (false, eval (.Name "list" q1) X.env) :: starEach [.Name "tuple" q2] X.env := by rfl) (hs4 : starEach (.Name "tuple" q2 :: []) X.env = (false, eval (.Name "tuple" q2) X.env) :: starEach [] X.env := by rfl) :
    DE X C c (.Call (.Name "isinstance" p) [e, .Tuple [.Name "list" q1, .Name "tuple" q2] kt q3] [] pos) (fIsLT f) := by
  refine PE.imp (pe_callB call_isiT hg hm (by decide +kernel) (pa_cons he (pa_cons (pe_tup (pa_cons (pe_bltn (v := .ty "list") hgL hL (by decide +kernel) rfl) (pa_cons (pe_bltn (v := .ty "tuple") hgT hTu (by decide +kernel) rfl) pa_nil hs4) hs3)) pa_nil hs2) hs1) (by decide) (by decide) hs1 hpl) fun σ H Q ⟨z, F, env, b, env', S, e, k⟩ => ?_
  simp only [fIsLT, Option.bind_eq_some_iff] at e
  obtain ⟨⟨b1, e1⟩, h1, d, h2, bb, h3, b2, h4, e⟩ := e
  cases e
  refine ⟨z, F, env, b1, e1, S, h1, fun v F1 H1 s1 S1 r1 => ⟨by rw [sizeLine_eq]; show 2 ≤ 16777216; decide, fun t ht => ?_⟩⟩
  have ex : Ext F1 H1 F1 (upd H1 t (.tup [.ty "list", .ty "tuple"])) := ⟨Same.refl _, S1.sub.trans (same_upd ht), same_upd ht, fun b o h => .inl h⟩
  have S2 := S1.ext ex
  have rb := r1.rb S2 h2
  refine ⟨v, t, [.ty "list", .ty "tuple"], _, [.type "list", .type "tuple"], bb || b2, rfl, upd_same, .cons (.ty _) (.cons (.ty _) .nil), rb.ty S2.sub h3, ?_, k _ F1 _ s1 S2 (.bl _)⟩
  refine kitAny_cons (inst_kit h3 (by simp [isTN])) (fun hb => ?_) fun hb => by rw [hb]; rfl
  rw [hb]
  exact kitAny_cons (inst_kit h4 (by simp [isTN])) (fun hb2 => by rw [hb2]; exact kitAny_nil) fun hb2 => by rw [hb2]; rfl
end
end DL

namespace DL
open PySem L2
/-! ### lists of lists of ints in order -/
def leL (x y : List Int) : Bool := !HT.lexLt y x
theorem lexLt_irrefl : ∀ x : List Int, HT.lexLt x x = false
  | [] => rfl
  | a :: x => by rw [HT.lexLt_cons, if_pos rfl]; exact lexLt_irrefl x
theorem lexLt_total : ∀ {x y : List Int}, HT.lexLt x y = false → HT.lexLt y x = false → x = y
  | [], [], _, _ => rfl
  | [], _ :: _, h, _ => by cases h
  | _ :: _, [], _, h => by cases h
  | a :: x, b :: y, h1, h2 => by
    rw [HT.lexLt_cons] at h1 h2
    by_cases e : a = b
    · subst e
      rw [if_pos rfl] at h1 h2
      rw [lexLt_total h1 h2]
    · rw [if_neg e] at h1
      rw [if_neg (Ne.symm e)] at h2
      have := of_decide_eq_false h1
      have := of_decide_eq_false h2
      omega
theorem lexLt_negTrans : ∀ {x y z : List Int}, HT.lexLt y x = false → HT.lexLt z y = false → HT.lexLt z x = false
  | [], [], z, _, h => h
  | [], b :: y, [], _, _ => by rfl
  | [], b :: y, c :: z, _, _ => by rfl
  | a :: x, [], z, h, _ => by cases h
  | a :: x, b :: y, [], _, h => by cases h
  | a :: x, b :: y, c :: z, h1, h2 => by
    rw [HT.lexLt_cons] at h1 h2 ⊢
    by_cases e1 : b = a
    · subst e1
      rw [if_pos rfl] at h1
      by_cases e2 : c = b
      · subst e2
        rw [if_pos rfl] at h2 ⊢
        exact lexLt_negTrans h1 h2
      · rw [if_neg e2] at h2 ⊢
        exact h2
    · rw [if_neg e1] at h1
      have q1 := of_decide_eq_false h1
      by_cases e2 : c = b
      · subst e2
        rw [if_neg e1]
        exact decide_eq_false q1
      · rw [if_neg e2] at h2
        have q2 := of_decide_eq_false h2
        rw [if_neg (by omega)]
        exact decide_eq_false (by omega)
def insL (n : List Int) : List (List Int) → List (List Int)
  | [] => [n]
  | m :: ms => if leL n m = true then n :: m :: ms else m :: insL n ms
def sortL : List (List Int) → List (List Int)
  | [] => []
  | n :: ns => insL n (sortL ns)
theorem insL_perm (n : List Int) : ∀ ns : List (List Int), (insL n ns).Perm (n :: ns)
  | [] => .refl _
  | m :: ms => by
    unfold insL
    split
    · exact .refl _
    · exact ((insL_perm n ms).cons m).trans (.swap n m ms)
theorem sortL_perm : ∀ ns : List (List Int), (sortL ns).Perm ns
  | [] => .refl _
  | n :: ns => (insL_perm n (sortL ns)).trans ((sortL_perm ns).cons n)
theorem leL_trans {x y z : List Int} (h1 : leL x y = true) (h2 : leL y z = true) : leL x z = true := by
  unfold leL at *
  rw [Bool.not_eq_true'] at *
  exact lexLt_negTrans h1 h2
theorem leL_total {x y : List Int} (h : ¬ leL x y = true) : leL y x = true := by
  unfold leL at *
  rw [Bool.not_eq_true'] at *
  cases q : HT.lexLt x y with
  | false => rfl
  | true =>
    exfalso
    apply h
    cases q2 : HT.lexLt y x with
    | false => rfl
    | true =>
      have asym : ∀ (x y : List Int), HT.lexLt x y = true → HT.lexLt y x = true → False := by
        intro x
        induction x with
        | nil => intro y h1 h2; cases y <;> cases h2
        | cons a x ih =>
          intro y h1 h2
          cases y with
          | nil => cases h1
          | cons b y =>
            rw [HT.lexLt_cons] at h1 h2
            by_cases e : a = b
            · subst e
              rw [if_pos rfl] at h1 h2
              exact ih y h1 h2
            · rw [if_neg e] at h1
              rw [if_neg (Ne.symm e)] at h2
              have := of_decide_eq_true h1
              have := of_decide_eq_true h2
              omega
      exact (asym x y q q2).elim
theorem leL_anti {x y : List Int} (h1 : leL x y = true) (h2 : leL y x = true) : x = y := by
  unfold leL at *
  rw [Bool.not_eq_true'] at *
  exact lexLt_total h2 h1
theorem insL_sorted (n : List Int) : ∀ ns : List (List Int), ns.Pairwise (fun a b => leL a b = true) → (insL n ns).Pairwise (fun a b => leL a b = true)
  | [], _ => List.pairwise_singleton _ _
  | m :: ms, h => by
    unfold insL
    have h' := List.pairwise_cons.mp h
    split
    · next q =>
      refine List.pairwise_cons.mpr ⟨fun y hy => ?_, h⟩
      rcases List.mem_cons.mp hy with z | z
      · subst z; exact q
      · exact leL_trans q (h'.1 y z)
    · next q =>
      refine List.pairwise_cons.mpr ⟨fun y hy => ?_, insL_sorted n ms h'.2⟩
      have hy' := (insL_perm n ms).mem_iff.mp hy
      rcases List.mem_cons.mp hy' with z | z
      · subst z; exact leL_total q
      · exact h'.1 y z
theorem sortL_sorted : ∀ ns : List (List Int), (sortL ns).Pairwise (fun a b => leL a b = true)
  | [] => .nil
  | n :: ns => insL_sorted n _ (sortL_sorted ns)
theorem sortedL_unique : ∀ {xs ys : List (List Int)}, xs.Perm ys → xs.Pairwise (fun a b => leL a b = true) → ys.Pairwise (fun a b => leL a b = true) → xs = ys
  | [], ys, p, _, _ => (List.Perm.nil_eq p)
  | x :: xs, [], p, _, _ => by have := p.length_eq; simp at this
  | x :: xs, y :: ys, p, hx, hy => by
    have hx' := List.pairwise_cons.mp hx
    have hy' := List.pairwise_cons.mp hy
    have e : x = y := by
      have h1 : x ∈ y :: ys := p.mem_iff.mp (List.mem_cons_self ..)
      have h2 : y ∈ x :: xs := p.mem_iff.mpr (List.mem_cons_self ..)
      have rf : ∀ z : List Int, leL z z = true := fun z => by unfold leL; rw [lexLt_irrefl]; rfl
      have a1 : leL y x = true := by
        rcases List.mem_cons.mp h1 with q | q
        · rw [q]; exact rf _
        · exact hy'.1 x q
      have a2 : leL x y = true := by
        rcases List.mem_cons.mp h2 with q | q
        · rw [q]; exact rf _
        · exact hx'.1 y q
      exact leL_anti a2 a1
    subst e
    rw [sortedL_unique (List.perm_cons x |>.mp p) hx'.2 hy'.2]
/-! ### as data -/
open PySem.W PyProof.Rows in
theorem toks_lex : ∀ (ns ms : List Int), PyProof.Rows.lexLt itemOrd (keyToksAll (ns.map PyData.int)) (keyToksAll (ms.map PyData.int)) = HT.lexLt ns ms
  | [], [] => by first | rfl | simp [keyToksAll, HT.lexLt_nil_nil]; rfl
  | [], m :: ms => by
    rw [HT.lexLt_nil_cons, List.map_cons, toks_all_cons]
    show PyProof.Rows.lexLt itemOrd [.inl 0] (.inl 1 :: _) = true
    rw [lex_atom (by simp), lex_one]
    rfl
  | n :: ns, [] => by
    rw [HT.lexLt_cons_nil, List.map_cons, toks_all_cons]
    show PyProof.Rows.lexLt itemOrd (.inl 1 :: _) [.inl 0] = false
    rw [lex_atom (by simp), lex_one]
    rfl
  | n :: ns, m :: ms => by
    rw [HT.lexLt_cons, List.map_cons, List.map_cons]
    by_cases e : n = m
    · subst e
      rw [if_pos rfl, dataLt_all_yes (by rfl) (by simp [PyData.eqv])]
      exact toks_lex ns ms
    · rw [if_neg e, dataLt_all_no (by rfl) (by simp [PyData.eqv, e]), dataLt_int]
open PySem.W PyProof.Rows in
theorem dataLe_list (x y : List Int) : dataLe false (fun ns : List Int => PyData.list (ns.map PyData.int)) x y = leL x y := by
  show (!(PyProof.Rows.lexLt itemOrd (keyToks (PyData.list (y.map PyData.int))) (keyToks (PyData.list (x.map PyData.int))))) = !HT.lexLt y x
  have := toks_lex y x
  simp only [keyToks]
  rw [this]
open PySem.W PyProof.Rows in
theorem dataLe_tup (x y : List Int) : dataLe false (fun ns : List Int => PyData.tuple (ns.map PyData.int)) x y = leL x y := by
  show (!(PyProof.Rows.lexLt itemOrd (keyToks (PyData.tuple (y.map PyData.int))) (keyToks (PyData.tuple (x.map PyData.int))))) = !HT.lexLt y x
  have := toks_lex y x
  simp only [keyToks]
  rw [this]
open PySem.W PyProof.Rows in
theorem merge_sort {k : List Int → PyData} (hk : ∀ x y, dataLe false k x y = leL x y) (ls : List (List Int)) : ls.mergeSort (dataLe false k) = sortL ls := by
  have e : dataLe false k = leL := by funext x y; exact hk x y
  rw [e]
  refine sortedL_unique ((List.mergeSort_perm ls leL).trans (sortL_perm ls).symm) ?_ (sortL_sorted ls)
  exact List.pairwise_mergeSort (le := leL) (fun a b c h1 h2 => leL_trans h1 h2) (fun a b => by
    cases q : leL a b with
    | true => rfl
    | false => rw [Bool.false_or]; exact leL_total (by rw [q]; decide)) ls
/-! ### the rule -/
section
variable {X : Cx} {C : CA}
open PySem.W (EachIs AllAlike Sortable)
/-- sorted(xs) of data that are alike: k makes the data of the keys -/
def rSortG (K : PySem.W.Frag) (tupl : Bool) : List V → Hp → VK → Prop := fun vs H Q => ∃ (a : Addr) (xs : List V) (ls : List (List Int)), vs = [V.ref a] ∧ SqL K H a xs ∧ (tupl = true → (∀ l ∈ ls, l ≠ []) ∨ ls = [[]]) ∧ xs.length ≤ sizeLine ∧
  ∃ P : V → List Int → Prop, EachIs P xs ls ∧ (∀ y l, P y l → Dp K H y (if tupl then PyData.tuple (l.map PyData.int) else PyData.list (l.map PyData.int))) ∧ ∀ (ys : List V) (p : Addr), ys.Perm xs → EachIs P ys (sortL ls) → H p = none → Q (.ref p) (upd H p (.lst ys))
theorem alike_ints : ∀ (ns ms : List Int), PySem.W.alikeAll (ns.map PyData.int) (ms.map PyData.int) = true
  | [], _ => by simp [PySem.W.alikeAll]
  | _ :: _, [] => by simp [PySem.W.alikeAll]
  | n :: ns, m :: ms => by
    simp only [List.map_cons, PySem.W.alikeAll, PySem.W.alike, Bool.true_and]
    exact alike_ints ns ms
theorem depth_ints : ∀ (ns : List Int), PyData.depthAll (ns.map PyData.int) ≤ 1
  | [] => by simp [PyData.depthAll]
  | n :: ns => by
    have := depth_ints ns
    simp only [List.map_cons, PyData.depthAll, PyData.depth]
    omega
theorem each_reads {pins : List (Addr × Obj)} {σ : St} {H : Hp} {s : Shared} (I : Inv X pins σ H s) : ∀ {xs : List V} {its : List Value} {ds : List PyData}, DpAll X.K H xs ds → Vals xs its → EachIs (fun v d => ∃ as, Reads s.heap v d as) its ds
  | _, _, _, .nil, .nil => .nil
  | _, _, _, .cons h1 h2, .cons r1 r2 => .cons (Dp.reads I _ _ _ h1 r1) (each_reads I h2 r2)
theorem each_vals {P : V → List Int → Prop} : ∀ {xs : List V} {its : List Value} {ls : List (List Int)}, EachIs P xs ls → Vals xs its → EachIs (fun v l => ∃ y, RelV y v ∧ P y l) its ls
  | _, _, _, .nil, .nil => .nil
  | _, _, _, .cons h t, .cons r q => .cons ⟨_, r, h⟩ (each_vals t q)
theorem each_dp {K : PySem.W.Frag} {H : Hp} {P : V → List Int → Prop} {kf : List Int → PyData} (hp : ∀ y l, P y l → Dp K H y (kf l)) : ∀ {xs : List V} {ls : List (List Int)}, EachIs P xs ls → DpAll K H xs (ls.map kf)
  | _, _, .nil => .nil
  | _, _, .cons h t => .cons (hp _ _ h) (each_dp hp t)
theorem each_map {α β γ : Type} {R : α → γ → Prop} (f : β → γ) : ∀ {as : List α} {bs : List β}, EachIs R as (bs.map f) → EachIs (fun a b => R a (f b)) as bs
  | [], [], _ => .nil
  | [], _ :: _, h => by cases h
  | _ :: _, [], h => by cases h
  | _ :: _, _ :: _, h => by
    cases h with
    | cons h1 t => exact .cons h1 (each_map f t)
theorem each_pick {P : V → List Int → Prop} : ∀ {out : List Value} {ls : List (List Int)}, EachIs (fun v l => ∃ y, RelV y v ∧ P y l) out ls → ∃ ys : List V, Vals ys out ∧ EachIs P ys ls
  | _, _, .nil => ⟨[], .nil, .nil⟩
  | _, _, .cons ⟨y, h1, h2⟩ t => by
    obtain ⟨ys, q1, q2⟩ := each_pick t
    exact ⟨y :: ys, .cons h1 q1, .cons h2 q2⟩
theorem vals_perm {out its : List Value} (p : out.Perm its) : ∀ {ys xs : List V}, Vals ys out → Vals xs its → ys.Perm xs := by
  intro ys xs h1 h2
  have back : ∀ {xs : List V} {its : List Value}, Vals xs its → xs.map some = its.map absV := by
    intro xs its h
    induction h with
    | nil => rfl
    | cons r _ ih => simp only [List.map_cons, ih, r.abs]
  have e1 := back h1
  have e2 := back h2
  have q : (ys.map some).Perm (xs.map some) := by rw [e1, e2]; exact p.map absV
  have unmap : ∀ (l : List V), (l.map some).filterMap _root_.id = l := by
    intro l
    induction l with
    | nil => rfl
    | cons a l ih => simp
  have q2 := q.filterMap _root_.id
  rw [unmap, unmap] at q2
  exact q2
theorem sortVals_perm {κ : PyProof.Rows.KeyKind} (vs : List Value) : (PySem.W.sortVals κ false vs vs).Perm vs := by
  unfold PySem.W.sortVals
  have h := (List.mergeSort_perm (vs.zip vs) (PySem.W.sortLe κ.toKeyOrd false fun p : PyProof.Rows.Keyed => PySem.W.keyD κ p.1)).map Prod.snd
  have e : (vs.zip vs).map Prod.snd = vs := by rw [List.map_snd_zip]; exact Nat.le_refl _
  rw [e] at h
  exact h
/-- one empty tuple -/
theorem sortsAt_unit {prog : Program} {w : World} {A : Around} {s : Shared} {vs : List Value} (e : EachIs (fun v d => ∃ as, Reads s.heap v d as) vs [PyData.tuple []]) (hu : A.units < cLine) : PySem.W.SortsAt prog w A s (PySem.W.dataKind s.heap [PyData.tuple []]) vs := by
  have hal : AllAlike [PyData.tuple []] := fun d hd d' hd' => by
    simp at hd hd'
    subst hd hd'
    rfl
  have hl : vs.length = 1 := by
    cases e with
    | cons _ t => cases t; rfl
  refine ⟨fun v hv => ?_, ?_⟩
  · obtain ⟨d, hd, as, r⟩ := e.left v hv
    exact ⟨_, PySem.W.dataKind_some hal hd r⟩
  · refine ⟨PyProof.Rows.tuples' true, ?_, fun h2 => absurd h2 (by omega)⟩
    intro E x y a b Q ha hb hq
    obtain ⟨d, as, hd, ra, rfl⟩ := PySem.W.dataKind_inv ha
    obtain ⟨d', as', hd', rb, rfl⟩ := PySem.W.dataKind_inv hb
    simp at hd hd'
    subst hd hd'
    have hq' : Q (PySem.W.dataLt (.tuple []) (.tuple [])) s := hq
    rw [PySem.W.dataLt_tuple] at hq'
    cases ra with
    | @tuple l o xs n _ _ h1 h2 h3 h4 =>
      cases rb with
      | @tuple l' o' xs' n' _ _ k1 k2 k3 k4 =>
        have n1 : xs.size = ([] : List PyData).length := by simpa using SeqAt.ReadsAll.length _ _ _ h4
        have n2 : xs'.size = ([] : List PyData).length := by simpa using SeqAt.ReadsAll.length _ _ _ k4
        exact PySem.W.kat_lt h1 h3 k1 k3 (PySem.W.katLex_alike (A := A) [] [] 0 _ _ _ _ h4 k4 rfl (by simp [PyData.depthAll]; omega) (fun hb _ x r t ex => (nomatch ex)) (by rw [n1, n2]) hq')
theorem cr_sortG (tupl : Bool) (hu : X.A.units + 64 < cLine) : CallR X (.builtin "sorted") (rSortG X.K tupl) := by
  intro pins s σ H vs us Q I r h
  obtain ⟨a, xs, ls, rfl, hs, hne, hxl, P, hP, hPd, q⟩ := h
  obtain ⟨its, rv, hl, hz⟩ := I.list hs
  rw [Vals.ref1 r]
  generalize hkd : (fun ns : List Int => if tupl = true then PyData.tuple (ns.map PyData.int) else PyData.list (ns.map PyData.int)) = kf at *
  have hle : ∀ x y, PySem.W.dataLe false kf x y = leL x y := fun x y => by
    subst hkd
    cases tupl with
    | true => exact dataLe_tup x y
    | false => exact dataLe_list x y
  have hal : AllAlike (ls.map kf) := fun d hd d' hd' => by
    obtain ⟨n, _, rfl⟩ := List.mem_map.mp hd
    obtain ⟨m, _, rfl⟩ := List.mem_map.mp hd'
    subst hkd
    cases tupl with
    | true => exact alike_ints n m
    | false => exact alike_ints n m
  have hso : (tupl = true ∧ ls = [[]]) ∨ Sortable (ls.map kf) := by
    subst hkd
    cases tupl with
    | true =>
      rcases hne rfl with hne | hone
      · refine .inr (.inl fun d hd => ?_)
        obtain ⟨n, hn, rfl⟩ := List.mem_map.mp hd
        cases n with
        | nil => exact absurd rfl (hne _ hn)
        | cons i n => exact ⟨_, _, rfl⟩
      · exact .inl ⟨rfl, hone⟩
    | false =>
      refine .inr (.inr fun d hd => ?_)
      obtain ⟨n, hn, rfl⟩ := List.mem_map.mp hd
      exact ⟨fun z => (nomatch z), fun xs z => (nomatch z)⟩
  have hdep : ∀ d, d ∈ ls.map kf → d.depth ≤ 2 := fun d hd => by
    obtain ⟨n, hn, rfl⟩ := List.mem_map.mp hd
    have := depth_ints n
    subst hkd
    cases tupl <;> (simp only [PyData.depth, if_true, if_false, Bool.false_eq_true]; omega)
  have hdp : DpAll X.K H xs (ls.map kf) := each_dp (fun y l h => by subst hkd; exact hPd y l h) hP
  have er := each_reads I hdp rv
  have keep : ∀ b o, s.heap.get? b = some o → (PySem.W.sortingHeap (PySem.W.copyHeap s.heap its) (s.heap.objs.size + 1) its).get? b = some o := fun b o => PySem.W.sorting_copy_old
  have I' : Inv X pins σ H { s with heap := PySem.W.sortingHeap (PySem.W.copyHeap s.heap its) (s.heap.objs.size + 1) its } := I.kept (t' := s.toks) keep
  have er' := each_reads I' hdp rv
  refine PySem.W.sorted_vals (κ := PySem.W.dataKind (PySem.W.sortingHeap (PySem.W.copyHeap s.heap its) (s.heap.objs.size + 1) its) (ls.map kf)) hl.isList ?_ (by rw [← rv.length]; exact hz) ?_
  · rcases hso with ⟨ht, h1⟩ | hso
    · have ek : ls.map kf = [PyData.tuple []] := by
        subst hkd h1 ht
        rfl
      rw [ek] at er' ⊢
      exact sortsAt_unit (s := { s with heap := PySem.W.sortingHeap (PySem.W.copyHeap s.heap its) (s.heap.objs.size + 1) its }) er' (by show X.A.units + 1 + 1 < cLine; omega)
    · refine PySem.W.SortsAt.data (s := { s with heap := PySem.W.sortingHeap (PySem.W.copyHeap s.heap its) (s.heap.objs.size + 1) its }) er' hal hso fun d hd => ?_
      have := hdep d hd
      show X.A.units + 1 + 1 + d.depth < cLine
      omega
  · have ev := each_vals hP rv
    have ko : PySem.W.KeyedOut false (ls.map kf) its (PySem.W.sortVals (PySem.W.dataKind (PySem.W.sortingHeap (PySem.W.copyHeap s.heap its) (s.heap.objs.size + 1) its) (ls.map kf)) false its its) := ⟨_, its, hal, rfl, er'⟩
    have eo := PySem.W.keyedOut_each kf ko ev
    rw [merge_sort hle] at eo
    obtain ⟨ys, w1, w2⟩ := each_pick eo
    generalize hout : PySem.W.sortVals (PySem.W.dataKind (PySem.W.sortingHeap (PySem.W.copyHeap s.heap its) (s.heap.objs.size + 1) its) (ls.map kf)) false its its = out at *
    have pm : ys.Perm xs := vals_perm (by rw [← hout]; exact sortVals_perm its) w1 rv
    obtain ⟨ep, he'⟩ := PyProof.Rows.sortedAll_at s.heap its out.toArray
    have hlen : ys.length ≤ sizeLine := by rw [pm.length_eq]; exact hz
    refine ⟨.ref _, upd H (s.heap.objs.size + 1) (.lst ys), I.laid (t' := s.toks) (fun _ _ => PyProof.Rows.sortedAll_old) (Nat.le_succ _) ⟨hlen, out, ep, w1, he'⟩, rfl, q ys _ pm w2 (I.hok.fresh (Nat.le_succ _))⟩
/-- the rows of ints of a list of lists; of a list of tuples that are not empty -/
def rowsL : List D → Option (List (List Int))
  | [] => some []
  | .lst xs :: ds => (intsD xs).bind fun ns => (rowsL ds).bind fun ls => some (ns :: ls)
  | _ => none
def rowsT : List D → Option (List (List Int))
  | [] => some []
  | .tup xs :: ds => (intsNE xs).bind fun ns => (rowsT ds).bind fun ls => some (ns :: ls)
  | _ => none
theorem toPys_ints (ns : List Int) : toPys (ns.map D.int) = ns.map PyData.int := by
  induction ns with
  | nil => rfl
  | cons n ns ih => simp [toPys, toPy, ih]
theorem rowsL_eq : ∀ {ds : List D} {ls : List (List Int)}, rowsL ds = some ls → ds = ls.map fun ns => D.lst (ns.map D.int)
  | [], _, e => by cases e; rfl
  | d :: ds, _, e => by
    cases d <;> simp only [rowsL] at e <;> try (cases e; done)
    obtain ⟨ns, h1, e⟩ := Option.bind_eq_some_iff.mp e
    obtain ⟨ls, h2, e⟩ := Option.bind_eq_some_iff.mp e
    cases e
    rw [List.map_cons, ← rowsL_eq h2, ← intsD_eq h1]
theorem rowsT_eq : ∀ {ds : List D} {ls : List (List Int)}, rowsT ds = some ls → (ds = ls.map fun ns => D.tup (ns.map D.int)) ∧ ∀ l ∈ ls, l ≠ []
  | [], _, e => by cases e; exact ⟨rfl, fun _ h => (nomatch h)⟩
  | d :: ds, _, e => by
    cases d <;> simp only [rowsT] at e <;> try (cases e; done)
    obtain ⟨ns, h1, e⟩ := Option.bind_eq_some_iff.mp e
    obtain ⟨ls, h2, e⟩ := Option.bind_eq_some_iff.mp e
    cases e
    obtain ⟨q1, q2⟩ := intsNE_some h1
    obtain ⟨q3, q4⟩ := rowsT_eq h2
    refine ⟨by rw [List.map_cons, ← q3, ← intsD_eq q1], fun l hl => ?_⟩
    rcases List.mem_cons.mp hl with z | z
    · rw [z]; exact q2
    · exact q4 l z
theorem rowsL_map (ls : List (List Int)) : rowsL (ls.map fun ns => D.lst (ns.map D.int)) = some ls := by
  induction ls with
  | nil => rfl
  | cons l ls ih => simp [rowsL, intsD_map, ih]
theorem rowsT_map {ls : List (List Int)} (h : ∀ l ∈ ls, l ≠ []) : rowsT (ls.map fun ns => D.tup (ns.map D.int)) = some ls := by
  induction ls with
  | nil => rfl
  | cons l ls ih =>
    cases l with
    | nil => exact absurd rfl (h [] (List.mem_cons_self ..))
    | cons i l =>
      have := ih fun l hl => h l (List.mem_cons_of_mem _ hl)
      simp [rowsT, intsNE, intsD_map, this, intsD]
theorem RpAll.mem {K : PySem.W.Frag} {F : Hp} {vs : List V} {ds : List D} (h : RpAll K C F vs ds) {v : V} (hv : v ∈ vs) : ∃ d ∈ ds, Rp K C F v d := by
  obtain ⟨i, hi⟩ := List.getElem?_of_mem hv
  obtain ⟨d, h1, h2⟩ := h.get hi
  exact ⟨d, List.mem_of_getElem? h1, h2⟩
/-- one empty tuple, sorted -/
def unitT : List D → Option D
  | [.tup []] => some (.lst [.tup []])
  | _ => none
def sortedD : List D → Option D
  | [.lst ds] => ((intsD ds).bind fun ns => some (.lst ((sortI ns).map D.int))).or (((rowsL ds).bind fun ls => some (.lst ((sortL ls).map fun ns => D.lst (ns.map D.int)))).or (((rowsT ds).bind fun ls => some (.lst ((sortL ls).map fun ns => D.tup (ns.map D.int)))).or (unitT ds)))
  | _ => none
theorem each_rp {K : PySem.W.Frag} {F : Hp} {kd : List Int → D} : ∀ {xs : List V} {ls : List (List Int)}, RpAll K C F xs (ls.map kd) → EachIs (fun y l => Rp K C F y (kd l)) xs ls
  | [], [], _ => .nil
  | [], _ :: _, h => by cases h
  | _ :: _, [], h => by cases h
  | _ :: _, _ :: _, h => by
    cases h with
    | cons h1 h2 => exact .cons h1 (each_rp h2)
theorem rp_each {K : PySem.W.Frag} {F : Hp} {kd : List Int → D} : ∀ {xs : List V} {ls : List (List Int)}, EachIs (fun y l => Rp K C F y (kd l)) xs ls → RpAll K C F xs (ls.map kd)
  | _, _, .nil => .nil
  | _, _, .cons h t => .cons h (rp_each t)
theorem plains_ints (ns : List Int) : plains (ns.map D.int) = true := by
  induction ns with
  | nil => rfl
  | cons n ns ih => simp [plains, plain, ih]
theorem co_sortG {tupl : Bool} {F H : Hp} {ls : List (List Int)} {v : V} {Q : VK} (s : Same F H) (hne : tupl = true → (∀ l ∈ ls, l ≠ []) ∨ ls = [[]]) (r : Rb X.K C F H v (.lst (ls.map fun ns => if tupl then D.tup (ns.map D.int) else D.lst (ns.map D.int))))
    (k : ∀ p o, H p = none → Own X.K C F (upd H p o) p (.lst ((sortL ls).map fun ns => if tupl then D.tup (ns.map D.int) else D.lst (ns.map D.int))) → Q (.ref p) (upd H p o)) : rSortG X.K tupl [v] H Q := by
  obtain ⟨a, vs, rfl, q, ql, rp⟩ := r.lst s
  refine ⟨a, vs, ls, rfl, SqL.of q, hne, ql, fun y l => Rp X.K C F y (if tupl then D.tup (l.map D.int) else D.lst (l.map D.int)), each_rp rp, fun y l h => ?_, fun ys p hp he hn => ?_⟩
  · cases tupl with
    | true =>
      have := h.dp (d := .tup (l.map D.int)) s (plains_ints l)
      simp only [toPy, toPys_ints] at this
      exact this
    | false =>
      have := h.dp (d := .lst (l.map D.int)) s (plains_ints l)
      simp only [toPy, toPys_ints] at this
      exact this
  · exact k p _ hn ⟨ys, upd_same, by rw [hp.length_eq]; exact ql, rp_each he⟩
theorem co_sortedD (hu : X.A.units + 64 < cLine) : CallO X C (.builtin "sorted") sortedD := by
  refine ⟨_, cr_sortedI.or ((cr_sortG false hu).or (cr_sortG true hu)), fun F H vs ds d Q s r e k => ?_⟩
  unfold sortedD at e
  split at e
  case h_2 => cases e
  next ds =>
  cases r with
  | cons r1 r2 =>
    cases r2
    cases h1 : intsD ds with
    | some ns =>
      simp only [h1, Option.bind_some, Option.some_or] at e
      cases e
      obtain ⟨a, vs, rfl, q, ql, r⟩ := r1.lst s
      have ev := intsD_rp r h1
      subst ev
      refine .inl ⟨a, ns, rfl, SqL.of q, fun ns' p hp hs hn => ?_⟩
      have e2 : ns' = sortI ns := sorted_unique (hp.trans (sortI_perm ns).symm) hs (sortI_sorted ns)
      subst e2
      refine k p _ hn ⟨_, upd_same, ?_, rp_ints _⟩
      rw [List.length_map] at ql ⊢
      rw [(sortI_perm ns).length_eq]
      exact ql
    | none =>
      simp only [h1, Option.bind_none, Option.none_or] at e
      cases h2 : rowsL ds with
      | some ls =>
        simp only [h2, Option.bind_some, Option.some_or] at e
        cases e
        have eq := rowsL_eq h2
        subst eq
        exact .inr (.inl (co_sortG (tupl := false) s (fun z => (nomatch z)) r1 k))
      | none =>
        simp only [h2, Option.bind_none, Option.none_or] at e
        cases h3 : rowsT ds with
        | some ls =>
          simp only [h3, Option.bind_some, Option.some_or] at e
          cases e
          obtain ⟨eq, hne⟩ := rowsT_eq h3
          subst eq
          exact .inr (.inr (co_sortG (tupl := true) s (fun _ => .inl hne) r1 k))
        | none =>
          simp only [h3, Option.bind_none, Option.none_or] at e
          unfold unitT at e
          split at e
          · cases e
            exact .inr (.inr (co_sortG (tupl := true) (ls := [[]]) s (fun _ => .inr rfl) r1 k))
          · cases e
end
end DL

namespace DL
open PySem L2
/-! ### an own object that is only read from here on -/
section
variable {m : Bool} {X : Cx} {C : CA} {c : Cs} {ss : List Stmt} {f : SF}
def Cs.frz (c : Cs) (i : Nat) : Cs := ⟨c.n, c.O.filter fun j => decide (j ≠ i), c.io, c.ci, c.cn⟩
theorem mem_frz {c : Cs} {i j : Nat} : j ∈ (c.frz i).O ↔ j ∈ c.O ∧ j ≠ i := by simp [Cs.frz]
theorem SRo.frz {K : PySem.W.Frag} {z : Zn} {F : Hp} {env : Env} {σ : St} {H : Hp} (S : SRo K C c z F env σ H) {i : Nat} (hO : i ∈ c.O) (hio : i ∉ c.io) : SRo K C (c.frz i) z F env σ H ∨ ∃ a o, H a = some o ∧ ∀ o', Fz o o' → ∃ F', Same F F' ∧ SRo K C (c.frz i) z F' env σ (upd H a o') := by
  cases hd : gt env i with
  | none =>
    refine .inl ⟨S.sub, S.f0, S.new, S.keep, S.len, S.num, fun j e h hj => ?_, fun j e h hj => S.own j e h (mem_frz.mp hj).1, fun j k dj dk b hj hk => S.dist j k dj dk b (mem_frz.mp hj).1 (mem_frz.mp hk).1, S.iol, S.gho, fun b e j e2 h hj => S.ghd b e j e2 h (mem_frz.mp hj).1, S.ghn, fun k j hk => ?_⟩
    · by_cases q : j ∈ c.O
      · by_cases q2 : j = i
        · subst q2; rw [hd] at h; cases h
        · exact absurd (mem_frz.mpr ⟨q, q2⟩) hj
      · exact S.pur j e h q
    · obtain ⟨h1, h2⟩ := S.ios k j hk
      exact ⟨mem_frz.mpr ⟨h1, fun q => hio (q ▸ List.mem_of_getElem? hk)⟩, h2⟩
  | some d =>
    obtain ⟨a, hv, _, ho, _⟩ := S.own i d hd hO
    obtain ⟨o, hao⟩ := ho.some
    refine .inr ⟨a, o, hao, fun o' fz => ?_⟩
    obtain ⟨S', s', r⟩ := S.freeze hO hio hd hv hao fz
    have ne : ∀ {j e}, gt env j = some e → j ≠ i → gt (st env i none) j = some e := fun h q => by rw [gt_st_ne (Ne.symm q)]; exact h
    refine ⟨_, s', S'.sub, S'.f0, S'.new, S'.keep, S.len, S.num, fun j e h hj => ?_, fun j e h hj => ?_, fun j k dj dk b hj hk hjk ej ek => ?_, S'.iol, S'.gho, fun b e j e2 h hj ej => ?_, S'.ghn, fun k j hk => ?_⟩
    · by_cases q2 : j = i
      · subst q2; rw [hd] at h; cases h; exact ⟨_, hv, r⟩
      · exact S'.pur j e (ne h q2) fun q => hj (mem_frz.mpr ⟨q, q2⟩)
    · obtain ⟨h1, h2⟩ := mem_frz.mp hj
      exact S'.own j e (ne h h2) h1
    · obtain ⟨h1, h2⟩ := mem_frz.mp hj
      obtain ⟨h3, h4⟩ := mem_frz.mp hk
      exact S'.dist j k dj dk b h1 h3 hjk (ne ej h2) (ne ek h4)
    · obtain ⟨h1, h2⟩ := mem_frz.mp hj
      exact S'.ghd b e j e2 h h1 (ne ej h2)
    · obtain ⟨h1, b, e, h2, h3, h4⟩ := S.ios k j hk
      exact ⟨mem_frz.mpr ⟨h1, fun q => hio (q ▸ List.mem_of_getElem? hk)⟩, b, e, h2, h3, h4⟩
theorem SRo.unfrz {K : PySem.W.Frag} {z : Zn} {F : Hp} {env : Env} {σ : St} {H : Hp} {i : Nat} (S : SRo K C (c.frz i) z F env σ H) (hio : i ∉ c.io) : SRo K C c z F (st env i none) σ H := by
  have le : (st env i none).length = env.length := st_length ..
  refine ⟨S.sub, S.f0, S.new, S.keep, by rw [le]; exact S.len, by rw [le]; exact S.num, fun j e h hj => ?_, fun j e h hj => ?_, fun j k dj dk b hj hk hjk ej ek => ?_, S.iol, S.gho, fun b e j e2 h hj ej => ?_, S.ghn, fun k j hk => ?_⟩
  · obtain ⟨hij, h⟩ := gt_st_none h
    exact S.pur j e h fun q => hj (mem_frz.mp q).1
  · obtain ⟨hij, h⟩ := gt_st_none h
    exact S.own j e h (mem_frz.mpr ⟨hj, Ne.symm hij⟩)
  · obtain ⟨h1, ej⟩ := gt_st_none ej
    obtain ⟨h2, ek⟩ := gt_st_none ek
    exact S.dist j k dj dk b (mem_frz.mpr ⟨hj, Ne.symm h1⟩) (mem_frz.mpr ⟨hk, Ne.symm h2⟩) hjk ej ek
  · obtain ⟨h1, ej⟩ := gt_st_none ej
    exact S.ghd b e j e2 h (mem_frz.mpr ⟨hj, Ne.symm h1⟩) ej
  · obtain ⟨h1, b, e, h2, h3, h4⟩ := S.ios k j hk
    have hij : i ≠ j := fun q => hio (q ▸ List.mem_of_getElem? hk)
    exact ⟨(mem_frz.mp h1).1, b, e, h2, h3, by rw [gt_st_ne hij]; exact h4⟩
theorem frz_x {c : Cs} {i : Nat} (h : i < c.n) : (c.frz i).x = c.x.frz i := by
  have e : (c.O ++ c.ixs).filter (fun j => decide (j ≠ i)) = c.O.filter (fun j => decide (j ≠ i)) ++ c.ixs := by
    have f2 : c.ixs.filter (fun j => decide (j ≠ i)) = c.ixs := List.filter_eq_self.mpr fun j hj => decide_eq_true (show j ≠ i from fun q => by have := ixs_ge hj; omega)
    rw [List.filter_append, f2]
  show Cs.mk _ _ _ _ _ = Cs.mk _ _ _ _ _
  congr 1
  exact e.symm
theorem SR.frz {K : PySem.W.Frag} {z : Zn} {F : Hp} {env : Env} {σ : St} {H : Hp} (S : SR K C c z F env σ H) {i : Nat} (hO : i ∈ c.O) (hio : i ∉ c.io) : SR K C (c.frz i) z F env σ H ∨ ∃ a o, H a = some o ∧ ∀ o', Fz o o' → ∃ F', Same F F' ∧ SR K C (c.frz i) z F' env σ (upd H a o') := by
  have lt := S.hO i hO
  have up : ∀ {F' H'}, SRo K C (c.x.frz i) z F' env (σ ++ cells C c) H' → SR K C (c.frz i) z F' env σ H' := fun h => ⟨by rw [frz_x lt]; exact h, S.ln, fun j hj => S.hO j (mem_frz.mp hj).1, fun j hj => mem_frz.mpr ⟨S.hio j hj, fun q => hio (q ▸ hj)⟩⟩
  rcases S.b.frz (x_mem hO) (x_notio hio lt) with h | ⟨a, o, h1, h2⟩
  · exact .inl (up h)
  · exact .inr ⟨a, o, h1, fun o' fz => let ⟨F', s, h⟩ := h2 o' fz; ⟨F', s, up h⟩⟩
theorem SR.unfrz {K : PySem.W.Frag} {z z0 : Zn} {F F0 : Hp} {env env0 : Env} {σ σ0 : St} {H H0 : Hp} {i : Nat} (S0 : SR K C c z0 F0 env0 σ0 H0) (S : SR K C (c.frz i) z F env σ H) (hO : i ∈ c.O) (hio : i ∉ c.io) : SR K C c z F (st env i none) σ H := by
  have lt := S0.hO i hO
  have h := S.b
  rw [frz_x lt] at h
  exact ⟨h.unfrz (x_notio hio lt), S.ln, S0.hO, S0.hio⟩
def Fl.wipe (i : Nat) : Fl → Fl
  | .nx e => .nx (st e i none)
  | .bk e => .bk (st e i none)
  | .ct e => .ct (st e i none)
  | .rt d e => .rt d e
def sFrz (i : Nat) (f : SF) : SF := fun env => (f env).map (Fl.wipe i)
theorem PSs.fz {t : TS} (h : PSs X ss t) : PSs X ss (fun Dn σ H => t Dn σ H ∨ ∃ a u, H a = some u ∧ ∀ u', Fz u u' → t Dn σ (upd H a u')) :=
  ⟨fun pins s σ H Dn I q => by
    rcases q with q | ⟨a, u, hu, q⟩
    · exact h.run pins s σ H Dn I q
    · obtain ⟨u', fz, I2⟩ := Inv_fz I hu
      exact h.run pins s σ _ Dn I2 (q u' fz)⟩
theorem dss_frz (i : Nat) (h : DSs m X C (c.frz i) ss f) (hO : i ∈ c.O := by decide) (hio : i ∉ c.io := by decide) : DSs m X C c ss (sFrz i f) := by
  refine PSs.imp (PSs.fz h) fun Dn σ H ⟨z, F, env, fl, S, hg, e, k⟩ => ?_
  obtain ⟨fl1, e1, rfl⟩ := Option.map_eq_some_iff.mp e
  have key : ∀ F' H', Same F F' → SR X.K C (c.frz i) z F' env σ H' → tS m X.K C (c.frz i) f Dn σ H' := fun F' H' s' S' => by
    refine ⟨z, F', env, fl1, S', hg, e1, ?_⟩
    cases fl1 with
    | nx _ => exact fun F2 σ2 H2 s2 S2 => k F2 σ2 H2 (s'.trans s2) (S.unfrz S2 hO hio)
    | bk _ => exact fun F2 σ2 H2 s2 S2 => k F2 σ2 H2 (s'.trans s2) (S.unfrz S2 hO hio)
    | ct _ => exact fun F2 σ2 H2 s2 S2 => k F2 σ2 H2 (s'.trans s2) (S.unfrz S2 hO hio)
    | rt _ _ => exact fun v F2 H2 s2 R => k v F2 H2 (s'.trans s2) ⟨R.sub, R.f0, R.new, R.keep, R.ios, R.val⟩
  rcases S.frz hO hio with S' | ⟨a, o, hao, q⟩
  · exact .inl (key F H (Same.refl _) S')
  · refine .inr ⟨a, o, hao, fun o' fz => ?_⟩
    obtain ⟨F', s', S'⟩ := q o' fz
    exact key F' _ s' S'
/-! ### a body that always returns -/
def NoNx (f : SF) : Prop := ∀ env env', f env ≠ some (.nx env')
theorem nnx_Q {f g : SF} (h : NoNx g) : NoNx (sQ f g) := fun env env' e => by
  obtain ⟨fl, h1, e⟩ := Option.bind_eq_some_iff.mp e
  cases fl with
  | nx e1 => exact h _ _ e
  | rt _ _ => cases e
  | bk _ => cases e
  | ct _ => cases e
theorem nnx_RO {f : OF} : NoNx (sRO f) := fun env env' e => by
  obtain ⟨fl, h1, e⟩ := Option.bind_eq_some_iff.mp e
  cases e
end
section
variable {m : Bool} {X : Cx} {C : CA} {c : Cs} {e a b : Expr} {es : List Expr} {fa : AF} {f g : EF} {pos p : Pos} {x : Str}
/-! ### slices of lists and tuples, as data -/
def fSlc (f : EF) (l h : PF) : EF := fun env => (f env).bind fun p => (l p.2).bind fun q => (h q.2).bind fun r => (rdB r.2 p.1).bind fun d => match d with
  | .lst xs => some (.val (.lst (cutD xs q.1 r.1)), r.2)
  | .tup xs => some (.val (.tup (cutD xs q.1 r.1)), r.2)
  | _ => none
theorem cut_whole {xs : List D} {lo hi : Option Int} (h1 : HT.sIx xs.length 0 lo = 0) (h2 : HT.sIx xs.length xs.length hi = xs.length) : cutD xs lo hi = xs := by
  unfold cutD
  rw [h1, h2]
  simp
theorem SlR.or {r r' : V → Option Int → Option Int → Hp → VK → Prop} (h : SlR X r) (h' : SlR X r') : SlR X (fun x lo hi H Q => r x lo hi H Q ∨ r' x lo hi H Q) := by
  intro pins s σ H x v vl vu lo hi sl Q I rx hs pl pu q
  rcases q with q | q
  · exact h pins s σ H x v vl vu lo hi sl Q I rx hs pl pu q
  · exact h' pins s σ H x v vl vu lo hi sl Q I rx hs pl pu q
theorem de_slc {lo hi : Option Expr} {fl fh : PF} {p2 : Pos} (he : DE X C c e f) (hl : DPt X C c lo fl) (hh : DPt X C c hi fh) : DE X C c (.Subscript e (.Slice lo hi none p2) pos) (fSlc f fl fh) := by
  refine PE.imp (pe_slice (SlR.or sl_list sl_tupA) he hl hh) fun σ H Q ⟨z, F, env, b, env', S, e, k⟩ => ?_
  simp only [fSlc, Option.bind_eq_some_iff] at e
  obtain ⟨⟨b1, e1⟩, h1, ⟨i1, e2⟩, h2, ⟨i2, e3⟩, h3, d, h4, e⟩ := e
  refine ⟨z, F, env, b1, e1, S, h1, fun v F1 H1 s1 S1 r1 => ⟨z, F1, e1, i1, e2, S1, h2, fun F2 H2 s2 S2 => ⟨z, F2, e2, i2, e3, S2, h3, fun F3 H3 s3 S3 => ?_⟩⟩⟩
  have s13 := s1.trans (s2.trans s3)
  have rb := (r1.mono (s2.trans s3)).rb S3 h4
  cases d <;> simp only at e <;> try (cases e; done)
  · cases e
    obtain ⟨a, vs, rfl, q, ql, r⟩ := rb.lst S3.sub
    refine .inl ⟨a, vs, rfl, SqL.of q, fun p hp => ?_⟩
    have ex : Ext F3 H3 (upd F3 p (.lst (cutV vs i1 i2))) (upd H3 p (.lst (cutV vs i1 i2))) := Ext.laid S3.sub hp
    exact k _ _ _ (s13.trans ex.sub) (S3.ext ex) (.lst upd_same (Nat.le_trans (cutV_length vs i1 i2) ql) ((cut_rp r i1 i2).mono ex.sub))
  · cases e
    rename_i xs
    obtain ⟨a, vs, rfl, q, ql, r⟩ := rb.tup S3.sub
    refine .inr ⟨a, vs, rfl, q, fun ⟨w1, w2⟩ => ?_, fun _ p hp => ?_⟩
    · rw [r.length] at w1 w2
      refine k _ F3 H3 s13 S3 ?_
      rw [cut_whole w1 w2]
      rcases rb with w | ⟨a', w, ow⟩
      · exact w
      · exact ow.elim
    · have ex : Ext F3 H3 (upd F3 p (.tup (cutV vs i1 i2))) (upd H3 p (.tup (cutV vs i1 i2))) := Ext.laid S3.sub hp
      exact k _ _ _ (s13.trans ex.sub) (S3.ext ex) (.tup (SqT.of upd_same) (Nat.le_trans (cutV_length vs i1 i2) ql) ((cut_rp r i1 i2).mono ex.sub))
/-! ### *e -/
def aS (f : EF) (fa : AF) : AF := fun env => (f env).bind fun p => (rdB p.2 p.1).bind fun d => (itmsS d).bind fun xs => (fa p.2).bind fun q => some (xs.map B.val ++ q.1, q.2)
theorem RBs.app {K : PySem.W.Frag} {F : Hp} {σ : St} : ∀ {vs : List V} {bs : List B} {ws : List V} {cs : List B}, RBs K C c F σ vs bs → RBs K C c F σ ws cs → RBs K C c F σ (vs ++ ws) (bs ++ cs)
  | _, _, _, _, .nil, h => h
  | _, _, _, _, .cons h t, g => .cons h (t.app g)
theorem rbs_vals {K : PySem.W.Frag} {F : Hp} {σ : St} : ∀ {vs : List V} {ds : List D}, RpAll K C F vs ds → RBs K C c F σ vs (ds.map B.val)
  | _, _, .nil => .nil
  | _, _, .cons h t => .cons h (rbs_vals t)
theorem da_star {p2 : Pos} (h : DE X C c e f) (hr : DA X C c es fa) (hs : starEach (.Starred e p2 :: es) X.env = (true, eval e X.env) :: starEach es X.env := by rfl) : DA X C c (.Starred e p2 :: es) (aS f fa) := by
  refine PA.imp (StX.pa_star h hr hs) fun σ H Q ⟨z, F, env, b, env', S, e, k⟩ => ?_
  simp only [aS, Option.bind_eq_some_iff] at e
  obtain ⟨⟨b1, e1⟩, h1, d, h2, xs, h3, ⟨bs, e2⟩, h4, e⟩ := e
  cases e
  refine ⟨z, F, env, b1, e1, S, h1, fun v F1 H1 s1 S1 r1 => ?_⟩
  have rb := r1.rb S1 h2
  have fin : ∀ {vs : List V}, RpAll X.K C F1 vs xs → (tAr X.K C c fa) σ H1 fun ys H2 => Q (vs ++ ys) H2 := fun r => ⟨z, F1, e1, bs, _, S1, h4, fun ws F2 H2 s2 S2 r2 => k _ F2 H2 (s1.trans s2) S2 ((rbs_vals (r.mono s2)).app r2)⟩
  cases d <;> simp only [itmsS] at h3 <;> try (cases h3; done)
  · cases h3
    obtain ⟨a, vs, rfl, q, ql, r⟩ := rb.lst S1.sub
    exact ⟨a, vs, rfl, .inr (SqL.of q), fin r⟩
  · cases h3
    obtain ⟨a, vs, rfl, q, ql, r⟩ := rb.tup S1.sub
    exact ⟨a, vs, rfl, .inl q, fin r⟩
/-! ### xs * n -/
def repD (xs : List D) : Nat → List D
  | 0 => []
  | n + 1 => xs ++ repD xs n
theorem rep_rp {K : PySem.W.Frag} {F : Hp} {vs : List V} {ds : List D} (h : RpAll K C F vs ds) : ∀ n : Nat, RpAll K C F (List.replicate n vs).flatten (repD ds n)
  | 0 => .nil
  | n + 1 => by rw [List.replicate_succ, List.flatten_cons]; exact h.app (rep_rp h n)
theorem rep_len {α : Type} (xs : List α) : ∀ n : Nat, (List.replicate n xs).flatten.length = n * xs.length
  | 0 => by simp
  | n + 1 => by rw [List.replicate_succ, List.flatten_cons, List.length_append, rep_len xs n, Nat.succ_mul, Nat.add_comm]
def mulL (x y : D) : Option D := match x with
  | .lst xs => (match y with
    | .int k => if decide (-(2 ^ 63) ≤ k) && decide (k < 2 ^ 63) then gd (xs.length * k.toNat) (some (.lst (repD xs k.toNat))) else none
    | _ => none)
  | _ => none
theorem od_mulL : OpD X C (binaryOp .Mult) mulL := by
  refine ⟨_, op_rep, fun F H x y dx dy d Q s rx ry e k => ?_⟩
  cases dx <;> simp only [mulL] at e <;> try (cases e; done)
  cases dy <;> try (cases e; done)
  dsimp only at e
  split at e
  case isFalse => cases e
  next hb =>
  simp only [Bool.and_eq_true, decide_eq_true_eq] at hb
  obtain ⟨hl, e⟩ := gd_some e
  cases e
  obtain ⟨a, vs, rfl, h1, l1, r1⟩ := rx.lst s
  rename_i i
  have hl' : vs.length * i.toNat ≤ sizeLine := by rw [r1.length]; exact hl
  refine ⟨a, i, vs, rfl, ry.int, h1, hb.1, hb.2, hl', fun p hp => ?_⟩
  have ex := Ext.laid (o := .lst (List.replicate i.toNat vs).flatten) s hp
  exact k _ _ _ ex (.lst upd_same (by rw [rep_len, Nat.mul_comm]; exact hl') ((rep_rp r1 _).mono ex.sub))
/-! ### xs + ys of lists: a new list -/
def oCat (f g : EF) : OF := fun env => (f env).bind fun p => (g p.2).bind fun q => (rdB q.2 p.1).bind fun x => (rdB q.2 q.1).bind fun y => (addLL x y).bind fun d => some (d, q.2)
theorem do_cat (ha : DE X C c a f) (hb : DE X C c b g) : DO X C c (.BinOp a .Add b pos) (oCat f g) := by
  refine PE.imp (pe_op op_cat ha hb) fun σ H Q ⟨z, F, env, b, env', S, e, k⟩ => ?_
  simp only [oCat, Option.bind_eq_some_iff] at e
  obtain ⟨⟨b1, e1⟩, h1, ⟨b2, e2⟩, h2, x, hx, y, hy, d, hd, e⟩ := e
  cases e
  refine ⟨z, F, env, b1, e1, S, h1, fun v F1 H1 s1 S1 r1 => ⟨z, F1, e1, b2, _, S1, h2, fun w F2 H2 s2 S2 r2 => ?_⟩⟩
  have rx := (r1.mono s2).rb S2 hx
  have ry := r2.rb S2 hy
  cases x <;> simp only [addLL] at hd <;> try (cases hd; done)
  cases y <;> try (cases hd; done)
  obtain ⟨hl, hd⟩ := gd_some hd
  cases hd
  obtain ⟨a, vs, rfl, q1, l1, w1⟩ := rx.lst S2.sub
  obtain ⟨b, ws, rfl, q2, l2, w2⟩ := ry.lst S2.sub
  have hl' : vs.length + ws.length ≤ sizeLine := by rw [w1.length, w2.length]; exact hl
  refine ⟨a, b, vs, ws, rfl, rfl, q1, q2, hl', fun p hp => ?_⟩
  obtain ⟨S3, fp, zp, ap, ng⟩ := S2.newO (o := .lst (vs ++ ws)) hp
  exact k p F2 _ (s1.trans s2) S3 fp zp ⟨_, upd_same, by rw [List.length_append]; exact hl', w1.app w2⟩ ap ng
/-! ### {k: v} -/
def oDi1 (f g : EF) : OF := fun env => (f env).bind fun p => (g p.2).bind fun q => (rdB q.2 p.1).bind fun x => (keyD x).bind fun kk => match q.1 with
  | .val d => some (.dic [(kk, d)], q.2)
  | .slot _ => none
theorem do_dict1 (hu : X.A.units + 64 < cLine) (ha : DE X C c a f) (hb : DE X C c b g) : DO X C c (.Dict [some a] [b] pos) (oDi1 f g) := by
  refine PE.imp (pe_disp (pps_cons ha hb pps_nil) rfl rfl (by simp) (by simp)) fun σ H Q ⟨z, F, env, d, env', S, e, k⟩ => ?_
  simp only [oDi1, Option.bind_eq_some_iff] at e
  obtain ⟨⟨b1, e1⟩, h1, ⟨b2, e2⟩, h2, x, hx, kk, hk, e⟩ := e
  cases b2 with
  | slot _ => cases e
  | val dv =>
    cases e
    intro p hp
    obtain ⟨S0, fp, zp, ap, ng⟩ := S.newO (o := .dK []) hp
    have Sg := S0.ghost (d := .dic []) fp zp ⟨[], upd_same, .nil⟩ ap ng
    refine ⟨_, F, env, b1, e1, Sg, h1, fun v F1 H1 s1 S1 r1 => ⟨_, F1, e1, _, _, S1, h2, fun w F2 H2 s2 S2 r2 => ?_⟩⟩
    have rx := (r1.mono s2).rb S2 hx
    have rw_ : Rp X.K C F2 w dv := r2
    have hv := keyD_v rx hk
    obtain ⟨q1, q2, q3⟩ := S2.gho p (.dic []) (List.mem_cons_self ..)
    obtain ⟨kvs, q4, q5⟩ := q2
    cases q5
    refine ⟨q4, [(kk, w)], by rw [hv]; rfl, by simp, ?_⟩
    have S3 := S2.gwrite (d' := .dic [(kk, dv)]) (o := .dK (mergeK [] [(kk, w)])) ⟨_, upd_same, .cons rw_ .nil⟩
    obtain ⟨S4, fa, za, ow, ap2, ng2⟩ := S3.unghost
    exact k p F2 _ (s1.trans s2) S4 fa za ow ap2 ng2
end
end DL

namespace DL
open PySem L2
section
variable {m : Bool} {X : Cx} {C : CA} {c : Cs} {e a b : Expr} {es : List Expr} {fa : AF} {f g : EF} {pos p : Pos} {x : Str}
theorem wipe_cong (own : List Nat) (σ1 σ2 : St) (hl : σ1.length = σ2.length) (h : ∀ j, j ∉ own → σ1[j]? = σ2[j]?) : L2.wipe σ1 own = L2.wipe σ2 own := by
  refine List.ext_getElem? fun j => ?_
  by_cases q : j ∈ own
  · have z : ∀ σ : St, (L2.wipe σ own)[j]? = if j < σ.length then some none else none := by
      intro σ
      by_cases lt : j < σ.length
      · rw [if_pos lt]
        cases e : (L2.wipe σ own)[j]? with
        | none => rw [List.getElem?_eq_none_iff, wipe_length] at e; omega
        | some v =>
          cases v with
          | none => rfl
          | some v => exact absurd q (wipe_some e).2
      · rw [if_neg lt, List.getElem?_eq_none_iff, wipe_length]; omega
    rw [z, z, hl]
  · rw [wipe_out q, wipe_out q, h j q]
theorem wipe_sub {own own1 : List Nat} (σ : St) (h : ∀ j ∈ own1, j ∈ own) : L2.wipe (L2.wipe σ own1) own = L2.wipe σ own :=
  wipe_cong own _ _ (wipe_length σ own1) fun j hj => wipe_out fun q => hj (h j q)
/-! ### [e for x in a for y in b if t] -/
def lc2D (gg : GF) (fi1 : IF) (gg1 : GF) (tt : TF) (f : EF) (own own1 : List Nat) : List D → Env → List D → Option (List D × Env)
  | [], env, acc => some (acc, env)
  | d :: ds, env, acc => (gg d env).bind fun e1 => (fi1 e1).bind fun p => (lcD gg1 tt f own1 p.1 (wipeE p.2 own1) acc).bind fun r => lc2D gg fi1 gg1 tt f own own1 ds (wipeE r.2 own) r.1
theorem lcD_len {gg : GF} {tt : TF} {f : EF} {own : List Nat} : ∀ {ds : List D} {env : Env} {acc : List D} {r : List D × Env}, lcD gg tt f own ds env acc = some r → acc.length ≤ r.1.length
  | [], _, _, _, h => by cases h; exact Nat.le_refl _
  | d :: ds, env, acc, r, h => by
    simp only [lcD, Option.bind_eq_some_iff] at h
    obtain ⟨e1, h1, ⟨k, e2⟩, h2, h⟩ := h
    cases k with
    | false => exact lcD_len h
    | true =>
      rw [if_pos rfl] at h
      obtain ⟨⟨b, e3⟩, h3, h⟩ := Option.bind_eq_some_iff.mp h
      cases b with
      | slot _ => cases h
      | val y =>
        have := lcD_len h
        rw [List.length_append, List.length_singleton] at this
        omega
theorem lc2D_len {gg : GF} {fi1 : IF} {gg1 : GF} {tt : TF} {f : EF} {own own1 : List Nat} : ∀ {ds : List D} {env : Env} {acc : List D} {r : List D × Env}, lc2D gg fi1 gg1 tt f own own1 ds env acc = some r → acc.length ≤ r.1.length
  | [], _, _, _, h => by cases h; exact Nat.le_refl _
  | d :: ds, env, acc, r, h => by
    simp only [lc2D, Option.bind_eq_some_iff] at h
    obtain ⟨e1, h1, p, h2, q, h3, h⟩ := h
    exact Nat.le_trans (lcD_len h3) (lc2D_len h)
def oLc2 (i : IF) (gg : GF) (fi1 : IF) (gg1 : GF) (tt : TF) (f : EF) (own own1 : List Nat) : OF := fun env => (i env).bind fun p => (lc2D gg fi1 gg1 tt f own own1 p.1 (wipeE p.2 own) []).bind fun r => gd r.1.length (some (.lst r.1, backE p.2 own r.2))
theorem lc2_read {tt : TF} {gg gg1 : GF} {ts ts1 own own1 : List Nat} {f : EF} {fi fi1 : IF} {σ : St} {H : Hp} {Q : VK} {z : Zn} {F : Hp} {env env' : Env} {d : D} (ho : ∀ j ∈ own, j ∉ c.O ∧ j < c.n) (hts : ∀ t ∈ ts, t ∈ own) (hts1 : ∀ t ∈ ts1, t ∈ own1) (how : ∀ j ∈ own1, j ∈ own) (S : SR X.K C c z F env σ H) (e : oLc2 fi gg fi1 gg1 tt f own own1 env = some (d, env'))
    (k : ∀ a F' H', Same F F' → SR X.K C c z F' env' σ H' → F' a = none → z.H0 a = none → Own X.K C F' H' a d → (Apt C c env' σ a) → (∀ e, (a, e) ∉ z.gh) → Q (.ref a) H') :
    tLc2 (tI X.K C c fi) (tG X.K C c ts gg) (tT X.K C c tYesF) (tI X.K C c fi1) (tG X.K C c ts1 gg1) (tT X.K C c tt) (tE X.K C c f) own own1 σ H Q := by
  simp only [oLc2, Option.bind_eq_some_iff] at e
  obtain ⟨⟨ds, e1⟩, h1, ⟨res, e2⟩, h2, e⟩ := e
  obtain ⟨hres, e⟩ := gd_some e
  cases e
  have hres : res.length ≤ sizeLine := hres
  have ho1 : ∀ j ∈ own1, j ∉ c.O ∧ j < c.n := fun j hj => ho j (how j hj)
  refine ⟨z, F, env, ds, e1, S, h1, fun J F1 H1 s1 S1 W D hD => ?_⟩
  obtain ⟨S2, fD, zD, apD, ngD⟩ := S1.newO (o := .lst []) hD
  have S3 := (S2.ghost (d := .lst []) fD zD ⟨[], upd_same, Nat.zero_le _, .nil⟩ apD ngD).wipe ho
  refine ⟨fun i n H => n = ds.length - i ∧ i ≤ ds.length ∧ ∃ F4 env4 acc, Same F1 F4 ∧ SR X.K C c { z with gh := (D, .lst acc) :: z.gh } F4 env4 (L2.wipe σ own) H ∧ lc2D gg fi1 gg1 tt f own own1 (ds.drop i) env4 acc = some (res, e2), ⟨ds.length, by simp, Nat.zero_le _, F1, _, [], Same.refl _, S3, h2⟩, ?_⟩
  rintro i n H4 ⟨rfl, hi, F4, env4, acc, s4, S4, e4⟩
  by_cases hlt : i < ds.length
  · refine .inr ⟨W.go i F4 H4 s4 S4.sub hlt, fun H' => ∃ F5 env5 acc5, Same F1 F5 ∧ SR X.K C c { z with gh := (D, .lst acc5) :: z.gh } F5 env5 (L2.wipe σ own) H' ∧ lc2D gg fi1 gg1 tt f own own1 (ds.drop (i + 1)) env5 acc5 = some (res, e2), fun H' ⟨F5, env5, acc5, q1, q2, q4⟩ => ⟨ds.length - (i + 1), by omega, rfl, hlt, F5, env5, acc5, q1, q2, q4⟩, fun x H5 y => ?_⟩
    obtain ⟨F5, dx, ex, hd, r⟩ := W.yld i F4 H4 x H5 s4 S4.sub hlt y
    have ed : ds.drop i = dx :: ds.drop (i + 1) := by
      rw [List.drop_eq_getElem_cons hlt]
      obtain ⟨_, q⟩ := List.getElem?_eq_some_iff.mp hd
      rw [q]
    rw [ed] at e4
    simp only [lc2D, Option.bind_eq_some_iff] at e4
    obtain ⟨e5, h5, ⟨ds1, e6⟩, h6, ⟨acc7, e7⟩, h7, e8⟩ := e4
    refine ⟨_, F5, env4, dx, e5, S4.ext ex, r, h5, fun F6 σ6 H6 s6 S6 w6 => ?_⟩
    have w6' := (w6 own hts).trans (wipe_idem own σ)
    refine ⟨w6', _, F6, e5, true, e5, S6, rfl, fun F7 H7 s7 S7 => iteT ?_⟩
    refine ⟨_, F7, e5, ds1, e6, S7, h6, fun J1 F8 H8 s8 S8 W1 => ?_⟩
    have s18 : Same F1 F8 := s4.trans (ex.sub.trans (s6.trans (s7.trans s8)))
    have S9 := S8.wipe ho1
    refine ⟨fun j n H => n = ds1.length - j ∧ j ≤ ds1.length ∧ ∃ F9 env9 acc9, Same F8 F9 ∧ SR X.K C c { z with gh := (D, .lst acc9) :: z.gh } F9 env9 (L2.wipe σ6 own1) H ∧ lcD gg1 tt f own1 (ds1.drop j) env9 acc9 = some (acc7, e7), ⟨ds1.length, by simp, Nat.zero_le _, F8, _, acc, Same.refl _, S9, h7⟩, ?_⟩
    rintro j n H10 ⟨rfl, hj, F10, env10, acc10, s10, S10, e10⟩
    by_cases hlt1 : j < ds1.length
    · refine .inr ⟨W1.go j F10 H10 s10 S10.sub hlt1, fun H' => ∃ F5 env5 acc5, Same F8 F5 ∧ SR X.K C c { z with gh := (D, .lst acc5) :: z.gh } F5 env5 (L2.wipe σ6 own1) H' ∧ lcD gg1 tt f own1 (ds1.drop (j + 1)) env5 acc5 = some (acc7, e7), fun H' ⟨F5, env5, acc5, q1, q2, q4⟩ => ⟨ds1.length - (j + 1), by omega, rfl, hlt1, F5, env5, acc5, q1, q2, q4⟩, fun x1 H11 y1 => ?_⟩
      obtain ⟨F11, dx1, ex1, hd1, r1⟩ := W1.yld j F10 H10 x1 H11 s10 S10.sub hlt1 y1
      have ed1 : ds1.drop j = dx1 :: ds1.drop (j + 1) := by
        rw [List.drop_eq_getElem_cons hlt1]
        obtain ⟨_, q⟩ := List.getElem?_eq_some_iff.mp hd1
        rw [q]
      rw [ed1] at e10
      obtain ⟨e11, h11, e10⟩ := Option.bind_eq_some_iff.mp e10
      obtain ⟨⟨k12, e12⟩, h12, e10⟩ := Option.bind_eq_some_iff.mp e10
      refine ⟨_, F11, env10, dx1, e11, S10.ext ex1, r1, h11, fun F12 σ12 H12 s12 S12 w12 => ?_⟩
      have w12' := (w12 own1 hts1).trans (wipe_idem own1 σ6)
      refine ⟨w12', _, F12, e11, k12, e12, S12, h12, fun F13 H13 s13 S13 => ?_⟩
      have s813 : Same F8 F13 := s10.trans (ex1.sub.trans (s12.trans s13))
      cases k12 with
      | false =>
        refine iteF ⟨F13, wipeE e12 own1, acc10, s813, ?_, e10⟩
        have := S13.wipe ho1
        rw [w12'] at this
        exact this
      | true =>
        obtain ⟨⟨b14, e14⟩, h14, e10⟩ := Option.bind_eq_some_iff.mp e10
        refine iteT ⟨_, F13, e12, b14, e14, S13, h14, fun v F14 H14 s14 S14 r14 => ?_⟩
        cases b14 with
        | slot _ => cases e10
        | val yd =>
          obtain ⟨q1, q2, q3⟩ := S14.gho D (.lst acc10) (List.mem_cons_self ..)
          obtain ⟨vs, q4, q5, q6⟩ := q2
          have hlen : vs.length < sizeLine := by
            have a1 := lcD_len e10
            have a2 := lc2D_len e8
            rw [List.length_append, List.length_singleton] at a1
            dsimp only at a1 a2
            rw [q6.length]; omega
          refine ⟨vs, q4, hlen, F14, wipeE e14 own1, acc10 ++ [yd], s813.trans s14, ?_, e10⟩
          have S15 := (S14.gwrite (d' := .lst (acc10 ++ [yd])) (o := .lst (vs ++ [v])) ⟨_, upd_same, by rw [List.length_append]; exact hlen, q6.app (.one r14)⟩).wipe ho1
          rw [w12'] at S15
          exact S15
    · have q : j = ds1.length := by omega
      subst q
      rw [List.drop_length] at e10
      cases e10
      refine .inl ⟨W1.stop F10 H10 s10 S10.sub, F10, wipeE e7 own, acc7, s18.trans s10, ?_, e8⟩
      have := S10.wipe ho
      rw [wipe_sub σ6 how, w6'] at this
      exact this
  · have q : i = ds.length := by omega
    subst q
    rw [List.drop_length] at e4
    cases e4
    refine .inl ⟨W.stop F4 H4 s4 S4.sub, ?_⟩
    obtain ⟨S5, fa, za, ow, ap, ng⟩ := S4.unghost
    have S6 : SR X.K C c z F4 (backE e1 own e2) σ H4 := S1.back S5 s4 ho
    refine k D F4 H4 (s1.trans s4) S6 fa za ow (S1.aptB ho ap) ng
theorem do_lc2 {elt tg iter tg1 iter1 : Expr} {ifs1 : List Expr} {scope : Scope} {fi fi1 : IF} {gg gg1 : GF} {tt : TF} {ts ts1 : List Nat} (own : List (Str × Nat)) (own1 : List Nat) (hN : X.N.Nodup) (hi : DI X C c tg iter fi) (ok : BlkOk X.N X.env.scope scope own)
    (hg : ∀ (s : Shared) (H : Hp) (C' : Addr) (cl : List (Str × Addr)) (fp : List Addr), DG (X.blk s H scope (compEnvC scope cl C' X.env) fp) C c tg ts gg)
    (hi1 : ∀ (s : Shared) (H : Hp) (C' : Addr) (cl : List (Str × Addr)) (fp : List Addr), DI (X.blk s H scope (compEnvC scope cl C' X.env) fp) C c tg1 iter1 fi1)
    (hg1 : ∀ (s : Shared) (H : Hp) (C' : Addr) (cl : List (Str × Addr)) (fp : List Addr), DG (X.blk s H scope (compEnvC scope cl C' X.env) fp) C c tg1 ts1 gg1)
    (ht : ∀ (s : Shared) (H : Hp) (C' : Addr) (cl : List (Str × Addr)) (fp : List Addr), DTs (X.blk s H scope (compEnvC scope cl C' X.env) fp) C c ifs1 tt)
    (he : ∀ (s : Shared) (H : Hp) (C' : Addr) (cl : List (Str × Addr)) (fp : List Addr), DE (X.blk s H scope (compEnvC scope cl C' X.env) fp) C c elt f) (ho : ∀ j ∈ own.map (·.2), j ∉ c.O ∧ j < c.n := by decide) (hts : ∀ t ∈ ts, t ∈ own.map (·.2) := by decide) (hts1 : ∀ t ∈ ts1, t ∈ own1 := by decide) (how : ∀ j ∈ own1, j ∈ own.map (·.2) := by decide) (hc : X.calm = true := by rfl) (hs : ∀ x, foldedSetIterable iter X.env x = pure x := by intro _; rfl) (hs1 : ∀ env x, foldedSetIterable iter1 env x = pure x := by intro _ _; rfl) :
    DO X C c (.ListComp elt [⟨tg, iter, [], 0⟩, ⟨tg1, iter1, ifs1, 0⟩] scope pos) (oLc2 fi gg fi1 gg1 tt f (own.map (·.2)) own1) := by
  refine PE.imp (pe_lc2 (wi := tI X.K C c fi) (g := tG X.K C c ts gg) (tt := tT X.K C c tYesF) (wi1 := tI X.K C c fi1) (g1 := tG X.K C c ts1 gg1) (tt1 := tT X.K C c tt) (te := tE X.K C c f) (vs1 := own1) hc hN hi ok how (fun s H C' cl fp => hg s H C' cl fp) (fun s H C' cl fp => dts_nil) (fun s H C' cl fp => hi1 s H C' cl fp) (fun s H C' cl fp => hg1 s H C' cl fp) (fun s H C' cl fp => ht s H C' cl fp) (fun s H C' cl fp => he s H C' cl fp) hs hs1) fun σ H Q ⟨z, F, env, d, env', S, e, k⟩ => ?_
  exact lc2_read ho hts hts1 how S e k
theorem oLc2_lst {i i1 : IF} {gg gg1 : GF} {tt : TF} {f : EF} {own own1 : List Nat} {env e1 : Env} {d : D} (h : oLc2 i gg i1 gg1 tt f own own1 env = some (d, e1)) : ∃ ds, d = .lst ds := by
  simp only [oLc2, Option.bind_eq_some_iff] at h
  obtain ⟨_, _, _, _, e⟩ := h
  obtain ⟨_, e⟩ := gd_some e
  cases e
  exact ⟨_, rfl⟩
theorem ds_setLcP2 (i : Nat) {y : Str} {py spos : Pos} {elt tg iter tg1 iter1 : Expr} {ifs1 : List Expr} {scope : Scope} {fi fi1 : IF} {gg gg1 : GF} {tt : TF} {ts ts1 : List Nat} (own : List (Str × Nat)) (own1 : List Nat) (hN : X.N.Nodup) (hi : DI X C c tg iter fi) (ok : BlkOk X.N X.env.scope scope own)
    (hg : ∀ (s : Shared) (H : Hp) (C' : Addr) (cl : List (Str × Addr)) (fp : List Addr), DG (X.blk s H scope (compEnvC scope cl C' X.env) fp) C c tg ts gg)
    (hi1 : ∀ (s : Shared) (H : Hp) (C' : Addr) (cl : List (Str × Addr)) (fp : List Addr), DI (X.blk s H scope (compEnvC scope cl C' X.env) fp) C c tg1 iter1 fi1)
    (hg1 : ∀ (s : Shared) (H : Hp) (C' : Addr) (cl : List (Str × Addr)) (fp : List Addr), DG (X.blk s H scope (compEnvC scope cl C' X.env) fp) C c tg1 ts1 gg1)
    (ht : ∀ (s : Shared) (H : Hp) (C' : Addr) (cl : List (Str × Addr)) (fp : List Addr), DTs (X.blk s H scope (compEnvC scope cl C' X.env) fp) C c ifs1 tt)
    (he : ∀ (s : Shared) (H : Hp) (C' : Addr) (cl : List (Str × Addr)) (fp : List Addr), DE (X.blk s H scope (compEnvC scope cl C' X.env) fp) C c elt f) (hsw : swapsWith (.ListComp elt [⟨tg, iter, [], 0⟩, ⟨tg1, iter1, ifs1, 0⟩] scope pos) (some (.Name y py)) spos.line X.env = pure true) (ho : ∀ j ∈ own.map (·.2), j ∉ c.O ∧ j < c.n := by decide) (hts : ∀ t ∈ ts, t ∈ own.map (·.2) := by decide) (hts1 : ∀ t ∈ ts1, t ∈ own1 := by decide) (how : ∀ j ∈ own1, j ∈ own.map (·.2) := by decide)
    (hO : i ∉ c.O := by decide) (hn : i < c.n := by decide) (hy : X.N[i]? = some y := by rfl) (hyl : X.env.scope.names.lookup y = some .local := by rfl) (hc : X.calm = true := by rfl) (hs : ∀ x, foldedSetIterable iter X.env x = pure x := by intro _; rfl) (hs1 : ∀ env x, foldedSetIterable iter1 env x = pure x := by intro _ _; rfl) :
    DS m X C c (.Assign [.Name y py] (.ListComp elt [⟨tg, iter, [], 0⟩, ⟨tg1, iter1, ifs1, 0⟩] scope pos) spos) (sSet i (fO (oLc2 fi gg fi1 gg1 tt f (own.map (·.2)) own1))) := by
  refine PS.imp (ps_setLc2 (wi := tI X.K C c fi) (g := tG X.K C c ts gg) (tt := tT X.K C c tYesF) (wi1 := tI X.K C c fi1) (g1 := tG X.K C c ts1 gg1) (tt1 := tT X.K C c tt) (te := tE X.K C c f) (vs1 := own1) hc hN hy hyl hsw hi ok how (fun s H C' cl fp => hg s H C' cl fp) (fun s H C' cl fp => dts_nil) (fun s H C' cl fp => hi1 s H C' cl fp) (fun s H C' cl fp => hg1 s H C' cl fp) (fun s H C' cl fp => ht s H C' cl fp) (fun s H C' cl fp => he s H C' cl fp) hs hs1) fun Dn σ H ⟨z, F, env, fl, S, hgh, e, k⟩ => ?_
  simp only [sSet, fO, Option.bind_eq_some_iff] at e
  obtain ⟨r, ⟨⟨d, e1⟩, h1, e0⟩, e⟩ := e
  cases e0
  cases e
  exact lc2_read ho hts hts1 how S h1 fun a F1 H1 s1 S1 fa za ow ap ng => by
    obtain ⟨ds, rfl⟩ := oLc2_lst h1
    obtain ⟨o, S2, s2, r⟩ := S1.freezeL fa za ow ap ng
    exact k _ _ H1 (s1.trans s2) (S2.setP hO hn r)
/-! ### t < u, t > u of tuples of ints -/
def tupInts : D → Option (List Int)
  | .tup ds => intsD ds
  | _ => none
def gtTD (x y : D) : Option D := (tupInts x).bind fun a => (tupInts y).bind fun b => some (.bl (HT.lexLt b a))
def ltTD (x y : D) : Option D := (tupInts x).bind fun a => (tupInts y).bind fun b => some (.bl (HT.lexLt a b))
open PySem.W PyProof.Rows in
theorem dataLt_tup (x y : List Int) : dataLt (PyData.tuple (x.map PyData.int)) (PyData.tuple (y.map PyData.int)) = HT.lexLt x y := by
  show PyProof.Rows.lexLt itemOrd (keyToks (PyData.tuple (x.map PyData.int))) (keyToks (PyData.tuple (y.map PyData.int))) = HT.lexLt x y
  have := toks_lex x y
  simp only [keyToks]
  rw [this]
def rGtT (K : PySem.W.Frag) (sw : Bool) : R2 := fun x y H Q => ∃ a b : List Int, Dp K H x (.tuple (a.map PyData.int)) ∧ Dp K H y (.tuple (b.map PyData.int)) ∧ Q (.bl (if sw then HT.lexLt b a else HT.lexLt a b)) H
theorem alike_tup (a b : List Int) : PySem.W.alike (.tuple (a.map PyData.int)) (.tuple (b.map PyData.int)) = true := by
  simp only [PySem.W.alike]; exact alike_ints a b
theorem depth_tup (a : List Int) : (PyData.tuple (a.map PyData.int)).depth ≤ 2 := by
  have := depth_ints a
  simp only [PyData.depth]; omega
theorem op_gtT (hu : X.A.units + 64 < cLine) : OpR X (compareOp .Gt) (rGtT X.K true) := by
  intro pins s σ H x y v u Q I rx ry h
  obtain ⟨a, b, hd, he, q⟩ := h
  obtain ⟨as, r1⟩ := Dp.reads I _ x v hd rx
  obtain ⟨bs, r2⟩ := Dp.reads I _ y u he ry
  refine PySem.W.gt_data r1 r2 (alike_tup a b) (by simp) (by have := depth_tup a; have := depth_tup b; omega) ⟨.bl _, H, I, rfl, ?_⟩
  rw [dataLt_tup]; exact q
theorem op_ltT (hu : X.A.units + 64 < cLine) : OpR X (compareOp .Lt) (rGtT X.K false) := by
  intro pins s σ H x y v u Q I rx ry h
  obtain ⟨a, b, hd, he, q⟩ := h
  obtain ⟨as, r1⟩ := Dp.reads I _ x v hd rx
  obtain ⟨bs, r2⟩ := Dp.reads I _ y u he ry
  refine PySem.W.lt_data r1 r2 (alike_tup a b) (by simp) (by have := depth_tup a; have := depth_tup b; omega) ⟨.bl _, H, I, rfl, ?_⟩
  rw [dataLt_tup]; exact q
theorem tupInts_eq {d : D} {a : List Int} (h : tupInts d = some a) : d = .tup (a.map D.int) := by
  cases d <;> simp only [tupInts] at h <;> try (cases h; done)
  rw [intsD_eq h]
theorem od_gtT (hu : X.A.units + 64 < cLine) : OpD X C (compareOp .Gt) gtTD := by
  refine ⟨_, op_gtT hu, fun F H x y dx dy d Q s rx ry e k => ?_⟩
  obtain ⟨a, h1, e⟩ := Option.bind_eq_some_iff.mp e
  obtain ⟨b, h2, e⟩ := Option.bind_eq_some_iff.mp e
  cases e
  have e1 := tupInts_eq h1
  have e2 := tupInts_eq h2
  subst e1 e2
  have w : ∀ {v : V} {n : List Int}, Rb X.K C F H v (.tup (n.map D.int)) → Dp X.K H v (.tuple (n.map PyData.int)) := fun {v n} r => by
    have q := r.dp s (plains_ints n)
    rw [show toPy (.tup (n.map D.int)) = .tuple (toPys (n.map D.int)) from rfl, toPys_ints] at q
    exact q
  exact ⟨a, b, w rx, w ry, k _ F H (Ext.rfl' s) (.bl _)⟩
theorem od_ltT (hu : X.A.units + 64 < cLine) : OpD X C (compareOp .Lt) ltTD := by
  refine ⟨_, op_ltT hu, fun F H x y dx dy d Q s rx ry e k => ?_⟩
  obtain ⟨a, h1, e⟩ := Option.bind_eq_some_iff.mp e
  obtain ⟨b, h2, e⟩ := Option.bind_eq_some_iff.mp e
  cases e
  have e1 := tupInts_eq h1
  have e2 := tupInts_eq h2
  subst e1 e2
  have w : ∀ {v : V} {n : List Int}, Rb X.K C F H v (.tup (n.map D.int)) → Dp X.K H v (.tuple (n.map PyData.int)) := fun {v n} r => by
    have q := r.dp s (plains_ints n)
    rw [show toPy (.tup (n.map D.int)) = .tuple (toPys (n.map D.int)) from rfl, toPys_ints] at q
    exact q
  exact ⟨a, b, w rx, w ry, k _ F H (Ext.rfl' s) (.bl _)⟩
end
end DL
namespace DL
open PySem L2
/-- the law's promise at a script -/
theorem law_sp {K : PySem.W.Frag} {C : CA} {ff : FF} {a : Addr} {ns : List Int} {H : Hp} {E : XK} (hS : SqL K H a (ns.map V.int)) (e : ff [.scr ns] = some (.bl true, [])) : spF K C [] false 1 ff [.ref a] H (fun v _ => v = .bl true) E :=
  ⟨H, [.scr ns], .bl true, [], Same.refl _, rfl, args0 (.cons (.scr hS) .nil), e, fun v F' H' dn => by
    have r : Rp K C F' v (.bl true) := dn.val
    cases r
    rfl⟩
end DL

namespace DL
open PySem L2
section
variable {m : Bool} {X : Cx} {C : CA} {c : Cs} {e a b : Expr} {es : List Expr} {fa : AF} {f g : EF} {pos p pos2 p2 : Pos} {x : Str}
/-! ### list(range(..)), tuple(range(..)) -/
abbrev RF := Env → Option (Int × Int × Env)
def rg1 (f : EF) : RF := fun env => (f env).bind fun p => (rdB p.2 p.1).bind fun d => match d with
  | .int n => some (0, n, p.2)
  | _ => none
def rg2 (f g : EF) : RF := fun env => (f env).bind fun p => (g p.2).bind fun q => (rdB q.2 p.1).bind fun x => (rdB q.2 q.1).bind fun y => match x with
  | .int i => (match y with
    | .int j => some (i, j, q.2)
    | _ => none)
  | _ => none
def rgB (i j : Int) : Bool := decide (-(2 ^ 62) ≤ i) && decide (i < 2 ^ 62) && decide (-(2 ^ 62) ≤ j) && decide (j < 2 ^ 62) && decide ((j - i).toNat ≤ 16777216)
theorem rgB_ok {i j : Int} (h : rgB i j = true) : RgOk i j := by
  simp only [rgB, Bool.and_eq_true, decide_eq_true_eq] at h
  exact ⟨h.1.1.1.1, h.1.1.1.2, h.1.1.2, h.1.2, by omega⟩
def tRgD (K : PySem.W.Frag) (C : CA) (c : Cs) (f : RF) : St → Hp → (Int → Int → Hp → Prop) → Prop := fun σ H Q => ∃ z F env i j env', SR K C c z F env σ H ∧ f env = some (i, j, env') ∧ ∀ F' H', Same F F' → SR K C c z F' env' σ H' → Q i j H'
def DR (X : Cx) (C : CA) (c : Cs) (e : Expr) (f : RF) : Prop := PRg X e (tRgD X.K C c f)
theorem PRg.imp {e : Expr} {t t' : St → Hp → (Int → Int → Hp → Prop) → Prop} (h : PRg X e t) (i : ∀ σ H Q, t' σ H Q → t σ H Q) : PRg X e t' := fun pins s σ H Q I q => h pins s σ H Q I (i σ H Q q)
theorem dr_1 (hm : X.mg "range" = none) (h : DE X C c a f) (hg : Gl X "range" := by rfl) (na : starEach [a] X.env = (false, eval a X.env) :: starEach [] X.env := by rfl) : DR X C c (.Call (.Name "range" p) [a] [] pos) (rg1 f) := by
  refine PRg.imp (prg_1 hg hm h na) fun σ H Q ⟨z, F, env, i, j, env', S, e, k⟩ => ?_
  simp only [rg1, Option.bind_eq_some_iff] at e
  obtain ⟨⟨b1, e1⟩, h1, d, h2, e⟩ := e
  cases d <;> simp only at e <;> try (cases e; done)
  cases e
  exact ⟨z, F, env, b1, _, S, h1, fun v F1 H1 s1 S1 r1 => ⟨_, (r1.rb S1 h2).int, k F1 H1 s1 S1⟩⟩
theorem dr_2 (hm : X.mg "range" = none) (h : DE X C c a f) (h' : DE X C c b g) (hg : Gl X "range" := by rfl) (na : starEach [a, b] X.env = (false, eval a X.env) :: starEach [b] X.env := by rfl) (nb : starEach [b] X.env = (false, eval b X.env) :: starEach [] X.env := by rfl) (hp : (backTo pos (starEach [b] X.env)).any (·.1) = false := by rfl) : DR X C c (.Call (.Name "range" p) [a, b] [] pos) (rg2 f g) := by
  refine PRg.imp (prg_2 hg hm h h' na nb hp) fun σ H Q ⟨z, F, env, i, j, env', S, e, k⟩ => ?_
  simp only [rg2, Option.bind_eq_some_iff] at e
  obtain ⟨⟨b1, e1⟩, h1, ⟨b2, e2⟩, h2, x, hx, y, hy, e⟩ := e
  cases x <;> simp only at e <;> try (cases e; done)
  cases y <;> simp only at e <;> try (cases e; done)
  cases e
  exact ⟨z, F, env, b1, e1, S, h1, fun v F1 H1 s1 S1 r1 => ⟨z, F1, e1, b2, _, S1, h2, fun w F2 H2 s2 S2 r2 => ⟨_, _, ((r1.mono s2).rb S2 hx).int, (r2.rb S2 hy).int, k F2 H2 (s1.trans s2) S2⟩⟩⟩
theorem rg_rp {K : PySem.W.Frag} {F : Hp} (i j : Int) : RpAll K C F (rgV i j) (rngD i (j - i).toNat) := by
  unfold rgV rngD
  generalize List.range (j - i).toNat = l
  induction l with
  | nil => exact .nil
  | cons n l ih => exact .cons (.int _) ih
def oRgL (f : RF) : OF := fun env => (f env).bind fun r => if rgB r.1 r.2.1 then some (.lst (rngD r.1 (r.2.1 - r.1).toNat), r.2.2) else none
theorem do_listRg {r : RF} (hm : X.mg "list" = none) (he : DR X C c e r) (hg : Gl X "list" := by rfl) (na : starEach [e] X.env = (false, eval e X.env) :: starEach [] X.env := by rfl) (hc : X.calm = true := by rfl) : DO X C c (.Call (.Name "list" p) [e] [] pos) (oRgL r) := by
  refine PE.imp (pe_listRg hc hg hm he na) fun σ H Q ⟨z, F, env, d, env', S, e, k⟩ => ?_
  simp only [oRgL, Option.bind_eq_some_iff] at e
  obtain ⟨⟨i, j, e1⟩, h1, e⟩ := e
  split at e
  case isFalse => cases e
  next hb =>
  cases e
  refine ⟨z, F, env, i, j, e1, S, h1, fun F1 H1 s1 S1 => ⟨rgB_ok hb, fun q hq => ?_⟩⟩
  obtain ⟨S2, fp, zp, ap, ng⟩ := S1.newO (o := .lst (rgV i j)) hq
  exact k q F1 _ s1 S2 fp zp ⟨_, upd_same, by rw [rgV_length, sizeLine_eq]; exact (rgB_ok hb).2.2.2.2, rg_rp i j⟩ ap ng
def fRgT (f : RF) : EF := fun env => (f env).bind fun r => if rgB r.1 r.2.1 then some (.val (.tup (rngD r.1 (r.2.1 - r.1).toNat)), r.2.2) else none
theorem de_tupRg {r : RF} (hm : X.mg "tuple" = none) (he : DR X C c e r) (hg : Gl X "tuple" := by rfl) (na : starEach [e] X.env = (false, eval e X.env) :: starEach [] X.env := by rfl) (hc : X.calm = true := by rfl) : DE X C c (.Call (.Name "tuple" p) [e] [] pos) (fRgT r) := by
  refine PE.imp (pe_tupRg hc hg hm he na) fun σ H Q ⟨z, F, env, d, env', S, e, k⟩ => ?_
  simp only [fRgT, Option.bind_eq_some_iff] at e
  obtain ⟨⟨i, j, e1⟩, h1, e⟩ := e
  split at e
  case isFalse => cases e
  next hb =>
  cases e
  refine ⟨z, F, env, i, j, e1, S, h1, fun F1 H1 s1 S1 => ⟨rgB_ok hb, fun q hq => ?_⟩⟩
  have ex : Ext F1 H1 (upd F1 q (.tup (rgV i j))) (upd H1 q (.tup (rgV i j))) := Ext.laid S1.sub hq
  exact k _ _ _ (s1.trans ex.sub) (S1.ext ex) (.tup (SqT.of upd_same) (by rw [rgV_length, sizeLine_eq]; exact (rgB_ok hb).2.2.2.2) (rg_rp i j))
/-! ### t * n, t + u of tuples -/
def mulT (x y : D) : Option D := match x with
  | .tup xs => (match y with
    | .int k => if !xs.isEmpty && (decide (2 ≤ k) && (decide (k ≤ 1000) && decide (xs.length ≤ 1000))) then some (.tup (repD xs k.toNat)) else none
    | _ => none)
  | _ => none
theorem od_mulT : OpD X C (binaryOp .Mult) mulT := by
  refine ⟨_, op_repT, fun F H x y dx dy d Q s rx ry e k => ?_⟩
  cases dx <;> simp only [mulT] at e <;> try (cases e; done)
  cases dy <;> try (cases e; done)
  dsimp only at e
  split at e
  case isFalse => cases e
  next hb =>
  simp only [Bool.and_eq_true, decide_eq_true_eq, Bool.not_eq_true', List.isEmpty_eq_false_iff] at hb
  cases e
  rename_i xs i
  obtain ⟨a, vs, rfl, h1, l1, r1⟩ := rx.tup s
  have hvs : vs ≠ [] := fun q => hb.1 (by subst q; cases r1; rfl)
  refine ⟨a, i, vs, rfl, ry.int, h1, hvs, hb.2.1, hb.2.2.1, by rw [r1.length]; exact hb.2.2.2, fun p hp => ?_⟩
  have ex := Ext.laid (o := .tup (List.replicate i.toNat vs).flatten) s hp
  refine k _ _ _ ex (.tup (SqT.of upd_same) ?_ ((rep_rp r1 _).mono ex.sub))
  rw [rep_len, r1.length, sizeLine_eq]
  have h2 : i.toNat ≤ 1000 := by omega
  calc i.toNat * xs.length ≤ 1000 * 1000 := Nat.mul_le_mul h2 hb.2.2.2
    _ ≤ 16777216 := by decide
def addTT (x y : D) : Option D := match x with
  | .tup xs => (match y with
    | .tup ys => gd (xs.length + ys.length) (some (.tup (xs ++ ys)))
    | _ => none)
  | _ => none
theorem od_addTT : OpD X C (binaryOp .Add) addTT := by
  refine ⟨_, op_catA, fun F H x y dx dy d Q s rx ry e k => ?_⟩
  cases dx <;> simp only [addTT] at e <;> try (cases e; done)
  cases dy <;> try (cases e; done)
  obtain ⟨hl, e⟩ := gd_some e
  cases e
  rename_i xs ys
  obtain ⟨a, vs, rfl, h1, l1, r1⟩ := rx.tup s
  obtain ⟨b, ws, rfl, h2, l2, r2⟩ := ry.tup s
  have hl' : vs.length + ws.length ≤ sizeLine := by rw [r1.length, r2.length]; exact hl
  have pure_ : ∀ {v : V} {d : List D}, Rb X.K C F H v (.tup d) → Rp X.K C F v (.tup d) := fun r => by
    rcases r with r | ⟨_, _, r⟩
    · exact r
    · exact r.elim
  refine ⟨a, b, vs, ws, rfl, rfl, h1, h2, hl', fun q => ?_, fun _ q => ?_, fun _ _ p hp => ?_⟩
  · subst q
    cases r1
    exact k _ F H (Ext.rfl' s) (pure_ ry)
  · subst q
    cases r2
    rw [List.append_nil] at k
    exact k _ F H (Ext.rfl' s) (pure_ rx)
  · have ex : Ext F H (upd F p (.tup (vs ++ ws))) (upd H p (.tup (vs ++ ws))) := Ext.laid s hp
    exact k _ _ _ ex (.tup (SqT.of upd_same) (by rw [List.length_append]; exact hl') ((r1.app r2).mono ex.sub))
def addDT (x y : D) : Option D := (addD x y).or (addTT x y)
theorem od_addT : OpD X C (binaryOp .Add) addDT := od_add.or od_addTT
/-! ### a, b = list or tuple -/
def gU (n : Nat) (gs : GFs) : GF := fun d env => match d with
  | .tup ds => if ds.length = n then gs ds env else none
  | .lst ds => if ds.length = n then gs ds env else none
  | _ => none
theorem PG.or {e : Expr} {t t' : TG} (h : PG X e t) (h' : PG X e t') : PG X e (fun v σ H Q => t v σ H Q ∨ t' v σ H Q) := ⟨fun pins s σ H v u Q I r q => q.elim (h.run pins s σ H v u Q I r) (h'.run pins s σ H v u Q I r)⟩
theorem dg_unp {es : List Expr} {kk : Nat} {gs : GFs} {ts : List Nat} (n : Nat) (h : DGs X C c es ts gs) (hc : X.calm = true := by rfl) (hn : (assignEach es X.env).length = n := by rfl) (hst : (assignEach es X.env).findIdx? (·.1) = none := by rfl) : DG X C c (.Tuple es kk pos) ts (gU n gs) := by
  refine PG.imp (PG.or (pg_tup hc h hn hst) (pg_lst hc h hn hst)) fun v σ H Q ⟨z, F, env, d, env', S, r, e, k⟩ => ?_
  cases d <;> simp only [gU] at e <;> try (cases e; done)
  · cases r with
    | lst h1 hl h2 =>
      split at e
      · next q => exact .inr ⟨_, _, rfl, SqL.of (S.sub _ _ h1), by rw [h2.length]; exact q, z, F, env, _, env', S, h2, e, k⟩
      · cases e
  · cases r with
    | tup h1 hl h2 =>
      split at e
      · next q => exact .inl ⟨_, _, rfl, SqT.sub S.sub h1, by rw [h2.length]; exact q, z, F, env, _, env', S, h2, e, k⟩
      · cases e
/-! ### f() -/
def fC00 (ff : FF) : EF := fun env => (ff []).bind fun r => some (.val r.1, env)
def oC00 (ff : FF) : OF := fun env => (ff []).bind fun r => some (r.1, env)
theorem de_call00 {k : Nat} {fad : Addr} {fd : FuncData} {ff : FF} (Fk : FnOk X.prog X.w X.K X.mg X.base CX0 k fad fd [] (spF X.K C [] false 0 ff)) (hr : Room k X.A) (hm : X.mg x = some (.ref fad)) (hk : PySem.W.keepIn X.K (.ref fad) = true) (hb : Binds X.K fd [] [])
    (hg : Gl X x := by rfl) (hdb : (x == ("__debug__" : Str)) = false := by decide) : DE X C c (.Call (.Name x p) [] [] pos) (fC00 ff) := by
  refine PE.imp (pe_call0 Fk hr hg hm hk hb .nil pass0 hdb) fun σ H Q ⟨z, F, env, b, env', S, e, kk⟩ => ?_
  obtain ⟨r, h3, e⟩ := Option.bind_eq_some_iff.mp e
  cases e
  exact call0_read (m := false) (dv := []) (dd := []) S.sub .nil .nil rfl h3 fun v F' H' ex rv => kk v F' H' ex.sub (S.ext ex) rv
/-! ### {k: v for x in xs if t} -/
def dcD (gg : GF) (tt : TF) (fk fv : EF) (own : List Nat) : List D → Env → List (Key × D) → Option (List (Key × D) × Env)
  | [], env, acc => some (acc, env)
  | d :: ds, env, acc => (gg d env).bind fun e1 => (tt e1).bind fun r => if r.1 = true then (fk r.2).bind fun p => (fv p.2).bind fun q => (rdB q.2 p.1).bind fun y => (keyD y).bind fun kk => (match q.1 with
    | .val v => dcD gg tt fk fv own ds (wipeE q.2 own) (putD acc kk v)
    | .slot _ => none) else dcD gg tt fk fv own ds (wipeE r.2 own) acc
def oDc (i : IF) (gg : GF) (tt : TF) (fk fv : EF) (own : List Nat) : OF := fun env => (i env).bind fun p => (dcD gg tt fk fv own p.1 (wipeE p.2 own) []).bind fun r => some (.dic r.1, backE p.2 own r.2)
theorem putD_len (ks : List (Key × D)) (k : Key) (d : D) : (putD ks k d).length ≤ ks.length + 1 := by
  unfold putD
  split
  · rw [List.length_map]; omega
  · rw [List.length_append]; exact Nat.le_refl _
theorem dc_read {tt : TF} {gg : GF} {ts own : List Nat} {fk fv : EF} {fi : IF} {σ : St} {H : Hp} {Q : VK} {z : Zn} {F : Hp} {env env' : Env} {d : D} (ho : ∀ j ∈ own, j ∉ c.O ∧ j < c.n) (hts : ∀ t ∈ ts, t ∈ own) (S : SR X.K C c z F env σ H) (e : oDc fi gg tt fk fv own env = some (d, env'))
    (k : ∀ a F' H', Same F F' → SR X.K C c z F' env' σ H' → F' a = none → z.H0 a = none → Own X.K C F' H' a d → (Apt C c env' σ a) → (∀ e, (a, e) ∉ z.gh) → Q (.ref a) H') :
    tDc (tI X.K C c fi) (tG X.K C c ts gg) (tT X.K C c tt) (tE X.K C c fk) (tE X.K C c fv) own σ H Q := by
  simp only [oDc, Option.bind_eq_some_iff] at e
  obtain ⟨⟨ds, e1⟩, h1, ⟨res, e2⟩, h2, e⟩ := e
  cases e
  refine ⟨z, F, env, ds, e1, S, h1, fun J F1 H1 s1 S1 W D hD => ?_⟩
  obtain ⟨S2, fD, zD, apD, ngD⟩ := S1.newO (o := .dK []) hD
  have S3 := (S2.ghost (d := .dic []) fD zD ⟨[], upd_same, .nil⟩ apD ngD).wipe ho
  refine ⟨fun i n H => n = ds.length - i ∧ i ≤ ds.length ∧ ∃ F4 env4 acc, Same F1 F4 ∧ SR X.K C c { z with gh := (D, .dic acc) :: z.gh } F4 env4 (L2.wipe σ own) H ∧ acc.length ≤ i ∧ dcD gg tt fk fv own (ds.drop i) env4 acc = some (res, e2), ⟨ds.length, by simp, Nat.zero_le _, F1, _, [], Same.refl _, S3, Nat.zero_le _, h2⟩, ?_⟩
  rintro i n H4 ⟨rfl, hi, F4, env4, acc, s4, S4, hacc, e4⟩
  by_cases hlt : i < ds.length
  · refine .inr ⟨W.go i F4 H4 s4 S4.sub hlt, fun H' => ∃ F5 env5 acc5, Same F1 F5 ∧ SR X.K C c { z with gh := (D, .dic acc5) :: z.gh } F5 env5 (L2.wipe σ own) H' ∧ acc5.length ≤ i + 1 ∧ dcD gg tt fk fv own (ds.drop (i + 1)) env5 acc5 = some (res, e2), fun H' ⟨F5, env5, acc5, q1, q2, q3, q4⟩ => ⟨ds.length - (i + 1), by omega, rfl, hlt, F5, env5, acc5, q1, q2, q3, q4⟩, fun x H5 y => ?_⟩
    obtain ⟨F5, dx, ex, hd, r⟩ := W.yld i F4 H4 x H5 s4 S4.sub hlt y
    have ed : ds.drop i = dx :: ds.drop (i + 1) := by
      rw [List.drop_eq_getElem_cons hlt]
      obtain ⟨_, q⟩ := List.getElem?_eq_some_iff.mp hd
      rw [q]
    rw [ed] at e4
    obtain ⟨e5, h5, e4⟩ := Option.bind_eq_some_iff.mp e4
    obtain ⟨⟨k6, e6⟩, h6, e4⟩ := Option.bind_eq_some_iff.mp e4
    refine ⟨_, F5, env4, dx, e5, S4.ext ex, r, h5, fun F6 σ6 H6 s6 S6 w6 => ?_⟩
    have w6' := (w6 own hts).trans (wipe_idem own σ)
    refine ⟨w6', _, F6, e5, k6, e6, S6, h6, fun F7 H7 s7 S7 => ?_⟩
    have s17 : Same F1 F7 := s4.trans (ex.sub.trans (s6.trans s7))
    cases k6 with
    | false =>
      refine iteF ⟨F7, wipeE e6 own, acc, s17, ?_, by omega, e4⟩
      have := S7.wipe ho
      rw [w6'] at this
      exact this
    | true =>
      rw [if_pos rfl] at e4
      obtain ⟨⟨b8, e8⟩, h8, e4⟩ := Option.bind_eq_some_iff.mp e4
      obtain ⟨⟨b9, e9⟩, h9, e4⟩ := Option.bind_eq_some_iff.mp e4
      obtain ⟨yk, hyk, e4⟩ := Option.bind_eq_some_iff.mp e4
      obtain ⟨kk, hkk, e4⟩ := Option.bind_eq_some_iff.mp e4
      refine iteT ⟨_, F7, e6, b8, e8, S7, h8, fun v F8 H8 s8 S8 r8 => ⟨_, F8, e8, b9, e9, S8, h9, fun w F9 H9 s9 S9 r9 => ?_⟩⟩
      cases b9 with
      | slot _ => cases e4
      | val yd =>
        have hv := keyD_v ((r8.mono s9).rb S9 hyk) hkk
        obtain ⟨q1, q2, q3⟩ := S9.gho D (.dic acc) (List.mem_cons_self ..)
        obtain ⟨kvs, q4, q6⟩ := q2
        have hlen : kvs.length < sizeLine := by
          have := W.size
          rw [q6.length]; omega
        refine ⟨kvs, kk, hv, q4, hlen, F9, wipeE e9 own, putD acc kk yd, s17.trans (s8.trans s9), ?_, Nat.le_trans (putD_len acc kk yd) (by omega), e4⟩
        have S10 := (S9.gwrite (d' := .dic (putD acc kk yd)) (o := .dK (putK kvs kk w)) ⟨_, upd_same, q6.put kk r9⟩).wipe ho
        rw [w6'] at S10
        exact S10
  · have q : i = ds.length := by omega
    subst q
    rw [List.drop_length] at e4
    cases e4
    refine .inl ⟨W.stop F4 H4 s4 S4.sub, ?_⟩
    obtain ⟨S5, fa, za, ow, ap, ng⟩ := S4.unghost
    have S6 : SR X.K C c z F4 (backE e1 own e2) σ H4 := S1.back S5 s4 ho
    refine k D F4 H4 (s1.trans s4) S6 fa za ow (S1.aptB ho ap) ng
theorem do_dc {kx vx tg iter : Expr} {ifs : List Expr} {scope : Scope} {fi : IF} {gg : GF} {tt : TF} {fk fv : EF} {ts : List Nat} (own : List (Str × Nat)) (hN : X.N.Nodup) (hi : DI X C c tg iter fi) (ok : BlkOk X.N X.env.scope scope own)
    (hg : ∀ (s : Shared) (H : Hp) (C' : Addr) (cl : List (Str × Addr)) (fp : List Addr), DG (X.blk s H scope (compEnvC scope cl C' X.env) fp) C c tg ts gg) (ht : ∀ (s : Shared) (H : Hp) (C' : Addr) (cl : List (Str × Addr)) (fp : List Addr), DTs (X.blk s H scope (compEnvC scope cl C' X.env) fp) C c ifs tt)
    (hk : ∀ (s : Shared) (H : Hp) (C' : Addr) (cl : List (Str × Addr)) (fp : List Addr), DE (X.blk s H scope (compEnvC scope cl C' X.env) fp) C c kx fk)
    (he : ∀ (s : Shared) (H : Hp) (C' : Addr) (cl : List (Str × Addr)) (fp : List Addr), DE (X.blk s H scope (compEnvC scope cl C' X.env) fp) C c vx fv) (ho : ∀ j ∈ own.map (·.2), j ∉ c.O ∧ j < c.n := by decide) (hts : ∀ t ∈ ts, t ∈ own.map (·.2) := by decide) (hc : X.calm = true := by rfl) (hs : ∀ x, foldedSetIterable iter X.env x = pure x := by intro _; rfl) :
    DO X C c (.DictComp kx vx [⟨tg, iter, ifs, 0⟩] scope pos) (oDc fi gg tt fk fv (own.map (·.2))) := by
  refine PE.imp (pe_dc (wi := tI X.K C c fi) (g := tG X.K C c ts gg) (tt := tT X.K C c tt) (tk := tE X.K C c fk) (tv := tE X.K C c fv) hc hN hi ok (fun s H C' cl fp => hg s H C' cl fp) (fun s H C' cl fp => ht s H C' cl fp) (fun s H C' cl fp => hk s H C' cl fp) (fun s H C' cl fp => he s H C' cl fp) hs) fun σ H Q ⟨z, F, env, d, env', S, e, k⟩ => ?_
  exact dc_read ho hts S e k
end
end DL

namespace DL
open PySem L2
section
variable {X : Cx} {Cc f : Addr} {n : Nat} {fd : FuncData} {ps : List Str} {sp : Sp}
/-- a def of the class, run a little deeper -/
theorem run_in1 {pins : List (Addr × Obj)} {s : Shared} {σ : St} {H : Hp} {vs : List V} {us : List Value} {Q : VK} (F : FnOk X.prog X.w X.K X.mg X.base CX0 n f fd ps sp) (hb : Binds X.K fd ps []) (hr : Room n X.A.in1) (I : Inv X pins σ H s) (r : Vals vs us) (hsp : sp vs H Q E0) :
    wpAny (model X.prog X.w) X.A.in1 (call (.ref f) us) (EP X pins σ Q) X.xe s := by
  have e0 : Env0 X.prog X.w X.K X.mg X.base X.A.in1 X.stack s H := by
    have e := I.env0
    exact ⟨e.frames, e.mod, e.bs, e.bsz, e.funs, e.frf, e.hok, e.bare⟩
  have hl := F.len _ _ _ _ hsp
  refine wpAny_call (codeAny_mono (F.run X.A.in1 X.stack s H ⟨us, []⟩ us vs _ E0 hr e0 (by
    have := hb s us I.kIn (by rw [List.append_nil, ← r.length]; exact hl)
    simpa using this) r hsp) fun r s' hq => ?_)
  cases r with
  | error e => exact pass0 pins σ H s e s' I hq
  | ok fl =>
    cases fl with
    | ret w => exact I.after hq
    | next => exact False.elim hq
    | brk => exact False.elim hq
    | cont => exact False.elim hq
/-- len(o) through the class's own __len__ -/
theorem call_lenO (F : FnOk X.prog X.w X.K X.mg X.base CX0 n f fd ps sp) (hm : Meth X.K Cc "__len__" f) (hb : Binds X.K fd ps []) (hr : Room (n + 1) X.A) :
    CallR X (.builtin "len") (fun xs H Q => ∃ a dx fs, xs = [V.ref a] ∧ H a = some (.ins Cc dx fs) ∧ sp [V.ref a] H (fun v H' => ∃ k : Int, v = .int k ∧ 0 ≤ k ∧ k < 2 ^ 63 ∧ Q (.int k) H') E0) := by
  intro pins s σ H xs us Q I r h
  obtain ⟨a, dx, fs, rfl, ha, hsp⟩ := h
  obtain ⟨u, rfl, ru⟩ := vals1 r
  cases ru
  obtain ⟨mA, J, _⟩ := ins_get I.hok ha
  obtain ⟨od, J, _⟩ := J.look
  obtain ⟨m, hF⟩ := I.fr
  refine PySem.W.len_K hF I.ok.mod.kin J hm.at_ hm.fn (wpAny_mono (run_in1 F hb hr.in1 I (vs := [V.ref a]) (.cons rfl .nil) hsp) (fun v s' hq => ?_) fun _ _ z => z)
  obtain ⟨v', H', I', rv, k, rfl, h0, h1, q⟩ := hq
  obtain ⟨t, rfl⟩ := rv
  exact ⟨⟨h0, h1⟩, .int k, H', I'.tok _, ⟨_, rfl⟩, q⟩
end
section
variable {X : Cx} {C : CA} {c : Cs} {e o : Expr} {f : EF} {pos p : Pos} {k np : Nat} {fad : Addr} {fd : FuncData} {ps : List Str} {ff : FF}
/-- len(o), o an object that is data -/
def fLenO (kk : Nat) (ff : FF) (f : EF) : EF := fun env => (f env).bind fun p => match p.1 with
  | .val d => (match d with
    | .obj k fs => if k = kk then (ff [.obj k fs]).bind fun r => (match r.1 with
      | .int n => if decide (0 ≤ n) && decide (n < 2 ^ 63) then some (.val (.int n), p.2) else none
      | _ => none) else none
    | _ => none)
  | .slot _ => none
theorem de_lenO (kk : Nat) (he : DE X C c e f) (hmt : Meth X.K (C kk) "__len__" fad) (Fk : FnOk X.prog X.w X.K X.mg X.base CX0 k fad fd ps (spF X.K C [] false 1 ff)) (hr : Room (k + 1) X.A) (hb : Binds X.K fd ps []) (hm : X.mg "len" = none) (hv : bootBuiltins "len" = some (.builtin "len")) (hg : Gl X "len" := by rfl)
    (hs : starEach (e :: []) X.env = (false, eval e X.env) :: starEach [] X.env := by rfl) : DE X C c (.Call (.Name "len" p) [e] [] pos) (fLenO kk ff f) := by
  refine PE.imp (pe_callB (call_lenO Fk hmt hb hr) hg hm hv (pa_cons he pa_nil hs) (by decide) (by decide) hs rfl) fun σ H Q ⟨z, F, env, b, env', S, e, kq⟩ => ?_
  simp only [fLenO, Option.bind_eq_some_iff] at e
  obtain ⟨⟨b1, e1⟩, h1, e⟩ := e
  cases b1 with
  | slot _ => cases e
  | val d =>
    cases d <;> simp only at e <;> try (cases e; done)
    split at e
    case isFalse => cases e
    next hk =>
    subst hk
    obtain ⟨⟨r, os⟩, h3, e⟩ := Option.bind_eq_some_iff.mp e
    cases r <;> simp only at e <;> try (cases e; done)
    split at e
    case isFalse => cases e
    next hb2 =>
    simp only [Bool.and_eq_true, decide_eq_true_eq] at hb2
    cases e
    refine ⟨z, F, env, _, _, S, h1, fun v F1 H1 s1 S1 r1 => ?_⟩
    have r1' := r1
    cases r1 with
    | obj w1 w2 =>
      refine ⟨_, _, _, rfl, S1.sub _ _ w1, ?_⟩
      exact call0_read (m := false) (dv := []) (dd := []) S1.sub (.cons r1' .nil) .nil rfl (by simpa using h3) fun v F' H' ex rv => by
        have rv' : Rp X.K C F' v (.int _) := rv
        cases rv'
        exact ⟨_, rfl, hb2.1, hb2.2, kq _ F' H' (s1.trans ex.sub) (S1.ext ex) (.int _)⟩
end
end DL

namespace L2
open PySem PySem.Spec PyProof.Rows HT
section
variable {prog : Program} {w : World} {A : Around} {E : Value → Shared → Prop} {s : Shared}
theorem rev_pick (xs : Array Value) : ((List.range xs.size).filterMap fun (k : Nat) => xs[((xs.size : Int) - 1 + (k : Int) * (-1)).toNat]?).toArray = xs.toList.reverse.toArray := by
  have e : ((List.range xs.size).filterMap fun (k : Nat) => xs[((xs.size : Int) - 1 + (k : Int) * (-1)).toNat]?) = xs.toList.reverse := by
    have h1 : ((List.range xs.size).filterMap fun (k : Nat) => xs[((xs.size : Int) - 1 + (k : Int) * (-1)).toNat]?) = (List.range xs.size).filterMap fun k => xs.toList.reverse[k]? := by
      have hh : ∀ l : List Nat, (∀ k ∈ l, k < xs.size) → (l.filterMap fun (k : Nat) => xs[((xs.size : Int) - 1 + (k : Int) * (-1)).toNat]?) = l.filterMap fun k => xs.toList.reverse[k]? := by
        intro l
        induction l with
        | nil => intro _; rfl
        | cons k l ih =>
          intro hk
          have hk0 := hk k (List.mem_cons_self ..)
          have q : xs[((xs.size : Int) - 1 + (k : Int) * (-1)).toNat]? = xs.toList.reverse[k]? := by
            have e1 : ((xs.size : Int) - 1 + (k : Int) * (-1)).toNat = xs.size - 1 - k := by omega
            rw [e1, List.getElem?_reverse (by rw [Array.length_toList]; exact hk0), Array.length_toList, Array.getElem?_toList]
          rw [List.filterMap_cons, List.filterMap_cons, q, ih fun j hj => hk j (List.mem_cons_of_mem _ hj)]
      exact hh _ fun k hk => List.mem_range.mp hk
    rw [h1]
    have hl : xs.size = xs.toList.reverse.length := by rw [List.length_reverse, Array.length_toList]
    rw [hl]
    generalize xs.toList.reverse = l
    induction l with
    | nil => rfl
    | cons x l ih =>
      rw [List.length_cons, List.range_succ_eq_map, List.filterMap_cons]
      simp only [List.getElem?_cons_zero, List.filterMap_map]
      have : ((fun k => (x :: l)[k]?) ∘ Nat.succ) = fun k => l[k]? := by funext k; simp
      rw [this, ih]
  rw [e]
theorem getItem_tuple_rev {t sl : Addr} {items : Array Value} {vs : Value} {Q : Value → Shared → Prop} (ht : IsTup s.heap t items) (hs : s.heap.IsSliceOf sl .none .none vs) (ps : IsPart vs (some (-1)))
    (h : Q (.ref s.heap.objs.size) { s with heap := s.heap.push { cls := .type "tuple", data := .seq items.toList.reverse.toArray } })
    (hsz : items.size ≤ sizeLine) : wpAny (model prog w) A (getItem (.ref t) (.ref sl)) Q E s := by
  have htake : sizeOk (.seq items.toList.reverse.toArray) := by
    show items.toList.reverse.toArray.size ≤ sizeLine
    rw [List.size_toArray, List.length_reverse, Array.length_toList]
    exact hsz
  obtain ⟨os, hos, hcs, hds⟩ := id hs
  have hTs : s.TypeIs (.ref sl) "slice" := ⟨os, hos, hcs⟩
  unfold getItem
  try with_reducible refine wpAny_holding ?_
  first | refine wpAny_bind (wpAny_pure ?_) | skip
  refine wpAny_bind (wpAny_sequenceKey ht.typeIs (by decide) ?_)
  refine wpAny_bind (wpAny_callSpecial?_slot (name := Str.ofString "__getitem__") ht.typeIs PyProof.Rows.slot_tuple_getitem
    (wpAny_call_entry PyProof.Rows.slot_tuple_getitem ht.typeIs entry_tuple_getitem ?_ (args_tuple_getitem _ _)))
  show wpAny _ _ (Builtin.Tuple.tupleItemsOf (.ref t) >>= _) _ _ s
  refine wpAny_bind (tupleItemsOf_ ht ?_)
  refine wpAny_bind (wpAny_typeOf hTs ?_)
  rw [if_pos (by decide)]
  have happ : ∀ {A' : Around} {Q' : Int × Int × Nat → Shared → Prop}, Q' ((items.size : Int) - 1, -1, items.size) s → wpAny (model prog w) A' (Builtin.Slice.sliceApplied (.ref sl) (pure (items.size : Int))) Q' E s := fun {A'} {Q'} q => by
    unfold Builtin.Slice.sliceApplied Builtin.Slice.sliceFields
    refine wpAny_bind (wpAny_bind (wpAny_field hos hds (x := .none) rfl (wpAny_bind (wpAny_field hos hds (x := .none) rfl (wpAny_bind (wpAny_field hos hds (x := vs) rfl (wpAny_pure ?_)))))))
    refine wpAny_bind (slicePart_ ps ?_)
    show wpAny _ _ (if ((-1 : Int) == 0) = true then _ else _) _ _ s
    rw [if_neg (by decide)]
    refine wpAny_bind (slicePart_none (wpAny_bind (slicePart_none (wpAny_bind (wpAny_pure ?_)))))
    have ea : Builtin.Slice.sliceAdjust none none (-1) (items.size : Int) = ((items.size : Int) - 1, -1) := by
      unfold Builtin.Slice.sliceAdjust
      simp
    have ep : Builtin.Slice.slicePlaces ((items.size : Int) - 1) (-1) (-1) = items.size := by
      unfold Builtin.Slice.slicePlaces
      rw [if_neg (by decide), show (-(-1) : Int) = 1 from rfl, Int.ediv_one]
      split <;> omega
    show wpAny _ _ (match Builtin.Slice.sliceAdjust none none (-1) (items.size : Int) with | (lo, hi) => pure (lo, (-1 : Int), Builtin.Slice.slicePlaces lo hi (-1))) _ _ s
    rw [ea]
    show wpAny _ _ (pure ((items.size : Int) - 1, (-1 : Int), Builtin.Slice.slicePlaces ((items.size : Int) - 1) (-1) (-1))) _ _ s
    rw [ep]
    exact wpAny_pure q
  refine wpAny_bind (happ ?_)
  show wpAny _ _ (if (((items.size : Int) - 1) == 0 && (-1 : Int) == 1 && items.size == items.size) = true then _ else _) _ _ s
  rw [if_neg (by simp), rev_pick]
  first
    | exact wpAny_bind (m := Builtin.Tuple.tupleExact _) (wpAny_newObj_type (wpAny_pure ⟨_, rfl, wpAny_pure h⟩) htake)
    | exact wpAny_bind (m := Builtin.Tuple.tupleExact _) (wpAny_newObj_type (wpAny_bind (wpAny_pure (wpAny_pure ⟨_, rfl, wpAny_pure h⟩))) htake)
    | exact wpAny_bind (wpAny_bind (m := Builtin.Tuple.tupleExact _) (wpAny_newObj_type (wpAny_pure (wpAny_pure ⟨_, rfl, wpAny_pure h⟩)) htake))
    | exact wpAny_bind (wpAny_bind (m := Builtin.Tuple.tupleExact _) (wpAny_newObj_type (wpAny_pure ⟨_, rfl, wpAny_pure h⟩) htake))
end
section
variable {X : Cx}
/-- t[::k], k = -1 -/
def tRevT (K : PySem.W.Frag) (te : TE) (ts : TO) : TE := fun σ H Q => te σ H fun x H1 => ts σ H1 fun o H2 => o = some (-1) ∧ ∃ a xs, x = .ref a ∧ SqT K H2 a xs ∧ ∀ p, H2 p = none → Q (.ref p) (upd H2 p (.tup xs.reverse))
theorem pe_revT {e e2 : Expr} {te : TE} {ts : TO} {p3 pos : Pos} (he : PE X e te) (hst : PO X (some e2) ts) (hsub : ∀ (a b : Addr), subscripted (.Slice none none (some e2) p3) false (.ref a) (.ref b) = operate [.ref a, .ref b] (getItem (.ref a) (.ref b)) := by intro _ _; with_unfolding_all rfl) : PE X (.Subscript e (.Slice none none (some e2) p3) pos) (tRevT X.K te ts) := by
  refine ⟨fun pins s σ H Q I h => ?_⟩
  refine Subscript_ (thn (he.run pins s σ H _ I h) fun v s1 ⟨x, H1, I1, r1, q1⟩ => ?_)
  refine wpAny_Slice (thn (po_none.run pins s1 σ H1 (fun o H2 => o = none ∧ H2 = H1) I1 ⟨rfl, rfl⟩) fun vl s2 ⟨l, H2, I2, pl, el, e2⟩ => ?_)
  subst el e2
  refine thn (po_none.run pins s2 σ H2 (fun o H3 => o = none ∧ H3 = H2) I2 ⟨rfl, rfl⟩) fun vu s3 ⟨u, H3, I3, pu, eu, e3⟩ => ?_
  subst eu e3
  refine thn (hst.run pins s3 σ H3 _ I3 q1) fun vs s4 ⟨o, H4, I4, ps, eo, a, xs, ex, hx, q⟩ => ?_
  subst eo ex
  cases r1
  cases pl
  cases pu
  have I5 : Inv X pins σ H4 { s4 with heap := s4.heap.push { cls := .type "slice", data := .fields #[.none, .none, vs] } } := I4.kept (t' := s4.toks) fun b ob q => Heap.get?_push_of_some _ q
  obtain ⟨its, r, ht, hz⟩ := I5.tuple hx
  have hlen := r.length
  refine tail_any (ops := [.ref a, .ref s4.heap.objs.size]) ht.typeIs (PyProof.Rows.slot_tuple_getitem.lookup) ?_ (hsub _ _)
  refine getItem_tuple_rev ht (Heap.IsSliceOf.new _ .none .none vs) ps ?_ (by rw [List.size_toArray]; omega)
  refine ⟨.ref _, _, I5.laid (t' := s4.toks) (o := .tup xs.reverse) (fun b ob q => Heap.get?_push_of_some _ q) (Nat.le_refl _) ?_, rfl, q _ (I5.hok.fresh (Nat.le_refl _))⟩
  exact ⟨by rw [List.length_reverse]; exact hz, _, r.reverse, IsTup.new _ _⟩
end
end L2

namespace DL
open PySem L2
section
variable {X : Cx} {C : CA} {c : Cs} {e e2 : Expr} {f g : EF} {pos p3 : Pos}
/-- t[::k] of a tuple, k = -1 -/
def fRev (f : EF) (g : PF) : EF := fun env => (f env).bind fun p => (g p.2).bind fun q => match q.1 with
  | some i => if i = -1 then (rdB q.2 p.1).bind fun d => (match d with
    | .tup xs => some (.val (.tup xs.reverse), q.2)
    | _ => none) else none
  | none => none
theorem RpAll.rev {K : PySem.W.Frag} {F : Hp} {vs : List V} {ds : List D} (h : RpAll K C F vs ds) : RpAll K C F vs.reverse ds.reverse := by
  induction vs generalizing ds with
  | nil => cases h; exact .nil
  | cons v vs ih => cases h with | cons h1 h2 => rw [List.reverse_cons, List.reverse_cons]; exact (ih h2).app (.one h1)
theorem de_rev {fg : PF} (he : DE X C c e f) (hg : DPt X C c (some e2) fg) (hsub : ∀ (a b : Addr), subscripted (.Slice none none (some e2) p3) false (.ref a) (.ref b) = operate [.ref a, .ref b] (getItem (.ref a) (.ref b)) := by intro _ _; with_unfolding_all rfl) : DE X C c (.Subscript e (.Slice none none (some e2) p3) pos) (fRev f fg) := by
  refine PE.imp (pe_revT he hg hsub) fun σ H Q ⟨z, F, env, b, env', S, e, k⟩ => ?_
  simp only [fRev, Option.bind_eq_some_iff] at e
  obtain ⟨⟨b1, e1⟩, h1, ⟨i1, e2⟩, h2, e⟩ := e
  cases i1 with
  | none => cases e
  | some i =>
    dsimp only at e
    split at e
    case isFalse => cases e
    next hi =>
    subst hi
    obtain ⟨d, h4, e⟩ := Option.bind_eq_some_iff.mp e
    cases d <;> simp only at e <;> try (cases e; done)
    cases e
    refine ⟨z, F, env, b1, e1, S, h1, fun v F1 H1 s1 S1 r1 => ⟨z, F1, e1, _, _, S1, h2, fun F2 H2 s2 S2 => ⟨rfl, ?_⟩⟩⟩
    obtain ⟨a, vs, rfl, q, ql, r⟩ := ((r1.mono s2).rb S2 h4).tup S2.sub
    refine ⟨a, vs, rfl, q, fun p hp => ?_⟩
    have ex : Ext F2 H2 (upd F2 p (.tup vs.reverse)) (upd H2 p (.tup vs.reverse)) := Ext.laid S2.sub hp
    exact k _ _ _ (s1.trans (s2.trans ex.sub)) (S2.ext ex) (.tup (SqT.of upd_same) (by rw [List.length_reverse]; exact ql) (r.rev.mono ex.sub))
end
end DL

namespace DL
open PySem L2
section
variable {m : Bool} {X : Cx} {C : CA} {c : Cs} {a b e : Expr} {fa : AF} {pos : Pos}
/-- x, y, z = a, b, e of data -/
def sPar3 (i j l : Nat) (fa : AF) : SF := fun env => (fa env).bind fun p => (vals p.1).bind fun ds => match ds with
  | [d1, d2, d3] => some (.nx (st (st (st p.2 i (some d1)) j (some d2)) l (some d3)))
  | _ => none
theorem ds_par3 (i j l : Nat) {x y z : Str} {px py pz pt : Pos} {kt k2 : Nat} {pt2 : Pos} (hN : X.N.Nodup) (ha : DA X C c [a, b, e] fa) (hi : i ∉ c.O := by decide) (hj : j ∉ c.O := by decide) (hl : l ∉ c.O := by decide)
    (hni : i < c.n := by decide) (hnj : j < c.n := by decide) (hnl : l < c.n := by decide) (hxi : X.N[i]? = some x := by rfl) (hyj : X.N[j]? = some y := by rfl) (hzl : X.N[l]? = some z := by rfl) (hij : i ≠ j := by decide) (hil : i ≠ l := by decide) (hjl : j ≠ l := by decide)
    (hx : X.env.scope.names.lookup x = some .local := by rfl) (hy : X.env.scope.names.lookup y = some .local := by rfl) (hz : X.env.scope.names.lookup z = some .local := by rfl) (hc : X.calm = true := by rfl)
    (hw : swappedStores [.Tuple [.Name x px, .Name y py, .Name z pz] kt pt] (.Tuple [a, b, e] k2 pt2) X.env = pure (some [x, y, z]) := by rfl) (hs : swapsWithSole [.Tuple [.Name x px, .Name y py, .Name z pz] kt pt] (.Tuple [a, b, e] k2 pt2) pos.line X.env = pure false := by rfl) :
    DS m X C c (.Assign [.Tuple [.Name x px, .Name y py, .Name z pz] kt pt] (.Tuple [a, b, e] k2 pt2) pos) (sPar3 i j l fa) := by
  refine PS.imp (ps_par3 hc hN hxi hyj hzl hij hil hjl hx hy hz ha hw hs) fun Dn σ H ⟨z, F, env, fl, S, hg, e, k⟩ => ?_
  simp only [sPar3, Option.bind_eq_some_iff] at e
  obtain ⟨⟨bs, e1⟩, h1, ds, h2, e⟩ := e
  refine ⟨z, F, env, bs, e1, S, h1, fun vs F1 H1 s1 S1 r1 => ?_⟩
  have rp := vals_rp r1 h2
  split at e
  case h_2 => cases e
  cases e
  cases rp with
  | cons q1 t1 => cases t1 with
    | cons q2 t2 => cases t2 with
      | cons q3 t3 =>
        cases t3
        exact ⟨_, _, _, rfl, k F1 _ H1 s1 (((S1.setP hi hni q1).setP hj hnj q2).setP hl hnl q3)⟩
end
section
variable {X : Cx} {C : CA}
/-- b is True -/
def isBD (x y : D) : Option D := match x with
  | .bl a => (match y with
    | .bl b => some (.bl (decide (a = b)))
    | _ => none)
  | _ => none
def isNotBD (x y : D) : Option D := match x with
  | .bl a => (match y with
    | .bl b => some (.bl (!decide (a = b)))
    | _ => none)
  | _ => none
theorem od_isB : OpD X C (compareOp .Is) isBD := by
  refine ⟨_, op_isBl, fun F H x y dx dy d Q s rx ry e k => ?_⟩
  cases dx <;> simp only [isBD] at e <;> try (cases e; done)
  cases dy <;> simp only at e <;> try (cases e; done)
  cases e
  exact ⟨_, _, rx.bl, ry.bl, k _ F H (Ext.rfl' s) (.bl _)⟩
theorem od_isNotB : OpD X C (compareOp .IsNot) isNotBD := by
  refine ⟨_, op_notBl, fun F H x y dx dy d Q s rx ry e k => ?_⟩
  cases dx <;> simp only [isNotBD] at e <;> try (cases e; done)
  cases dy <;> simp only at e <;> try (cases e; done)
  cases e
  exact ⟨_, _, rx.bl, ry.bl, k _ F H (Ext.rfl' s) (.bl _)⟩
end
end DL

/-! zip of a list and a tuple, either way: one turn of zip for any two iterators that keep their promises. -/
namespace ZM
open PySem PyProof.Rows L2 RZ
open PySem.Sem (wp)
/-- what P says rests upon the objects i and l alone -/
def On (i l : Addr) (P : Heap → Prop) : Prop := ∀ h h' : Heap, P h → (∀ o, h.get? i = some o → h'.get? i = some o) → (∀ o, h.get? l = some o → h'.get? l = some o) → P h'
/-- the iterator i over l stands as P says; its next turn gives u and it stands as P' says -/
structure Gives (i l : Addr) (P P' : Heap → Prop) (u : Value) : Prop where
  run : ∀ {prog : Program} {w : World} {A : Around} {E : Value → Shared → Prop} {s : Shared} {Q : Value → Shared → Prop}, P s.heap → (∀ h', P' h' → Heap.SameBut i s.heap h' → Q u { s with heap := h' }) → wpAny (model prog w) A (Builtin.SmallTypes.nextOf (.ref i)) Q E s
  old : On i l P
  new : On i l P'
/-- the iterator i over l stands as P says, and is at its end -/
structure Over (i l : Addr) (P : Heap → Prop) : Prop where
  run : ∀ {prog : Program} {w : World} {A : Around} {E : Value → Shared → Prop} {s : Shared} {Q : Value → Shared → Prop}, A.handled = none → P s.heap → (∀ h' e, Heap.ExtBut i s.heap h' → (∃ o, h'.get? e = some o ∧ o.cls = .type "StopIteration") → E (.ref e) { s with heap := h' }) → wpAny (model prog w) A (Builtin.SmallTypes.nextOf (.ref i)) Q E s
  old : On i l P
/-- an iterator over a tuple (true) or a list (false) -/
def St : Bool → Addr → Addr → Array Value → Nat → Heap → Prop
  | true, i, l, xs, k => fun h => h.IsTupleIter i l k ∧ h.IsTuple l xs
  | false, i, l, xs, k => fun h => h.IsListIter i l k ∧ h.IsList l xs
theorem St.on : ∀ (b : Bool) {i l : Addr} {xs : Array Value} {k : Nat}, On i l (St b i l xs k)
  | true, _, _, _, _ => fun _ _ p a b => ⟨p.1.at a, let ⟨o, e, r⟩ := p.2; ⟨o, b _ e, r⟩⟩
  | false, _, _, _, _ => fun _ _ p a b => ⟨p.1.at a, let ⟨o, e, r⟩ := p.2; ⟨o, b _ e, r⟩⟩
theorem St.gives : ∀ (b : Bool) {i l : Addr} {xs : Array Value} {k : Nat} {u : Value}, i ≠ l → xs[k]? = some u → Gives i l (St b i l xs k) (St b i l xs (k + 1)) u
  | true, _, _, _, _, _ => fun n hx => ⟨fun p q => nextOf_tuple_item p.1 p.2 hx fun h' a sb => q h' ⟨a, let ⟨o, e, r⟩ := p.2; ⟨o, (sb.2 _ n.symm).trans e, r⟩⟩ sb, St.on true, St.on true⟩
  | false, _, _, _, _, _ => fun n hx => ⟨fun p q => wpAny_nextOf_list_item p.1 p.2 hx fun h' a sb => q h' ⟨a, let ⟨o, e, r⟩ := p.2; ⟨o, (sb.2 _ n.symm).trans e, r⟩⟩ sb, St.on false, St.on false⟩
theorem St.over : ∀ (b : Bool) {i l : Addr} {xs : Array Value} {k : Nat}, xs[k]? = none → Over i l (St b i l xs k)
  | true, _, _, _, _ => fun hx => ⟨fun hh p q => nextOf_tuple_end hh p.1 p.2 hx q, St.on true⟩
  | false, _, _, _, _ => fun hx => ⟨fun hh p q => wpAny_nextOf_list_end hh p.1 p.2 hx q, St.on false⟩
/-- the objects other than z's own are as they were -/
theorem On.keep {i l c : Addr} {P : Heap → Prop} (on : On i l P) (hi : i ≠ c) (hl : l ≠ c) {h h' : Heap} (sb : Heap.SameBut c h h') (p : P h) : P h' :=
  on h h' p (fun _ e => (sb.2 _ hi).trans e) fun _ e => (sb.2 _ hl).trans e
section
variable {prog : Program} {w : World} {A : Around} {E : Value → Shared → Prop} {s : Shared} {z TI TO i1 i2 l1 l2 : Addr} {P1 P1' P2 P2' : Heap → Prop} {x y a b : Value}
theorem gives {Q : Value → Shared → Prop} (D : ZipApart z TI TO i1 i2 l1 l2) (hz : IsZip s.heap z TI TO .none) (hTI : IsPair s.heap TI (.ref i1) (.ref i2)) (hTO : IsPair s.heap TO a b)
    (g1 : Gives i1 l1 P1 P1' x) (g2 : Gives i2 l2 P2 P2' y) (p1 : P1 s.heap) (p2 : P2 s.heap)
    (hQ : ∀ h', IsZip h' z TI TO (rawInt s.heap.objs.size) → IsPair h' TO x y → P1' h' → P2' h' → IsPair h' s.heap.objs.size x y → h'.objs.size = s.heap.objs.size + 1 →
      (∀ c o, c ≠ z → c ≠ TO → c ≠ i1 → c ≠ i2 → s.heap.get? c = some o → h'.get? c = some o) → Q (.ref s.heap.objs.size) { s with heap := h' }) :
    wpAny (model prog w) A (Builtin.«zip.__next__» ⟨[.ref z], []⟩) (fun fin s' => ∃ v, fin = .done (.ret v) ∧ Q v s') E s := by
  show wpAny _ _ (field (.ref _) 2 >>= _) _ _ _
  refine wpAny_bind (wpAny_field hz rfl (x := .bool false) rfl ?_)
  show wpAny _ _ (field (.ref _) 3 >>= _) _ _ _
  refine wpAny_bind (wpAny_field hz rfl (x := .ref _) rfl (wpAny_bind (wpAny_seqItems hTI rfl ?_)))
  show wpAny _ _ (Builtin.SmallTypes.ownedTupleIsFree (.ref _) >>= _) _ _ _
  unfold Builtin.SmallTypes.ownedTupleIsFree
  refine wpAny_bind (wpAny_bind (wpAny_field hz rfl (x := .none) rfl (wpAny_pure ?_)))
  simp only [if_true]
  refine wpAny_bind (wpAny_rule (wpAny_bind (wpAny_field hz rfl (x := .ref _) rfl (wpAny_bind (wpAny_setField_rec hz (by simp) fun h1 z1 k1 => ?_)))))
  refine wpAny_bind ?_
  simp only [List.zipIdx_cons, List.zipIdx_nil, List.forIn_cons, List.forIn_nil]
  refine wpAny_bind (wpAny_bind (wpAny_onRaise ?_))
  show wpAny _ _ (Builtin.SmallTypes.nextOf (.ref _) >>= _) _ _ _
  have z1 : IsZip h1 z TI TO .ellipsis := z1
  -- the first thing
  refine wpAny_bind (g1.run (g1.old.keep D.i1z D.l1z k1 p1) fun h2 p1a k2 => wpAny_pure ?_)
  have t2 : IsPair h2 TO a b := (k2.2 _ D.TOi1).trans ((k1.2 _ D.TOz).trans hTO)
  refine wpAny_bind (wpAny_seqItems t2 rfl (wpAny_bind (wpAny_updateSeq_pair t2 fun h3 t3 k3 => wpAny_bind (wpAny_letGo (wpAny_pure ?_)))))
  have t3 : IsPair h3 TO x b := t3
  -- the second thing
  refine wpAny_bind (wpAny_bind (wpAny_onRaise ?_))
  show wpAny _ _ (Builtin.SmallTypes.nextOf (.ref i2) >>= _) _ _ _
  have p2c : P2 h3 := g2.old.keep D.TOi2.symm D.l2TO k3 (g2.old.keep D.i12.symm D.l2i1 k2 (g2.old.keep D.i2z D.l2z k1 p2))
  refine wpAny_bind (g2.run p2c fun h4 p2d k4 => wpAny_pure ?_)
  have t4 : IsPair h4 TO x b := (k4.2 _ D.TOi2).trans t3
  refine wpAny_bind (wpAny_seqItems t4 rfl (wpAny_bind (wpAny_updateSeq_pair t4 fun h5 t5 k5 => wpAny_bind (wpAny_letGo (wpAny_pure (wpAny_pure ?_))))))
  have t5 : IsPair h5 TO x y := t5
  -- the pair that is handed out
  have p1e : P1' h5 := g1.new.keep D.TOi1.symm D.l1TO k5 (g1.new.keep D.i12 D.l1i2 k4 (g1.new.keep D.TOi1.symm D.l1TO k3 p1a))
  have p2e : P2' h5 := g2.new.keep D.TOi2.symm D.l2TO k5 p2d
  have n5 : h5.objs.size = s.heap.objs.size := k5.1.trans (k4.1.trans (k3.1.trans (k2.1.trans k1.1)))
  have z5 : IsZip h5 z TI TO .ellipsis := (k5.2 _ D.TOz.symm).trans ((k4.2 _ D.i2z.symm).trans ((k3.2 _ D.TOz.symm).trans ((k2.2 _ D.i1z.symm).trans z1)))
  have all5 : ∀ c o, c ≠ z → c ≠ TO → c ≠ i1 → c ≠ i2 → s.heap.get? c = some o → h5.get? c = some o := fun c o c1 c2 c3 c4 e =>
    (k5.2 _ c2).trans ((k4.2 _ c4).trans ((k3.2 _ c2).trans ((k2.2 _ c3).trans ((k1.2 _ c1).trans e))))
  refine wpAny_bind (wpAny_seqItems t5 rfl (wpAny_bind (wpAny_newTuple ?_)))
  show wpAny _ _ (Builtin.SmallTypes.ownedTupleHandOut (.ref z) (.ref h5.objs.size) >>= _) _ _ _
  unfold Builtin.SmallTypes.ownedTupleHandOut
  have zl : z < h5.objs.size := Heap.lt_size z5
  refine wpAny_bind (wpAny_bind (wpAny_setField_rec (Heap.get?_push_of_some _ z5) (by simp) fun h7 z7 k7 => wpAny_setField_rec z7 (by simp) fun h8 z8 k8 => ?_))
  have up : ∀ c o, c ≠ z → h5.get? c = some o → h8.get? c = some o := fun c o c1 e => (k8.2 _ c1).trans ((k7.2 _ c1).trans (Heap.get?_push_of_some _ e))
  have new : IsPair h8 h5.objs.size x y := (k8.2 _ (Nat.ne_of_gt zl)).trans ((k7.2 _ (Nat.ne_of_gt zl)).trans (Heap.get?_push_size _ rfl))
  have n8 : h8.objs.size = h5.objs.size + 1 := by rw [k8.1, k7.1, Heap.size_push]
  have z8 : IsZip h8 z TI TO (rawInt h5.objs.size) := z8
  refine wpAny_pure ⟨_, rfl, ?_⟩
  have q := hQ h8
  rw [← n5] at q
  exact q z8 (up _ _ D.TOz t5) (g1.new _ _ p1e (fun o e => up _ o D.i1z e) fun o e => up _ o D.l1z e) (g2.new _ _ p2e (fun o e => up _ o D.i2z e) fun o e => up _ o D.l2z e) new n8 fun c o c1 c2 c3 c4 e => up c o c1 (all5 c o c1 c2 c3 c4 e)
/-- one of both is at its end -/
theorem over {Q : Fin → Shared → Prop} (hh : A.handled = none) (D : ZipApart z TI TO i1 i2 l1 l2) (hz : IsZip s.heap z TI TO .none) (hTI : IsPair s.heap TI (.ref i1) (.ref i2)) (hTO : IsPair s.heap TO a b) (p1 : P1 s.heap) (p2 : P2 s.heap)
    (g : Over i1 l1 P1 ∨ Gives i1 l1 P1 P1' x ∧ Over i2 l2 P2)
    (hE : ∀ h' e, (∀ c o, c ≠ z → c ≠ TO → c ≠ i1 → c ≠ i2 → s.heap.get? c = some o → h'.get? c = some o) → (∃ o, h'.get? e = some o ∧ o.cls = .type "StopIteration") → E (.ref e) { s with heap := h' }) :
    wpAny (model prog w) A (Builtin.«zip.__next__» ⟨[.ref z], []⟩) Q E s := by
  show wpAny _ _ (field (.ref _) 2 >>= _) _ _ _
  refine wpAny_bind (wpAny_field hz rfl (x := .bool false) rfl ?_)
  show wpAny _ _ (field (.ref _) 3 >>= _) _ _ _
  refine wpAny_bind (wpAny_field hz rfl (x := .ref _) rfl (wpAny_bind (wpAny_seqItems hTI rfl ?_)))
  show wpAny _ _ (Builtin.SmallTypes.ownedTupleIsFree (.ref _) >>= _) _ _ _
  unfold Builtin.SmallTypes.ownedTupleIsFree
  refine wpAny_bind (wpAny_bind (wpAny_field hz rfl (x := .none) rfl (wpAny_pure ?_)))
  simp only [if_true]
  refine wpAny_bind (wpAny_rule (wpAny_bind (wpAny_field hz rfl (x := .ref _) rfl (wpAny_bind (wpAny_setField_rec hz (by simp) fun h1 z1 k1 => ?_)))))
  refine wpAny_bind ?_
  simp only [List.zipIdx_cons, List.zipIdx_nil, List.forIn_cons, List.forIn_nil]
  refine wpAny_bind (wpAny_bind (wpAny_onRaise ?_))
  show wpAny _ _ (Builtin.SmallTypes.nextOf (.ref _) >>= _) _ _ _
  have z1 : IsZip h1 z TI TO .ellipsis := z1
  have notz : ∀ (h : Heap) (e : Addr), IsZip h z TI TO .ellipsis → (∃ o, h.get? e = some o ∧ o.cls = .type "StopIteration") → e ≠ z := fun h e q ⟨o, ho, hc⟩ n => by
    subst n; rw [q] at ho; cases ho; simp at hc
  rcases g with g1 | ⟨g1, g2⟩
  · refine wpAny_bind (g1.run hh (g1.old.keep D.i1z D.l1z k1 p1) fun h2 e k2 st => ?_)
    have z2 : IsZip h2 z TI TO .ellipsis := k2 _ _ D.i1z.symm z1
    have ne := notz h2 e z2 st
    obtain ⟨o, ho, hc⟩ := st
    exact wpAny_setField_rec z2 (by simp) fun h3 _ k3 => hE h3 e (fun c o c1 _ c3 _ q => (k3.2 _ c1).trans (k2 _ _ c3 ((k1.2 _ c1).trans q))) ⟨o, (k3.2 _ ne).trans ho, hc⟩
  · refine wpAny_bind (g1.run (g1.old.keep D.i1z D.l1z k1 p1) fun h2 p1a k2 => wpAny_pure ?_)
    have t2 : IsPair h2 TO a b := (k2.2 _ D.TOi1).trans ((k1.2 _ D.TOz).trans hTO)
    refine wpAny_bind (wpAny_seqItems t2 rfl (wpAny_bind (wpAny_updateSeq_pair t2 fun h3 t3 k3 => wpAny_bind (wpAny_letGo (wpAny_pure ?_)))))
    refine wpAny_bind (wpAny_bind (wpAny_onRaise ?_))
    show wpAny _ _ (Builtin.SmallTypes.nextOf (.ref i2) >>= _) _ _ _
    have p2c : P2 h3 := g2.old.keep D.TOi2.symm D.l2TO k3 (g2.old.keep D.i12.symm D.l2i1 k2 (g2.old.keep D.i2z D.l2z k1 p2))
    refine wpAny_bind (g2.run hh p2c fun h4 e k4 st => ?_)
    have z4 : IsZip h4 z TI TO .ellipsis := k4 _ _ D.i2z.symm ((k3.2 _ D.TOz.symm).trans ((k2.2 _ D.i1z.symm).trans z1))
    have ne := notz h4 e z4 st
    obtain ⟨o, ho, hc⟩ := st
    exact wpAny_setField_rec z4 (by simp) fun h5 _ k5 => hE h5 e (fun c o c1 c2 c3 c4 q => (k5.2 _ c1).trans (k4 _ _ c4 ((k3.2 _ c2).trans ((k2.2 _ c3).trans ((k1.2 _ c1).trans q))))) ⟨o, (k5.2 _ ne).trans ho, hc⟩
end
section
variable {prog : Program} {w : World} {A : Around} {E : Value → Shared → Prop} {s : Shared} {z TI TO i1 i2 l1 l2 : Addr} {P1 P1' P2 P2' : Heap → Prop} {x y a b : Value}
theorem next_gives {Q : Option Value → Shared → Prop} (D : ZipApart z TI TO i1 i2 l1 l2) (hz : IsZip s.heap z TI TO .none) (hTI : IsPair s.heap TI (.ref i1) (.ref i2)) (hTO : IsPair s.heap TO a b)
    (g1 : Gives i1 l1 P1 P1' x) (g2 : Gives i2 l2 P2 P2' y) (p1 : P1 s.heap) (p2 : P2 s.heap)
    (hQ : ∀ h', IsZip h' z TI TO (rawInt s.heap.objs.size) → IsPair h' TO x y → P1' h' → P2' h' → IsPair h' s.heap.objs.size x y → h'.objs.size = s.heap.objs.size + 1 →
      (∀ c o, c ≠ z → c ≠ TO → c ≠ i1 → c ≠ i2 → s.heap.get? c = some o → h'.get? c = some o) → Q (some (.ref s.heap.objs.size)) { s with heap := h' }) :
    wpAny (model prog w) A (pyNext (.ref z)) Q E s := by
  have hT : s.TypeIs (.ref z) "zip" := ⟨_, hz, rfl⟩
  unfold pyNext
  refine wpAny_bind (wpAny_attempt (wpAny_callSpecial?_slot (name := Str.ofString "__next__") hT F.slot_zip_next (wpAny_call_entry F.slot_zip_next hT F.entry_zip_next ?_ (F.args_zip_next_1 _))))
  exact gives D hz hTI hTO g1 g2 p1 p2 fun h' a1 a2 a3 a4 a5 a6 a7 => wpAny_pure (hQ h' a1 a2 a3 a4 a5 a6 a7)
theorem next_over {Q : Option Value → Shared → Prop} (hh : A.handled = none) (D : ZipApart z TI TO i1 i2 l1 l2) (hz : IsZip s.heap z TI TO .none) (hTI : IsPair s.heap TI (.ref i1) (.ref i2)) (hTO : IsPair s.heap TO a b) (p1 : P1 s.heap) (p2 : P2 s.heap)
    (g : Over i1 l1 P1 ∨ Gives i1 l1 P1 P1' x ∧ Over i2 l2 P2) (hQ : ∀ h', (∀ c o, c ≠ z → c ≠ TO → c ≠ i1 → c ≠ i2 → s.heap.get? c = some o → h'.get? c = some o) → Q none { s with heap := h' }) :
    wpAny (model prog w) A (pyNext (.ref z)) Q E s := by
  have hT : s.TypeIs (.ref z) "zip" := ⟨_, hz, rfl⟩
  unfold pyNext
  refine wpAny_bind (wpAny_attempt (wpAny_callSpecial?_slot (name := Str.ofString "__next__") hT F.slot_zip_next (wpAny_call_entry F.slot_zip_next hT F.entry_zip_next ?_ (F.args_zip_next_1 _))))
  exact over hh D hz hTI hTO p1 p2 g fun h' e k ⟨o, ho, hc⟩ => wpAny_bind (wpAny_isInstance (T := "StopIteration") (b := true) ⟨o, ho, hc⟩ isSubtype_stop (wpAny_pure (hQ _ k)))
end
/-! ### zip(a, b) is made -/
def kn : Bool → String | true => "tuple_iterator" | false => "list_iterator"
def Sq : Bool → Heap → Addr → Array Value → Prop | true => Heap.IsTuple | false => Heap.IsList
abbrev m1 (b1 : Bool) (h : Heap) (l1 : Addr) : Heap := h.push { cls := .type (kn b1), data := .fields #[.ref l1, .int 0 0] }
abbrev m2 (b1 b2 : Bool) (h : Heap) (l1 l2 : Addr) : Heap := (m1 b1 h l1).push { cls := .type (kn b2), data := .fields #[.ref l2, .int 0 0] }
abbrev m3 (b1 b2 : Bool) (h : Heap) (l1 l2 : Addr) : Heap := (m2 b1 b2 h l1 l2).push { cls := .type "tuple", data := .seq #[.ref h.objs.size, .ref (m1 b1 h l1).objs.size] }
abbrev m4 (b1 b2 : Bool) (h : Heap) (l1 l2 : Addr) : Heap := (m3 b1 b2 h l1 l2).push { cls := .type "tuple", data := .seq #[.none, .none] }
abbrev m5 (b1 b2 : Bool) (h : Heap) (l1 l2 : Addr) : Heap := (m4 b1 b2 h l1 l2).push { cls := .type "zip", data := .fields #[.none, .bool false, .bool false, .ref (m2 b1 b2 h l1 l2).objs.size, .ref (m3 b1 b2 h l1 l2).objs.size] }
theorem made (b b2 : Bool) (l1 l2 : Addr) (xs ys : Array Value) : Meets (Builtin.«zip.__new__» ⟨[.type "zip", .ref l1, .ref l2], []⟩) (fun _ R s => Sq b s.heap l1 xs ∧ Sq b2 s.heap l2 ys ∧
    R (.ok (.ret (.ref (m4 b b2 s.heap l1 l2).objs.size))) { s with heap := m5 b b2 s.heap l1 l2 }) :=
  match b, b2 with
  | true, true => meets_zipT_new l1 l2 xs ys
  | false, false => meets_zip_new l1 l2 xs ys
  | true, false => .of_wp fun prog w A R s h => by
    obtain ⟨hp, g, d, tk, os⟩ := s
    obtain ⟨q1, q2, h⟩ := h
    have sub := sub_zip
    have a1 : Heap.IsTuple (Shared.heap ⟨hp, g, d, tk, os⟩) l1 xs := q1
    have a2 : Heap.IsList (Shared.heap ⟨hp.push { cls := .type "tuple_iterator", data := .fields #[.ref l1, .int 0 0] }, g, d, tk, os⟩) l2 ys := Heap.IsList.push q2 _
    wp_walk using wpAny_pyIter_tuple a1, wpAny_pyIter_list a2
    exact ⟨_, rfl, h⟩
  | false, true => .of_wp fun prog w A R s h => by
    obtain ⟨hp, g, d, tk, os⟩ := s
    obtain ⟨q1, q2, h⟩ := h
    have sub := sub_zip
    have a1 : Heap.IsList (Shared.heap ⟨hp, g, d, tk, os⟩) l1 xs := q1
    have a2 : Heap.IsTuple (Shared.heap ⟨hp.push { cls := .type "list_iterator", data := .fields #[.ref l1, .int 0 0] }, g, d, tk, os⟩) l2 ys := Heap.IsTuple.push q2 _
    wp_walk using wpAny_pyIter_list a1, wpAny_pyIter_tuple a2
    exact ⟨_, rfl, h⟩
/-- an iterator, and what it goes over -/
def Itr : Bool → Addr → Addr → Nat → Heap → Prop | true => fun i l k h => h.IsTupleIter i l k | false => fun i l k h => h.IsListIter i l k
theorem St.mk : ∀ {b : Bool} {i l : Addr} {xs : Array Value} {k : Nat} {h : Heap}, Itr b i l k h → Sq b h l xs → St b i l xs k h | true, _, _, _, _, _, p, q => ⟨p, q⟩ | false, _, _, _, _, _, p, q => ⟨p, q⟩
theorem St.itr : ∀ {b : Bool} {i l : Addr} {xs : Array Value} {k : Nat} {h : Heap}, St b i l xs k h → Itr b i l k h | true, _, _, _, _, _, p => p.1 | false, _, _, _, _, _, p => p.1
theorem Itr.at : ∀ {b : Bool} {i l : Addr} {k : Nat} {h h' : Heap}, Itr b i l k h → (∀ o, h.get? i = some o → h'.get? i = some o) → Itr b i l k h'
  | true, _, _, _, _, _, p, e => Heap.IsTupleIter.at p e
  | false, _, _, _, _, _, p, e => Heap.IsListIter.at p e
theorem Itr.obj : ∀ {b : Bool} {i l : Addr} {k : Nat} {h : Heap}, Itr b i l k h → ∃ o, h.get? i = some o ∧ ∀ v, o.data ≠ .cell v
  | true, _, _, _, _, ⟨o, e, _, d⟩ => ⟨o, e, fun v q => by rw [d] at q; cases q⟩
  | false, _, _, _, _, ⟨o, e, _, d⟩ => ⟨o, e, fun v q => by rw [d] at q; cases q⟩
section
variable {prog : Program} {w : World} {A : Around} {E : Value → Shared → Prop} {s : Shared}
theorem call_mixed (b b2 : Bool) {l1 l2 : Addr} {xs ys : Array Value} {Q : Value → Shared → Prop} (q1 : Sq b s.heap l1 xs) (q2 : Sq b2 s.heap l2 ys)
    (h : ∀ h', IsZip h' (s.heap.objs.size + 4) (s.heap.objs.size + 2) (s.heap.objs.size + 3) .none → IsPair h' (s.heap.objs.size + 2) (.ref s.heap.objs.size) (.ref (s.heap.objs.size + 1)) →
      IsPair h' (s.heap.objs.size + 3) .none .none → Itr b s.heap.objs.size l1 0 h' → Itr b2 (s.heap.objs.size + 1) l2 0 h' → (∀ c o, s.heap.get? c = some o → h'.get? c = some o) → Q (.ref (s.heap.objs.size + 4)) { s with heap := h' }) :
    wpAny (model prog w) A (call (.type "zip") [.ref l1, .ref l2]) Q E s := by
  refine callType_new F.called_zip (by decide) (F.typeCall_zip_2 _ _) (F.newCall_zip_2 _ _) (fun obj => F.args_object_init_3 obj _ _) F.entry_zip_new (made b b2 l1 l2 xs ys) ⟨q1, q2, ?_⟩
  generalize hN : s.heap.objs.size = N at h ⊢
  have e1 : (m1 b s.heap l1).objs.size = N + 1 := by rw [Heap.size_push, hN]
  have e2 : (m2 b b2 s.heap l1 l2).objs.size = N + 2 := by rw [Heap.size_push, e1]
  have e3 : (m3 b b2 s.heap l1 l2).objs.size = N + 3 := by rw [Heap.size_push, e2]
  have e4 : (m4 b b2 s.heap l1 l2).objs.size = N + 4 := by rw [Heap.size_push, e3]
  have up (c : Addr) (o : Obj) (e : (m1 b s.heap l1).get? c = some o) : (m5 b b2 s.heap l1 l2).get? c = some o :=
    Heap.get?_push_of_some _ (Heap.get?_push_of_some _ (Heap.get?_push_of_some _ (Heap.get?_push_of_some _ e)))
  have o1 : (m5 b b2 s.heap l1 l2).get? N = some { cls := .type (kn b), data := .fields #[.ref l1, .int 0 0] } := up _ _ (by rw [← hN]; exact Heap.get?_push_size _ rfl)
  have o2 : (m5 b b2 s.heap l1 l2).get? (N + 1) = some { cls := .type (kn b2), data := .fields #[.ref l2, .int 0 0] } := by
    rw [← e1]; exact Heap.get?_push_of_some _ (Heap.get?_push_of_some _ (Heap.get?_push_of_some _ (Heap.get?_push_size _ rfl)))
  have o3 : IsPair (m5 b b2 s.heap l1 l2) (m2 b b2 s.heap l1 l2).objs.size (.ref s.heap.objs.size) (.ref (m1 b s.heap l1).objs.size) := Heap.get?_push_of_some _ (Heap.get?_push_of_some _ (Heap.get?_push_size _ rfl))
  rw [e2, e1, hN] at o3
  have o4 : IsPair (m5 b b2 s.heap l1 l2) (m3 b b2 s.heap l1 l2).objs.size .none .none := Heap.get?_push_of_some _ (Heap.get?_push_size _ rfl)
  rw [e3] at o4
  have o5 : IsZip (m5 b b2 s.heap l1 l2) (m4 b b2 s.heap l1 l2).objs.size (m2 b b2 s.heap l1 l2).objs.size (m3 b b2 s.heap l1 l2).objs.size .none := Heap.get?_push_size _ rfl
  rw [e4, e2, e3] at o5
  show _ ∧ _
  rw [e4]
  refine ⟨⟨_, o5, rfl⟩, h _ o5 o3 o4 ?_ ?_ fun c o e => up c o (Heap.get?_push_of_some _ e)⟩
  · cases b
    · exact ⟨_, o1, rfl, rfl⟩
    · exact ⟨_, o1, rfl, rfl⟩
  · cases b2
    · exact ⟨_, o2, rfl, rfl⟩
    · exact ⟨_, o2, rfl, rfl⟩
end
/-! ### a turn, for the walk -/
def SqB : Bool → PySem.W.Frag → Hp → Addr → List V → Prop | true => SqT | false => SqL
theorem SqB.inj {X : Cx} {pins : List (Addr × Obj)} {σ : L2.St} {H : Hp} {s : Shared} (I : Inv X pins σ H s) : ∀ {b : Bool} {a : Addr} {xs ys : List V}, SqB b X.K H a xs → SqB b X.K H a ys → xs = ys
  | true, _, _, _, p, q => I.tuple_inj p q
  | false, _, _, _, p, q => I.list_inj p q
theorem SqB.get {X : Cx} {pins : List (Addr × Obj)} {σ : L2.St} {H : Hp} {s : Shared} (I : Inv X pins σ H s) : ∀ {b : Bool} {a : Addr} {xs : List V}, SqB b X.K H a xs → ∃ its : List Value, Vals xs its ∧ Sq b s.heap a its.toArray
  | true, _, _, p => let ⟨its, r, t, _⟩ := I.tuple p; ⟨its, r, t⟩
  | false, _, _, p => let ⟨its, r, t, _⟩ := I.list p; ⟨its, r, t.isList⟩
/-- what zip of the one at a and the other at c gives: the items in new pairs -/
def Itm (b b2 : Bool) (K : PySem.W.Frag) (a c : Addr) : L2.It where
  go i H := ∃ (xs ys : List V) (x y : V), SqB b K H a xs ∧ SqB b2 K H c ys ∧ xs[i]? = some x ∧ ys[i]? = some y
  yld i H v H' := ∃ T x y, v = .ref T ∧ H T = none ∧ H' = upd H T (.tup [x, y]) ∧ (∀ xs, SqB b K H a xs → xs[i]? = some x) ∧ ∀ ys, SqB b2 K H c ys → ys[i]? = some y
  stop i H := ∃ xs ys : List V, SqB b K H a xs ∧ SqB b2 K H c ys ∧ (xs.length ≤ i ∨ ys.length ≤ i)
theorem five {z TI TO i1 i2 c : Addr} {P : Addr → Prop} (h : c ∈ [z, TI, TO, i1, i2]) (a1 : P z) (a2 : P TI) (a3 : P TO) (a4 : P i1) (a5 : P i2) : P c := by
  simp only [List.mem_cons, List.not_mem_nil, or_false] at h
  rcases h with q | q | q | q | q <;> (subst q; assumption)
theorem not5 {z TI TO i1 i2 c : Addr} (h : c ∉ [z, TI, TO, i1, i2]) : c ≠ z ∧ c ≠ TO ∧ c ≠ i1 ∧ c ≠ i2 := by
  simp only [List.mem_cons, List.not_mem_nil, or_false, not_or] at h
  exact ⟨h.1, h.2.2.1, h.2.2.2.1, h.2.2.2.2⟩
def Tz (b b2 : Bool) (a c z TI TO i1 i2 : Addr) (i : Nat) (h : Heap) : Prop := IsZip h z TI TO .none ∧ IsPair h TI (.ref i1) (.ref i2) ∧ (∃ x y, IsPair h TO x y) ∧ Itr b i1 a i h ∧ Itr b2 i2 c i h
theorem turn_mixed {P : Program} {w : World} {K : PySem.W.Frag} {elts : List Expr} {kk : Nat} {tpos : Pos} (b b2 : Bool) {a c z TI TO i1 i2 : Addr} (D : ZipApart z TI TO i1 i2 a c) :
    Turn P w K (.Tuple elts kk tpos) (Itm b b2 K a c) [z, TI, TO, i1, i2] z (Tz b b2 a c z TI TO i1 i2) where
  mem := List.mem_cons_self
  self := fun _ _ _ _ _ t h => wpAny_pyIter_zip t.1 h
  obj := fun _ _ ⟨hz, hTI, ⟨x, y, hTO⟩, h1, h2⟩ _ hc => five (P := fun d => ∃ o, Heap.get? _ d = some o ∧ ∀ v, o.data ≠ .cell v) hc ⟨_, hz, fun _ q => nomatch q⟩ ⟨_, hTI, fun _ q => nomatch q⟩ ⟨_, hTO, fun _ q => nomatch q⟩ h1.obj h2.obj
  keep := fun _ _ _ ⟨hz, hTI, ⟨x, y, hTO⟩, h1, h2⟩ k => ⟨k z (by simp) _ hz, k TI (by simp) _ hTI, ⟨x, y, k TO (by simp) _ hTO⟩, h1.at (k i1 (by simp)), h2.at (k i2 (by simp))⟩
  done := by
    rintro X rfl rfl rfl hcalm i pins s σ H E I free ⟨hz, hTI, ⟨x0, y0, hTO⟩, h1, h2⟩ ⟨xs, ys, q1, q2, en⟩
    obtain ⟨us, r1, t1⟩ := q1.get I
    obtain ⟨vs, r2, t2⟩ := q2.get I
    have n1 := r1.length
    have n2 := r2.length
    have g : Over i1 a (St b i1 a us.toArray i) ∨ Gives i1 a (St b i1 a us.toArray i) (St b i1 a us.toArray (i + 1)) (us.toArray.getD i .none) ∧ Over i2 c (St b2 i2 c vs.toArray i) := by
      by_cases lt : i < us.length
      · have e2 : vs.toArray[i]? = none := by simp; omega
        refine .inr ⟨St.gives b D.l1i1.symm ?_, St.over b2 e2⟩
        rw [Array.getD_eq_getD_getElem?, Array.getElem?_eq_getElem (by simpa using lt)]; rfl
      · exact .inl (St.over b (by simp; omega))
    exact next_over (I.ok.hd hcalm) D hz hTI hTO (St.mk h1 t1) (St.mk h2 t2) g fun h' k => ⟨rfl, I.turnedL (t' := s.toks) (ch := [z, TI, TO, i1, i2]) (fun d o hb q => k d o (not5 hb).1 (not5 hb).2.1 (not5 hb).2.2.1 (not5 hb).2.2.2 q) free⟩
  item := by
    rintro X rfl rfl rfl hcalm i pins s σ H E I free ⟨hz, hTI, ⟨x0, y0, hTO⟩, h1, h2⟩ ⟨xs, ys, x, y, q1, q2, hx, hy⟩
    obtain ⟨us, r1, t1⟩ := q1.get I
    obtain ⟨vs, r2, t2⟩ := q2.get I
    obtain ⟨u, hu, ru⟩ := r1.get hx
    obtain ⟨v, hv, rv⟩ := r2.get hy
    refine next_gives D hz hTI hTO (St.gives b D.l1i1.symm (by simpa using hu)) (St.gives b2 D.l2i2.symm (by simpa using hv)) (St.mk h1 t1) (St.mk h2 t2) fun h' z' o' p1 p2 hT _ k => ⟨_, rfl, ?_⟩
    refine wpAny_letOwnedTupleGo_zip (s := { s with heap := h' }) z' fun h'' z'' sb => ?_
    have lz : z < s.heap.objs.size := Heap.lt_size hz
    have T2 : h''.get? s.heap.objs.size = some { cls := .type "tuple", data := .seq #[u, v] } := (sb.2 _ (Nat.ne_of_gt lz)).trans hT
    have ok : ObjOk X.prog X.w (upd H s.heap.objs.size (.tup [x, y])) h'' s.heap.objs.size (.tup [x, y]) := ⟨by show 2 ≤ sizeLine; decide, [u, v], .cons ru (.cons rv .nil), ⟨_, T2, rfl, _, rfl⟩⟩
    have I1 : Inv X pins σ (upd H s.heap.objs.size (.tup [x, y])) { s with heap := h'' } :=
      I.turnedNew (t' := s.toks) (ch := [z, TI, TO, i1, i2]) (fun d o hb q => (sb.2 d (not5 hb).1).trans (k d o (not5 hb).1 (not5 hb).2.1 (not5 hb).2.2.1 (not5 hb).2.2.2 q)) free (Nat.le_refl _) ok
    obtain ⟨oa, ea, _⟩ := h1.obj
    obtain ⟨ob, eb, _⟩ := h2.obj
    refine ⟨.ref s.heap.objs.size, _, I1, rfl, ⟨_, x, y, rfl, I.hok.fresh (Nat.le_refl _), rfl, fun l hl => by rw [SqB.inj I hl q1]; exact hx, fun l hl => by rw [SqB.inj I hl q2]; exact hy⟩,
      ⟨z'', (sb.2 _ D.TIz).trans (k _ _ D.TIz D.TITO D.TIi1 D.TIi2 hTI), ⟨u, v, (sb.2 _ D.TOz).trans o'⟩, p1.itr.at fun o q => (sb.2 _ D.i1z).trans q, p2.itr.at fun o q => (sb.2 _ D.i2z).trans q⟩, fun d hd => ?_⟩
    have lt : d < s.heap.objs.size := five (P := fun d => d < s.heap.objs.size) hd lz (Heap.lt_size hTI) (Heap.lt_size hTO) (Heap.lt_size ea) (Heap.lt_size eb)
    rw [upd_ne (Nat.ne_of_lt lt)]
    exact (free d hd).1
def iZipM (K : PySem.W.Frag) (ta : TA) : TI := fun σ H R => ta σ H fun vs H1 => ∃ (b b2 : Bool) (a c : Addr) (xs ys : List V), vs = [.ref a, .ref c] ∧ SqB b K H1 a xs ∧ SqB b2 K H1 c ys ∧ R (Itm b b2 K a c) H1
theorem pi_zipM {X : Cx} {e e2 : Expr} {ta : TA} {p pos tpos : Pos} {elts : List Expr} {kk : Nat} (hg : Gl X "zip") (hm : X.mg "zip" = none) (ha : PA X [e, e2] ta)
    (hs : starEach [e, e2] X.env = (false, eval e X.env) :: starEach [e2] X.env := by rfl) (hpl : (backTo pos (starEach [e2] X.env)).any (·.1) = false := by rfl) :
    PI X (.Tuple elts kk tpos) (.Call (.Name "zip" p) [e, e2] [] pos) (iZipM X.K ta) where
  run pins s σ H R I h := by
    refine Call_ (ld_blt I hg hm PyProof.Rows.boot_zip (PyProof.Rows.callWith_type1 (thn (ha.run pos pins s σ H _ I h) fun us s1 ⟨vs, H1, I1, r1, b, b2, a, c, xs, ys, ev, q1, q2, q⟩ => ?_) hs hpl))
    subst ev
    obtain ⟨v, us', rfl, ra, r1⟩ : ∃ v us', us = v :: us' ∧ RelV (.ref a) v ∧ Vals [.ref c] us' := by cases r1 with | cons r rr => exact ⟨_, _, rfl, r, rr⟩
    obtain ⟨v2, rfl, rc⟩ : ∃ v, us' = [v] ∧ RelV (.ref c) v := by cases r1 with | cons r rr => cases rr; exact ⟨_, rfl, r⟩
    cases ra
    cases rc
    obtain ⟨us, _, t1⟩ := q1.get I1
    obtain ⟨vs, _, t2⟩ := q2.get I1
    have lt : ∀ {b : Bool} {d : Addr} {zs : Array Value}, Sq b s1.heap d zs → d < s1.heap.objs.size := fun {b d zs} t => by
      cases b with
      | true => obtain ⟨o, e, _⟩ := t; exact Heap.lt_size e
      | false => obtain ⟨o, e, _⟩ := t; exact Heap.lt_size e
    refine call_mixed b b2 t1 t2 fun h' hz hTI hTO h1 h2 k => wpAny_pyIter_zip hz ?_
    have new : ∀ d, s1.heap.objs.size ≤ d → FpOk X pins H1 d := fun d le => I1.fpOk le (I1.hok.fresh le)
    exact ⟨s1.heap.objs.size + 4, _, Tz b b2 a c _ _ _ _ _, _, H1, rfl, I1.kept (t' := s1.toks) k, turn_mixed b b2 (PySem.W.ktu_apart s1.heap.objs.size a c (lt t1) (lt t2)), ⟨hz, hTI, ⟨_, _, hTO⟩, h1, h2⟩,
      fun d hd => five (P := fun d => FpOk X pins H1 d) hd (new _ (Nat.le_add_right ..)) (new _ (Nat.le_add_right ..)) (new _ (Nat.le_add_right ..)) (new _ (Nat.le_refl _)) (new _ (Nat.le_add_right ..)), q⟩
end ZM

namespace DL
open PySem L2
section
variable {m : Bool} {X : Cx} {C : CA} {c : Cs} {e a b b2 : Expr} {es : List Expr} {fa : AF} {f g h : EF} {pos p : Pos} {x : Str}
/-! ### {} -/
def oDi0 : OF := fun env => some (.dic [], env)
theorem do_dnew : DO X C c (.Dict [] [] pos) oDi0 := by
  refine PE.imp pe_dnewK fun σ H Q ⟨z, F, env, d, env', S, e, k⟩ => ?_
  cases e
  intro p hp
  obtain ⟨S2, fp, zp, ap, ng⟩ := S.newO (o := .dK []) hp
  exact k p F _ (Same.refl _) S2 fp zp ⟨[], upd_same, .nil⟩ ap ng
/-! ### a < b < c -/
def fCh (o o' : D → D → Option D) (f g h : EF) : EF := fun env => (f env).bind fun p => (g p.2).bind fun q => (rdB q.2 p.1).bind fun x => (rdB q.2 q.1).bind fun y => (o x y).bind fun d => (isB d).bind fun k => if k = true then (h q.2).bind fun r => (rdB r.2 q.1).bind fun y' => (rdB r.2 r.1).bind fun w => (o' y' w).bind fun d' => some (.val d', r.2) else some (.val (.bl false), q.2)
theorem isB_some {d : D} {k : Bool} (h : isB d = some k) : d = .bl k := by
  cases d <;> cases h
  rfl
theorem rp_bl {K : PySem.W.Frag} {F : Hp} {v : V} {k : Bool} (h : Rp K C F v (.bl k)) : v = .bl k := by cases h; rfl
theorem de_chain {op op' : CmpOp} {o o' : D → D → Option D} (ho : OpD X C (compareOp op) o) (ho' : OpD X C (compareOp op') o') (ha : DE X C c a f) (hb : DE X C c b g) (hc : DE X C c b2 h) (hm : lastMarks [op, op'] [b, b2] = false := by with_unfolding_all rfl) :
    DE X C c (.Compare a [op, op'] [b, b2] pos) (fCh o o' f g h) := by
  obtain ⟨r, hr, hw⟩ := ho
  obtain ⟨r', hr', hw'⟩ := ho'
  refine PE.imp (pe_chain hr hr' ha hb hc hm) fun σ H Q ⟨z, F, env, b, env', S, e, k⟩ => ?_
  simp only [fCh, Option.bind_eq_some_iff] at e
  obtain ⟨⟨b1, e1⟩, h1, ⟨b2, e2⟩, h2, x, hx, y, hy, d, hd, kk, hk, e⟩ := e
  have dk := isB_some hk
  subst dk
  refine ⟨z, F, env, b1, e1, S, h1, fun v F1 H1 s1 S1 r1 => ⟨z, F1, e1, b2, e2, S1, h2, fun w F2 H2 s2 S2 r2 => 
    hw F2 H2 v w x y _ _ S2.sub ((r1.mono s2).rb S2 hx) (r2.rb S2 hy) hd fun u F3 H3 ex ru => ⟨kk, rp_bl ru, ?_⟩⟩⟩
  have S3 := S2.ext ex
  cases kk with
  | false =>
    simp only [Bool.false_eq_true, if_false] at e ⊢
    cases e
    exact k _ F3 H3 (s1.trans (s2.trans ex.sub)) S3 (.bl false)
  | true =>
    simp only [if_true, Option.bind_eq_some_iff] at e ⊢
    obtain ⟨⟨b3, e3⟩, h3, y', hy', w', hw3, d', hd', e⟩ := e
    cases e
    exact ⟨z, F3, e2, b3, e3, S3, h3, fun w2 F4 H4 s4 S4 r4 => hw' F4 H4 w w2 y' w' d' Q S4.sub (((r2.mono ex.sub).mono s4).rb S4 hy') (r4.rb S4 hw3) hd' fun u F5 H5 ex5 ru5 => k u F5 H5 (s1.trans (s2.trans (ex.sub.trans (s4.trans ex5.sub)))) (S4.ext ex5) ru5⟩
/-! ### zip -/
def zipL : List D → List D → List D
  | x :: xs, y :: ys => .tup [x, y] :: zipL xs ys
  | _, _ => []
theorem zipL_length : ∀ xs ys : List D, (zipL xs ys).length = min xs.length ys.length
  | [], ys => by simp [zipL]
  | x :: xs, [] => by simp [zipL]
  | x :: xs, y :: ys => by simp [zipL, zipL_length xs ys]
theorem zipL_get : ∀ {xs ys : List D} {i : Nat} {x y : D}, xs[i]? = some x → ys[i]? = some y → (zipL xs ys)[i]? = some (.tup [x, y])
  | [], _, i, x, y, e, _ => by simp at e
  | x :: xs, [], i, _, y, _, e => by simp at e
  | x :: xs, y :: ys, 0, _, _, e1, e2 => by simp at e1 e2; subst e1 e2; rfl
  | x :: xs, y :: ys, i + 1, _, _, e1, e2 => by simpa [zipL] using zipL_get (by simpa using e1) (by simpa using e2)
theorem wk_zipM {K : PySem.W.Frag} {F : Hp} {b b2 : Bool} {a c : Addr} {vs ws : List V} {ds es : List D} (h : ∀ F' H, Same F F' → Same F' H → ZM.SqB b K H a vs) (hl : vs.length ≤ sizeLine) (r : RpAll K C F vs ds) (h' : ∀ F' H, Same F F' → Same F' H → ZM.SqB b2 K H c ws) (r' : RpAll K C F ws es) : Wk K C (ZM.Itm b b2 K a c) F (zipL ds es) := by
  have el := zipL_length ds es
  have l1 := r.length
  have l2 := r'.length
  refine ⟨fun i F' H s1 s2 hi => ?_, fun F' H s1 s2 => ⟨vs, ws, h _ _ s1 s2, h' _ _ s1 s2, by rw [el]; omega⟩, fun i F' H x H' s1 s2 hi y => ?_, by rw [el]; omega⟩
  · rw [el] at hi
    exact ⟨vs, ws, vs[i]'(by omega), ws[i]'(by omega), h _ _ s1 s2, h' _ _ s1 s2, by simp, by simp⟩
  · obtain ⟨T, x', y', rfl, hT, rfl, g1, g2⟩ := y
    obtain ⟨d, hd, rd⟩ := r.get (g1 vs (h _ _ s1 s2))
    obtain ⟨d2, hd2, rd2⟩ := r'.get (g2 ws (h' _ _ s1 s2))
    have ex : Ext F' H (upd F' T (.tup [x', y'])) (upd H T (.tup [x', y'])) := Ext.laid s2 hT
    exact ⟨_, _, ex, zipL_get hd hd2, .tup (SqT.of upd_same) (by rw [sizeLine_eq]; show 2 ≤ 16777216; decide) (.cons (rd.mono (s1.trans ex.sub)) (.one (rd2.mono (s1.trans ex.sub))))⟩
/-- a list or a tuple -/
def itemsD : D → Option (List D)
  | .lst xs => some xs
  | .tup xs => some xs
  | _ => none
theorem sq_of {K : PySem.W.Frag} {F : Hp} {v : V} {d : D} {ds : List D} (r : Rp K C F v d) (e : itemsD d = some ds) : ∃ (b : Bool) (a : Addr) (vs : List V), v = .ref a ∧ (∀ F' H, Same F F' → Same F' H → ZM.SqB b K H a vs) ∧ vs.length ≤ sizeLine ∧ RpAll K C F vs ds := by
  unfold itemsD at e
  split at e
  · cases e
    cases r with
    | lst q ql r => exact ⟨false, _, _, rfl, fun _ _ s1 s2 => SqL.of (s2 _ _ (s1 _ _ q)), ql, r⟩
  · cases e
    cases r with
    | tup q ql r => exact ⟨true, _, _, rfl, fun _ _ s1 s2 => SqT.sub s2 (SqT.sub s1 q), ql, r⟩
  · cases e
def zipD : List D → Option (List D)
  | [x, y] => (itemsD x).bind fun xs => (itemsD y).bind fun ys => some (zipL xs ys)
  | _ => none
def iZ (fa : AF) : IF := fun env => (fa env).bind fun p => (vals p.1).bind fun ds => (zipD ds).bind fun xs => some (xs, p.2)
theorem di_zip {elts : List Expr} {kk : Nat} {tpos : Pos} (hm : X.mg "zip" = none) (ha : DA X C c [a, b] fa) (hg : Gl X "zip" := by rfl) (hs : starEach [a, b] X.env = (false, eval a X.env) :: starEach [b] X.env := by rfl) (hpl : (backTo pos (starEach [b] X.env)).any (·.1) = false := by rfl) :
    DI X C c (.Tuple elts kk tpos) (.Call (.Name "zip" p) [a, b] [] pos) (iZ fa) := by
  refine PI.imp (ZM.pi_zipM hg hm ha hs hpl) fun σ H R ⟨z, F, env, ds, env', S, e, k⟩ => ?_
  simp only [iZ, Option.bind_eq_some_iff] at e
  obtain ⟨⟨bs, e1⟩, h1, vds, h2, xs, h3, e⟩ := e
  cases e
  refine ⟨z, F, env, bs, e1, S, h1, fun vs F1 H1 s1 S1 r1 => ?_⟩
  have rp := vals_rp r1 h2
  unfold zipD at h3
  split at h3
  · simp only [Option.bind_eq_some_iff] at h3
    obtain ⟨xs', e1, ys', e2, e3⟩ := h3
    cases e3
    match vs, rp with
    | [v, w], .cons r1 (.cons r2 .nil) =>
      obtain ⟨b1, a1, vs1, rfl, q1, l1, p1⟩ := sq_of r1 e1
      obtain ⟨b2, a2, vs2, rfl, q2, l2, p2⟩ := sq_of r2 e2
      exact ⟨b1, b2, a1, a2, _, _, rfl, q1 _ _ (fun _ _ q => q) S1.sub, q2 _ _ (fun _ _ q => q) S1.sub, k _ F1 H1 s1 S1 (wk_zipM q1 l1 p1 q2 p2)⟩
  · cases h3
/-! ### for v in d.values() -/
def iVs (f : EF) : IF := fun env => (f env).bind fun p => match p.1 with
  | .val (.dic ks) => gd ks.length (some (ks.map (·.2), p.2))
  | _ => none
theorem wk_vals {K : PySem.W.Frag} {F : Hp} {a : Addr} {od : Obj} {kvs : List (Key × V)} {ks : List (Key × D)} (h : F a = some (.frz od (.dK kvs))) (hl : ks.length ≤ sizeLine) (r : RpKV K C F kvs ks) : Wk K C (Itd a od kvs) F (ks.map (·.2)) := by
  have ln := r.len
  refine ⟨fun i F' H s1 s2 hi => ⟨s2 _ _ (s1 _ _ h), by rw [ln]; simpa using hi⟩, fun F' H s1 s2 => ⟨s2 _ _ (s1 _ _ h), by rw [ln]; simp⟩, fun i F' H x H' s1 s2 hi y => ?_, by simpa using hl⟩
  obtain ⟨rfl, k, hk⟩ := y
  obtain ⟨d, hd, rd⟩ := r.at hk
  exact ⟨F', d, Ext.rfl' s2, by simp [hd], rd.mono s1⟩
theorem di_values {tg : Expr} {apos cpos : Pos} (he : DE X C c e f) (hbase : attributeBase e "values" X.env (eval e X.env) = eval e X.env := by rfl) (hline : (apos.endLine == cpos.line) = true := by rfl) : DI X C c tg (.Call (.Attribute e "values" apos) [] [] cpos) (iVs f) := by
  refine PI.imp (pi_values he hbase hline) fun σ H R ⟨z, F, env, ds, env', S, e, k⟩ => ?_
  simp only [iVs, Option.bind_eq_some_iff] at e
  obtain ⟨⟨b, e1⟩, h1, e⟩ := e
  cases b with
  | slot _ => cases e
  | val d =>
    cases d <;> try (cases e; done)
    next ks =>
    obtain ⟨hl, e⟩ := gd_some e
    cases e
    refine ⟨z, F, env, _, e1, S, h1, fun v F1 H1 s1 S1 r1 => ?_⟩
    cases r1 with
    | dic q r => exact ⟨_, _, _, rfl, S1.sub _ _ q, k _ F1 H1 s1 S1 (wk_vals q hl r)⟩
/-! ### d.get(k, x) -/
def fGet (fd fk fx : EF) : EF := fun env => (fd env).bind fun p => (rdB p.2 p.1).bind fun d0 => (fk p.2).bind fun q => (fx q.2).bind fun r => (rdB r.2 p.1).bind fun d => (rdB r.2 q.1).bind fun kd => (keyD kd).bind fun k => match d0 with
  | .dic _ => (match d with
    | .dic ks => (match lookD ks k with
      | some v => some (.val v, r.2)
      | none => (match r.1 with
        | .val v => some (.val v, r.2)
        | .slot _ => none))
    | _ => none)
  | _ => none
theorem de_get {o k0 x0 : Expr} {apos cpos : Pos} {fd fk fx : EF} (hu : X.A.units + 64 < cLine) (ho : DE X C c o fd) (hk : DE X C c k0 fk) (hx : DE X C c x0 fx) (mm : M2 X o "get" apos k0 x0 cpos) : DE X C c (.Call (.Attribute o "get" apos) [k0, x0] [] cpos) (fGet fd fk fx) := by
  refine PE.imp (pe_dget2 (by omega) ho hk hx mm) fun σ H Q ⟨z, F, env, b, env', S, e, k⟩ => ?_
  simp only [fGet, Option.bind_eq_some_iff] at e
  obtain ⟨⟨b1, e1⟩, h1, d0, h0, ⟨b2, e2⟩, h2, ⟨b3, e3⟩, h3, d, hd, kd, hkd, kk, hkk, e⟩ := e
  refine ⟨z, F, env, b1, e1, S, h1, fun v F1 H1 s1 S1 r1 => ?_⟩
  cases d0 <;> try (cases e; done)
  next ks0 =>
  obtain ⟨a, kvs, rfl, rd, rk⟩ := (r1.rb S1 h0).dic S1.sub
  refine ⟨a, rfl, .inl ⟨kvs, rd⟩, z, F1, e1, b2, e2, S1, h2, fun y F2 H2 s2 S2 r2 => ⟨z, F2, e2, b3, e3, S2, h3, fun w F3 H3 s3 S3 r3 => ?_⟩⟩
  cases d <;> try (cases e; done)
  next ks =>
  obtain ⟨a', kvs', ea, rd', rk'⟩ := ((r1.mono (s2.trans s3)).rb S3 hd).dic S3.sub
  cases ea
  have hy := keyD_v ((r2.mono s3).rb S3 hkd) hkk
  refine ⟨valV kvs' kk, .inl ⟨kvs', kk, rd', hy, rfl⟩, ?_⟩
  rcases rk'.look kk with ⟨q1, q2⟩ | ⟨v', d', q1, q2, q3⟩
  · simp only [q2] at e
    rw [q1]
    cases b3 with
    | slot _ => cases e
    | val dv =>
      cases e
      exact k _ F3 H3 (s1.trans (s2.trans s3)) S3 r3
  · simp only [q2] at e
    rw [q1]
    cases e
    exact k _ F3 H3 (s1.trans (s2.trans s3)) S3 q3
end
end DL

namespace L2
open PySem PySem.Spec PyProof.Rows PySem.W
section
variable {prog : Program} {w : World} {A : Around} {E : Value → Shared → Prop} {s : Shared} {r d : Addr} {n : Nat} {P : Nat → Value → Prop} {OK : Heap → Prop}
/-- tuple(d), d a dict: a new tuple of its keys -/
theorem tuple_of_dict {Q : Value → Shared → Prop} (S : KdlSrc prog w "dict" r d n P OK) (hh : A.handled = none) (hok : OK s.heap) (hn : n ≤ sizeLine)
    (hQ : ∀ (h' : Heap) (tk : Nat) (acc : Array Value), (∀ b o, s.heap.get? b = some o → h'.get? b = some o) → ItemsOf P acc n → Q (.ref h'.objs.size) { s with heap := h'.push { cls := .type "tuple", data := .seq acc }, toks := tk }) :
    wpAny (model prog w) A (call (.type "tuple") [.ref r]) Q E s := by
  have new : codeAny (model prog w) A.in1 (.call (.builtin "tuple.__new__") ⟨[.type "tuple", .ref r], []⟩) (wants (fun obj s₁ => s₁.TypeIs obj "tuple" ∧ Q obj s₁) E) s := by
    refine codeAny_of_tree ?_
    show wpAny _ A.in1.in1 (do checkBuiltinCall "tuple.__new__" ⟨[.type "tuple", .ref r], []⟩; again (.builtin "tuple.__new__" ⟨[.type "tuple", .ref r], []⟩)) _ _ s
    refine wpAny_bind (wpAny_of_eq (F.newCall_tuple_1 _) (wpAny_pure ⟨plainId_quiet F.plain_tuple_new _, codeAny_builtin F.entry_tuple_new ?_⟩))
    rw [Around.under_plainId F.plain_tuple_new _]
    have hsub := sub_tuple_self
    have hinit := init_tuple_lookup
    have hmh := madeHere_tuple
    have hTI : s.TypeIs (.ref r) "dict" := S.type s hok
    have hh2 : A.in1.in1.handled = none := hh
    wp_walk using wpAny_typeOf hTI, kdu_collect (A := A.in1.in1) S hh2 hok hn
    intro h' tk acc hk hacc
    show wpAny _ _ (Builtin.Tuple.tupleExact acc.toList.toArray >>= fun v => ret v) _ _ _
    unfold Builtin.Tuple.tupleExact
    refine wpAny_bind (wpAny_newObj_type ?_ (by show acc.toList.toArray.size ≤ sizeLine; simp only [Array.toArray_toList]; rw [hacc.1]; exact hn))
    refine wpAny_pure ?_
    have e : acc.toList.toArray = acc := by simp
    rw [e]
    exact ⟨⟨_, Heap.get?_push_size _ rfl, rfl⟩, hQ h' tk acc hk hacc⟩
  refine callType_codes (Q₁ := fun obj s₁ => s₁.TypeIs obj "tuple" ∧ Q obj s₁) F.called_tuple (F.typeCall_tuple_1 _) F.entry_object_init new fun obj s₁ h₁ => ?_
  exact ⟨h₁.1, F.args_object_init_2 obj _, object_init_meets F.called_tuple.init.lookup F.called_tuple.made (by decide) prog w A.in1 _ s₁ ⟨h₁.1, rfl, h₁.2⟩⟩
end
section
variable {X : Cx}
theorem keys_vals {kvs : List (Key × V)} {vs : List (Key × Value)} (rk : KV kvs vs) {acc : Array Value} (ha : ItemsOf (fun i v => ∃ k x, vs[i]? = some (k, x) ∧ (mixKind X.prog X.w).is k v = true) acc vs.length) : Vals (kvs.map fun kv => kV kv.1) acc.toList := by
  have hl : kvs.length = vs.length := Paired.length rk
  have el : acc.toList.length = acc.size := by simp
  refine vals_of_at (by rw [List.length_map, el, ha.1, hl]) fun j x u h1 h2 => ?_
  obtain ⟨k, y, hky, hi⟩ := ha.2 j u (by rw [← Array.getElem?_toList]; exact h2)
  have e1 : (kvs.map (·.1))[j]? = some k := by rw [KV.keys rk, List.getElem?_map, hky] <;> rfl
  have e2 : (kvs.map fun kv => kV kv.1)[j]? = some (kV k) := by
    have e3 : (kvs.map fun kv => kV kv.1) = (kvs.map (·.1)).map kV := by rw [List.map_map] <;> rfl
    rw [e3, List.getElem?_map, e1] <;> rfl
  rw [e2] at h1
  cases h1
  exact keyIs_rel hi
/-- tuple(d), list(d): its keys -/
theorem call_tuple_rd (hc : X.calm = true) : CallR X (.type "tuple") (fun xs H Q => ∃ p kvs, xs = [V.ref p] ∧ Rd H p (.dK kvs) ∧ ∀ q, H q = none → Q (.ref q) (upd H q (.tup (kvs.map fun kv => kV kv.1)))) := by
  intro pins s σ H xs us Q I r h
  obtain ⟨p, kvs, rfl, hk, q⟩ := h
  obtain ⟨u, rfl, rx⟩ := r.one
  obtain rfl : u = Value.ref p := rx
  obtain ⟨z, lo, vs, rk, hd⟩ := (show ObjOk X.prog X.w H s.heap p (.dK kvs) from hk.ok I.hok)
  obtain ⟨ep, hat⟩ := hd.dictAt
  have hl : kvs.length = vs.length := Paired.length rk
  refine tuple_of_dict (kdl_dict (knd := mixKind X.prog X.w) (kvs := vs) (ep := ep) lo) (I.ok.hd hc) hat (by rw [← hl]; exact z) fun h' tk acc hkeep hacc => ?_
  have I1 : Inv X pins σ H { s with heap := h', toks := tk } := I.kept (t' := tk) hkeep
  have I2 : Inv X pins σ (upd H h'.objs.size (.tup (kvs.map fun kv => kV kv.1))) { s with heap := h'.push { cls := .type "tuple", data := .seq acc }, toks := tk } :=
    I1.laid (t' := tk) (fun b o e => Heap.get?_push_of_some _ e) (Nat.le_refl _) (show ObjOk X.prog X.w _ _ _ (.tup _) from ⟨by rw [List.length_map]; exact z, acc.toList, keys_vals rk hacc, by rw [Array.toArray_toList]; exact IsTup.new h' acc⟩)
  exact ⟨.ref h'.objs.size, _, I2, rfl, q _ (I1.hok.fresh (Nat.le_refl _))⟩
theorem call_list_rd (hc : X.calm = true) : CallR X (.type "list") (fun xs H Q => ∃ p kvs, xs = [V.ref p] ∧ Rd H p (.dK kvs) ∧ ∀ q, H q = none → Q (.ref q) (upd H q (.lst (kvs.map fun kv => kV kv.1)))) := by
  intro pins s σ H xs us Q I r h
  obtain ⟨p, kvs, rfl, hk, q⟩ := h
  obtain ⟨u, rfl, rx⟩ := r.one
  obtain rfl : u = Value.ref p := rx
  obtain ⟨z, lo, vs, rk, hd⟩ := (show ObjOk X.prog X.w H s.heap p (.dK kvs) from hk.ok I.hok)
  obtain ⟨ep, hat⟩ := hd.dictAt
  have hl : kvs.length = vs.length := Paired.length rk
  refine kdl_call (kdl_dict (knd := mixKind X.prog X.w) (kvs := vs) (ep := ep) lo) (I.ok.hd hc) hat (by rw [← hl]; exact z) fun h' tk acc c' hkeep hS hacc => ?_
  refine ⟨.ref s.heap.objs.size, _, I.laid (o := .lst (kvs.map fun kv => kV kv.1)) hkeep (Nat.le_refl _) ?_, rfl, q _ (I.hok.fresh (Nat.le_refl _))⟩
  exact ⟨by rw [List.length_map]; exact z, acc.toList, c', keys_vals rk hacc, by rw [Array.toArray_toList]; exact hS⟩
end
end L2
namespace DL
open PySem L2
section
variable {m : Bool} {X : Cx} {C : CA} {c : Cs} {e a b b2 : Expr} {es : List Expr} {fa : AF} {f g h : EF} {pos p : Pos} {x : Str}
theorem rp_keys {K : PySem.W.Frag} {F F' : Hp} : ∀ {kvs : List (Key × V)} {ks : List (Key × D)}, RpKV K C F kvs ks → RpAll K C F' (kvs.map fun kv => kV kv.1) (ks.map fun p => keyVD p.1)
  | _, _, .nil => .nil
  | _, _, .cons _ t => .cons (keyVD_rp _) (rp_keys t)
theorem CallD.or {fv : Value} {o o' : List D → Option D} (h : CallD X C fv o) (h' : CallD X C fv o') : CallD X C fv (fun ds => (o ds).or (o' ds)) := by
  obtain ⟨r, h1, h2⟩ := h
  obtain ⟨r', h1', h2'⟩ := h'
  refine ⟨fun xs H Q => r xs H Q ∨ r' xs H Q, fun pins s σ H xs us Q I v q => q.elim (h1 pins s σ H xs us Q I v) (h1' pins s σ H xs us Q I v), fun F H vs ds d Q s rb e k => ?_⟩
  cases q : o ds with
  | some z => simp only [q, Option.some_or] at e; cases e; exact .inl (h2 F H vs ds d Q s rb q k)
  | none => simp only [q, Option.none_or] at e; exact .inr (h2' F H vs ds d Q s rb e k)
theorem CallO.or {fv : Value} {o o' : List D → Option D} (h : CallO X C fv o) (h' : CallO X C fv o') : CallO X C fv (fun ds => (o ds).or (o' ds)) := by
  obtain ⟨r, h1, h2⟩ := h
  obtain ⟨r', h1', h2'⟩ := h'
  refine ⟨fun xs H Q => r xs H Q ∨ r' xs H Q, fun pins s σ H xs us Q I v q => q.elim (h1 pins s σ H xs us Q I v) (h1' pins s σ H xs us Q I v), fun F H vs ds d Q s rb e k => ?_⟩
  cases q : o ds with
  | some z => simp only [q, Option.some_or] at e; cases e; exact .inl (h2 F H vs ds d Q s rb q k)
  | none => simp only [q, Option.none_or] at e; exact .inr (h2' F H vs ds d Q s rb e k)
def tupleK : List D → Option D
  | [.dic ks] => gd ks.length (some (.tup (ks.map fun p => keyVD p.1)))
  | _ => none
theorem cd_tupleK (hc : X.calm = true) : CallD X C (.type "tuple") tupleK := by
  refine ⟨_, call_tuple_rd hc, fun F H vs ds d Q s rb e k => ?_⟩
  unfold tupleK at e
  split at e
  · obtain ⟨hl, e⟩ := gd_some e
    cases e
    cases rb with
    | cons r1 r2 =>
      cases r2
      obtain ⟨a, kvs, rfl, rd, rk⟩ := r1.dic s
      refine ⟨a, kvs, rfl, rd, fun q hq => ?_⟩
      exact k _ _ _ (Ext.laid s hq) (.tup (SqT.of upd_same) (by rw [List.length_map, rk.len]; exact hl) (rp_keys rk))
  · cases e
def tupleX (ds : List D) : Option D := (tupleD ds).or (tupleK ds)
theorem cd_tupleX (hc : X.calm = true) : CallD X C (.type "tuple") tupleX := cd_tuple.or (cd_tupleK hc)
def listK : List D → Option D
  | [.dic ks] => gd ks.length (some (.lst (ks.map fun p => keyVD p.1)))
  | _ => none
theorem co_listK (hc : X.calm = true) : CallO X C (.type "list") listK := by
  refine ⟨_, call_list_rd hc, fun F H vs ds d Q s rb e k => ?_⟩
  unfold listK at e
  split at e
  · obtain ⟨hl, e⟩ := gd_some e
    cases e
    cases rb with
    | cons r1 r2 =>
      cases r2
      obtain ⟨a, kvs, rfl, rd, rk⟩ := r1.dic s
      refine ⟨a, kvs, rfl, rd, fun q hq => ?_⟩
      exact k q _ hq ⟨_, upd_same, by rw [List.length_map, rk.len]; exact hl, rp_keys rk⟩
  · cases e
def listX (ds : List D) : Option D := (listD ds).or (listK ds)
theorem co_listX (hc : X.calm = true) : CallO X C (.type "list") listX := co_list.or (co_listK hc)
/-! ### a < b < c as a test -/
theorem dt_chain {op op' : CmpOp} {o o' : D → D → Option D} (ho : OpD X C (compareOp op) o) (ho' : OpD X C (compareOp op') o') (ha : DE X C c a f) (hb : DE X C c b g) (hc : DE X C c b2 h) (hm : lastMarks [op, op'] [b, b2] = false := by with_unfolding_all rfl) :
    DT X C c (.Compare a [op, op'] [b, b2] pos) (fTst (fCh o o' f g h)) := by
  obtain ⟨r, hr, hw⟩ := ho
  obtain ⟨r', hr', hw'⟩ := ho'
  refine PT.imp (pt_chain hr hr' ha hb hc hm) fun σ H Q ⟨z, F, env, b, env', S, e, k⟩ => ?_
  have e := fTst_some e
  simp only [fCh, Option.bind_eq_some_iff] at e
  obtain ⟨⟨b1, e1⟩, h1, ⟨b2, e2⟩, h2, x, hx, y, hy, d, hd, kk, hk, e⟩ := e
  have dk := isB_some hk
  subst dk
  refine ⟨z, F, env, b1, e1, S, h1, fun v F1 H1 s1 S1 r1 => ⟨z, F1, e1, b2, e2, S1, h2, fun w F2 H2 s2 S2 r2 => 
    hw F2 H2 v w x y _ _ S2.sub ((r1.mono s2).rb S2 hx) (r2.rb S2 hy) hd fun u F3 H3 ex ru => ⟨kk, rp_bl ru, ?_⟩⟩⟩
  have S3 := S2.ext ex
  cases kk with
  | false =>
    simp only [Bool.false_eq_true, if_false] at e ⊢
    cases e
    exact ⟨_, rfl, k F3 H3 (s1.trans (s2.trans ex.sub)) S3⟩
  | true =>
    simp only [if_true, Option.bind_eq_some_iff] at e ⊢
    obtain ⟨⟨b3, e3⟩, h3, y', hy', w', hw3, d', hd', e⟩ := e
    cases e
    exact ⟨z, F3, e2, b3, e3, S3, h3, fun w2 F4 H4 s4 S4 r4 => hw' F4 H4 w w2 y' w' _ _ S4.sub (((r2.mono ex.sub).mono s4).rb S4 hy') (r4.rb S4 hw3) hd' fun u F5 H5 ex5 ru5 => by
      cases ru5
      exact ⟨_, rfl, k F5 H5 (s1.trans (s2.trans (ex.sub.trans (s4.trans ex5.sub)))) (S4.ext ex5)⟩⟩
end
end DL

namespace DL
open PySem L2
/-! ### repr of data -/
mutual
/-- no texts, numbers of at most a hundred bits -/
def smB : D → Bool
  | .non => true
  | .bl _ => true
  | .int i => decide (i.natAbs.log2 < 100)
  | .str x => decide (x.cps.size ≤ 100) && x.cps.toList.all fun c => decide (c < 16 ^ 8)
  | .lst xs => smBs xs
  | .tup xs => smBs xs
  | _ => false
termination_by structural x => x
def smBs : List D → Bool
  | [] => true
  | x :: xs => smB x && smBs xs
termination_by structural x => x
end
mutual
def cnt : D → Nat
  | .lst xs => cnts xs + 1
  | .tup xs => cnts xs + 1
  | _ => 1
termination_by structural x => x
def cnts : List D → Nat
  | [] => 0
  | x :: xs => cnt x + cnts xs
termination_by structural x => x
end
theorem andB {a b : Bool} (h : (a && b) = true) : a = true ∧ b = true := Bool.and_eq_true_iff.mp h
mutual
theorem sm_plain : ∀ d : D, smB d = true → DL.plain d = true
  | .non, _ => rfl
  | .bl _, _ => rfl
  | .int _, _ => rfl
  | .lst xs, h => sm_plains xs h
  | .tup xs, h => sm_plains xs h
  | .str _, _ => rfl
  | .dic _, h => by cases h
  | .obj _ _, h => by cases h
  | .scr _, h => by cases h
  | .cel _, h => by cases h
  | .dtu _, h => by cases h
  | .btu _, h => by cases h
termination_by structural x => x
theorem sm_plains : ∀ xs : List D, smBs xs = true → plains xs = true
  | [], _ => rfl
  | x :: xs, h => by
    obtain ⟨h1, h2⟩ := andB h
    show (DL.plain x && plains xs) = true
    rw [sm_plain x h1, sm_plains xs h2]
    rfl
termination_by structural x => x
end
mutual
theorem sm_show : ∀ d : D, smB d = true → (toPy d).showable = true ∧ (toPy d).hasDict = false ∧ (toPy d).leavesShort 110 = true ∧ (toPy d).weight + 1 ≤ 102 * cnt d
  | .non, _ => ⟨rfl, rfl, rfl, by show 0 + 1 ≤ 102 * 1; decide⟩
  | .bl _, _ => ⟨rfl, rfl, rfl, by show 0 + 1 ≤ 102 * 1; decide⟩
  | .int i, h => by
    have h : i.natAbs.log2 < 100 := of_decide_eq_true h
    refine ⟨decide_eq_true (by omega), rfl, decide_eq_true ?_, ?_⟩
    · have := int_text_length_le (a := i) (k := 100) (by decide) h
      show (Str.ofString (toString i)).length ≤ 110
      rw [ofString_length]
      omega
    · show (if i == 0 then 0 else i.natAbs.log2 + 1) + 1 ≤ 102 * 1
      split <;> omega
  | .lst xs, h => by
    obtain ⟨h1, h2, h3, h4⟩ := sm_shows xs h
    exact ⟨h1, h2, h3, by show PyData.weightAll (toPys xs) + 1 ≤ 102 * (cnts xs + 1); omega⟩
  | .tup xs, h => by
    obtain ⟨h1, h2, h3, h4⟩ := sm_shows xs h
    exact ⟨h1, h2, h3, by show PyData.weightAll (toPys xs) + 1 ≤ 102 * (cnts xs + 1); omega⟩
  | .str x, h => by
    obtain ⟨h1, h2⟩ := andB h
    have h1 := of_decide_eq_true h1
    exact ⟨rfl, rfl, h2, by show x.cps.size + 1 ≤ 102 * 1; omega⟩
  | .dic _, h => by cases h
  | .obj _ _, h => by cases h
  | .scr _, h => by cases h
  | .cel _, h => by cases h
  | .dtu _, h => by cases h
  | .btu _, h => by cases h
termination_by structural x => x
theorem sm_shows : ∀ xs : List D, smBs xs = true → PyData.showableAll (toPys xs) = true ∧ PyData.hasDictAll (toPys xs) = false ∧ PyData.leavesShortAll 110 (toPys xs) = true ∧ PyData.weightAll (toPys xs) ≤ 102 * cnts xs
  | [], _ => ⟨rfl, rfl, rfl, Nat.zero_le _⟩
  | x :: xs, h => by
    obtain ⟨h1, h2⟩ := andB h
    obtain ⟨a1, a2, a3, a4⟩ := sm_show x h1
    obtain ⟨b1, b2, b3, b4⟩ := sm_shows xs h2
    refine ⟨?_, ?_, ?_, ?_⟩
    · show ((toPy x).showable && PyData.showableAll (toPys xs)) = true
      rw [a1, b1]; rfl
    · show ((toPy x).hasDict || PyData.hasDictAll (toPys xs)) = false
      rw [a2, b2]; rfl
    · show ((toPy x).leavesShort 110 && PyData.leavesShortAll 110 (toPys xs)) = true
      rw [a3, b3]; rfl
    · show (toPy x).weight + 1 + PyData.weightAll (toPys xs) ≤ 102 * (cnt x + cnts xs)
      omega
termination_by structural x => x
end
def reprB (x : D) : Bool := smB x && decide (dp x ≤ 50) && decide (cnt x ≤ 1000)
def reprD : List D → Option D
  | [x] => if reprB x then some (.str (toPy x).shown) else none
  | _ => none
section
variable {X : Cx} {C : CA}
theorem call_repr (hg : X.A.guards = some []) (hu : X.A.units + 64 < cLine) : CallR X (.builtin "repr") (fun xs H Q => ∃ v d, xs = [v] ∧ Dp X.K H v d ∧ d.showable = true ∧ d.hasDict = false ∧ d.depth ≤ 51 ∧ d.shown.length ≤ sizeLine ∧ Q (.str d.shown) H) := by
  intro pins s σ H xs us Q I r h
  obtain ⟨v, d, rfl, hd, hs, hn, hdp, hz, q⟩ := h
  obtain ⟨u, rfl, ru⟩ := r.one
  obtain ⟨as, rd⟩ := Dp.reads I d v u hd ru
  have key : ∀ a, u = .ref a → wpAny (model X.prog X.w) X.A (call (.builtin "repr") [u]) (EP X pins σ Q) X.xe s := fun a e => by
    subst e
    refine repr_of_reads' rd hs (fun e => by rw [hn] at e; cases e) hg (by omega) (fun _ _ e => e) (fun h' t tk hk => ?_) hz
    exact ⟨.str d.shown, H, I.kept (t' := tk) hk, ⟨t, rfl⟩, q⟩
  cases rd with
  | none => exact P.repr_of_none ⟨.str _, H, I.tok _, ⟨_, rfl⟩, q⟩
  | bool b => exact P.repr_of_bool ⟨.str _, H, I.tok _, ⟨_, rfl⟩, by cases b <;> exact q⟩
  | int i t => exact P.repr_of_int (of_decide_eq_true hs) ⟨.str _, H, I.tok _, ⟨_, rfl⟩, q⟩
  | str x t => exact P.repr_of_str ⟨.str _, H, I.tok _, ⟨_, rfl⟩, q⟩ hz
  | list h1 h2 h3 h4 => exact key _ rfl
  | tuple h1 h2 h3 h4 => exact key _ rfl
  | dict h1 h2 h3 h4 h5 => exact key _ rfl
theorem cd_repr (hg : X.A.guards = some []) (hu : X.A.units + 64 < cLine) : CallD X C (.builtin "repr") reprD := by
  refine ⟨_, call_repr hg hu, fun F H vs ds d Q s rb e k => ?_⟩
  unfold reprD at e
  split at e
  · next x =>
    split at e
    · next hb =>
      cases e
      obtain ⟨h1, h2⟩ := andB hb
      obtain ⟨h1, h3⟩ := andB h1
      have h2 := of_decide_eq_true h2
      have h3 := of_decide_eq_true h3
      obtain ⟨a1, a2, a3, a4⟩ := sm_show x h1
      have pl := sm_plain x h1
      have dpx := dp_py x
      cases rb with
      | cons r1 r2 =>
        cases r2
        refine ⟨_, _, rfl, r1.dp s pl, a1, a2, by omega, ?_, k _ F H (Ext.rfl' s) (.str _)⟩
        have := PyData.shown_le 110 (by decide) (toPy x) a3
        rw [sizeLine_eq]
        omega
    · cases e
  · cases e
end
end DL
namespace L2
open PySem PySem.Spec PyProof.Rows
/-! ### a def that is called while no repr runs -/
/-- as FnOk, for calls under which no repr stands -/
def FnG (P : Program) (w : World) (K : PySem.W.Frag) (mg : Str → Option Value) (base : Heap) (k : Nat) (f : Addr) (fd : FuncData) (ps : List Str) (sp : Sp) : Prop :=
  ∀ (A : Around) (outer : List Env) (s : Shared) (H : Hp) (args : Args) (us : List Value) (vs : List V) (Q : VK) (E : XK), Room k A → A.guards = some [] → Env0 P w K mg base A outer s H → BindsTo s fd args (ps.zip us) → Vals vs us → sp vs H Q E →
    codeAny (model P w) A (.call (.ref f) args) (CR CX0 outer P w H s Q E) s
section
variable {P : Program} {w : World} {K : PySem.W.Frag} {mg mb : Str → Option Value} {base : Heap} {x qual : Str} {params : Arguments} {body : List Stmt} {scope : Scope} {dvs : List V} {kws : List (Str × V)} {f : Addr} {fd : FuncData}
theorem FunD.okG {N ps : List Str} {k : Nat} {sp : Sp} (F : FunD K x qual params body scope dvs kws f fd) (S : FnScope N ps scope) (len : ∀ vs H Q E, sp vs H Q E → vs.length = ps.length)
    (hbody : ∀ (cdv : Value) (A : Around) (outer : List Env) (s : Shared) (H : Hp) (vs : List V) (Q : VK) (E : XK), Room k (A.deeper (envOfC qual scope s.heap.objs.size f cdv)) → A.guards = some [] → sp vs H Q E →
      ∃ t, PSs (cxOf CX0 P w K mg base N qual scope f cdv A outer s H E) body t ∧ t { nx := fun _ G => Q .non G, rt := Q } (start N vs) H) : FnG P w K mg base (k + 1) f fd ps sp := by
  intro A outer s H args us vs Q E room guards env0 binds rel holds
  obtain ⟨_, _, _, _, _, _, _, cdv, _, _, rfl, look, code, _, _⟩ := F.ex
  have stays : ∀ b o, base.get? b = some o → s.heap.get? b = some o := fun b o e => (env0.bs b o e).1
  have inK : K.In s.heap := env0.mod.kin.keeps stays
  obtain ⟨t, walk, start0⟩ := hbody cdv A outer s H vs Q E (room.deeper _) guards holds
  have kinds : ∀ y ∈ ps.zip us, scope.names.lookup y.1 = some .local ∨ (scope.names.lookup y.1 = some .cell ∧ ((cellsFrom (s.heap.objs.size + 1) scope.names []).lookup y.1).isSome = true) := fun y hy =>
    (S.par y.1 (List.of_mem_zip hy).1).imp (fun q => q) fun q => ⟨q, PySem.W.cellsFrom_some _ _ _ (.inl q)⟩
  refine codeAny_call_function room.depth (inK _ _ look) rfl S.co S.gen rfl (PySem.W.codeRec_of inK code) (binds _ _ _ _ (wpAny_newFunctionEnv_cells S.kind kinds fun env he s1 inCall => ?_))
  subst he
  refine ⟨(env0.mod.nolimit.keeps stays).keeps inCall.toInCall.keep, codeAny_func (wpAny_mono (walk.run [] s1 _ H _ (inv_start S room.hd env0 (len _ _ _ _ holds) rel inCall) start0) (fun fl s2 out => ?_) fun _ _ z => z)⟩
  match fl, out with
  | .ret u, ⟨v, _, G, J, rv, q⟩ => exact ⟨v, G, J.os, J.bare, J.base, J.hok, rv, q⟩
  | .next, ⟨_, G, J, q⟩ => exact ⟨.non, G, J.os, J.bare, J.base, J.hok, rfl, q⟩
  | .brk, ⟨_, _, _, q⟩ => exact q.elim
  | .cont, ⟨_, _, _, q⟩ => exact q.elim
/-- the law's own call -/
theorem law_callG {k : Nat} {fa a : Addr} {y : Str} {sp : Sp} {s₁ : Shared} {vs : List Value} {ns : List Int} (inK : K.In s₁.heap) (glob : s₁.heap.Ns mainGlobals mg) (blt : s₁.heap.Ns builtinsNs mb) (boot : ∀ x : Str, x ≠ "__name__" → mb x = bootBuiltins x) (lim : s₁.heap.NoLimit) (gens : s₁.gens = #[])
    (atList : s₁.heap.get? a = some { cls := .type "list", data := .seq vs.toArray }) (arInts : IntsAre vs ns) (few : ns.length ≤ sizeLine) (room : Room k callerA) (F : ∀ base : Heap, K.In base → base.Ns mainGlobals mg → FnG P w K mg base k fa fd [y] sp)
    (binds : ∀ (s : Shared) (u : Value), BindsTo s fd ⟨[u], []⟩ [(y, u)]) (holds : ∀ H : Hp, Only H → SqL K H a (ns.map V.int) → sp [.ref a] H (fun v _ => v = .bl true) fun _ _ _ => False) :
    codeAny (model P w) callerA (.call (.ref fa) ⟨[.ref a], []⟩) (fun r s' => r = .ok (.ret (.bool true)) ∧ OldK s₁.heap s'.heap ∧ s'.os = s₁.os ∧ AllBare s'.gens) s₁ := by
  have rel := vals_ints arInts
  -- what is tracked: at most the script, and that it is locked
  obtain ⟨H, only, sq, hok, atA, notK⟩ : ∃ H : Hp, Only H ∧ SqL K H a (ns.map V.int) ∧ HOk P w H s₁.heap ∧ (∀ b u, H b = some u → b = a) ∧ (∀ u, H a = some u → K.lookup a = none) := by
    cases look : K.lookup a with
    | some o =>
      have e := (inK a o look).symm.trans atList
      cases e
      exact ⟨fun _ => none, fun _ => .inl rfl, .inr ⟨_, vs.toArray, _, look, rfl, rfl, rfl, by rw [List.size_toArray, arInts.length]; exact few, by simpa using rel⟩, fun b u z => (nomatch z), fun b u z => (nomatch z), fun u z => (nomatch z)⟩
    | none =>
      refine ⟨upd (fun _ => none) a (.frz { cls := .type "list", data := .seq vs.toArray } (.lst (ns.map V.int))), fun b => ?_, .inl (.inr ⟨_, upd_same⟩), fun b u z => ?_, fun b u z => ?_, fun _ _ => rfl⟩
      · by_cases e : b = a
        · subst e; exact .inr ⟨_, _, upd_same⟩
        · exact .inl (upd_ne e)
      · by_cases e : b = a
        · subst e
          rw [upd_same] at z
          cases z
          exact ⟨atList, by rw [List.length_map]; exact few, vs, _, rel, atList⟩
        · rw [upd_ne e] at z; cases z
      · by_cases e : b = a
        · exact e
        · rw [upd_ne e] at z; cases z
  have free : ∀ b o, s₁.heap.get? b = some o → (∀ v n, o.data ≠ .seq v n) → H b = none := fun b o e nd => by
    cases q : H b with
    | none => rfl
    | some u =>
      have := atA b u q
      subst this
      rw [atList] at e
      cases e
      exact absurd rfl (nd _ _)
  have ns_ : ∀ {b : Addr} {m : Str → Option Value}, s₁.heap.Ns b m → (hidT s₁.heap H).Ns b m := fun ⟨o, es, ep, e, d, r⟩ => ⟨o, es, ep, hidT_get e (free _ o e fun v n z => by rw [d] at z; cases z), d, r⟩
  have inB : K.In (hidT s₁.heap H) := fun b o e => hidT_get (inK b o e) (by
    cases q : H b with
    | none => rfl
    | some u =>
      have := atA b u q
      subst this
      rw [notK u q] at e
      cases e)
  have env0 : Env0 P w K mg (hidT s₁.heap H) callerA [] s₁ H := { frames := rfl, mod := ⟨inB, ns_ glob, ⟨mb, ns_ blt, boot⟩, let ⟨mc, h1, h2⟩ := lim; ⟨mc, ns_ h1, h2⟩⟩, bs := fun b o e => of_hidT e, bsz := Nat.le_of_eq (hidT_size _ _), funs := trivial, frf := fun b hb => (nomatch (show b ∈ ([] : List Addr) from hb)), hok := hok, bare := .of_eq gens }
  refine codeAny_mono (F _ inB (ns_ glob) callerA [] s₁ H ⟨[.ref a], []⟩ [.ref a] [.ref a] _ _ room rfl env0 (binds s₁ _) (.cons rfl .nil) (holds H only sq)) fun r s2 out => ?_
  match r, out with
  | .ok (.ret u), ⟨v, G, os, bare, un, hok2, rv, q⟩ =>
    have q : v = .bl true := q
    subst q
    obtain rfl : u = Value.bool true := rv
    refine ⟨rfl, OldK.of_keep fun b o e => ?_, os, bare⟩
    cases q : H b with
    | none => exact un.keep b o e q (fun z => (nomatch (show b ∈ ([] : List Addr) from z))) (by simp)
    | some u =>
      rcases only b with z | ⟨ob, xs, z⟩
      · rw [z] at q; cases q
      · have e1 := (hok b _ z).1
        have e2 := (hok2 b _ (un.frzs b ob _ z)).1
        rw [e] at e1
        cases e1
        exact e2
theorem walkG {l : PySem.W.OpenLaw} {n k : Nat} {q : Program} {loose : List Str} {XP : (Str → Option Value) → Heap → Prop} {YP : World → Heap → Prop} {d : DefRec} {y : Str} (most : l.most = some n) (size : n ≤ sizeLine) (bare : d.params.defaults = []) (room : Room k callerA)
    (F : ∀ (w : World) (mg : Str → Option Value) (fa : Addr) (h : Heap), YP w h → h.Ns mainGlobals mg → mg d.name = some (.ref fa) → ∃ (K : PySem.W.Frag) (fd : FuncData) (sp : Sp), K.In h ∧ (∀ (s : Shared) (u : Value), BindsTo s fd ⟨[u], []⟩ [(y, u)]) ∧
      (∀ (H : Hp) (a : Addr) (ns : List Int), ns.length ≤ n → Only H → SqL K H a (ns.map V.int) → sp [.ref a] H (fun v _ => v = .bl true) fun _ _ _ => False) ∧ ∀ base : Heap, K.In base → base.Ns mainGlobals mg → FnG l.prog w K mg base k fa fd [y] sp) :
    PySem.W.WalkO q loose XP YP l.row.toRowW d [] (fun f vs => PySem.call f vs) :=
  Att.attach_call most bare fun w s₀ s₁ mg mb fa o pm cd doc a vs ns G Y ho hd hcd hmg hobj hints hlen hg => by
    obtain ⟨K, fd, sp, inK, binds, holds, run⟩ := F w mg fa _ Y G.T.g hmg
    exact law_callG inK G.T.g G.T.b G.T.builtins G.T.nolimit hg hobj hints (Nat.le_trans hlen size) room run binds fun H only sq => holds H a ns hlen only sq
end
end L2
namespace DL
open PySem L2
section
variable {P : Program} {w : World} {K : PySem.W.Frag} {mg : Str → Option Value} {base : Heap} {x qual : Str} {params : Arguments} {body : List Stmt} {scope : Scope} {dvs : List V} {kws : List (Str × V)} {fa : Addr} {fd : FuncData}
theorem fun_okG {N ps : List Str} {k : Nat} {C : CA} {m : Bool} (c : Cs) (Fn : FunD K x qual params body scope dvs kws fa fd) (Sc : FnScope N ps scope) (fb : SF) (hn : c.n = N.length) (hio : ∀ i ∈ c.io, i < ps.length ∧ i ∈ c.O) (hO : ∀ i ∈ c.O, i < ps.length → i ∈ c.io) (hnx : m = true → ∀ env env', fb env ≠ some (.nx env'))
    (hbody : ∀ (cdv : Value) (A : Around) (outer : List PySem.Env) (s : Shared) (H : Hp) (E : XK), Room k (A.deeper (PyProof.Rows.envOfC qual scope s.heap.objs.size fa cdv)) → A.guards = some [] → DSs m (cxOf CX0 P w K mg base N qual scope fa cdv A outer s H E).nox C c body fb)
    (hci : c.ci = [] := by rfl) (hcn : c.cn = [] := by rfl) (hOn : ∀ i ∈ c.O, i < c.n := by decide) : FnG P w K mg base (k + 1) fa fd ps (spF K C c.io m ps.length (runF c fb)) := by
  refine Fn.okG Sc (fun vs H Q E ⟨F, ds, r, outs, s, hl, _⟩ => hl) fun cdv A outer s H vs Q E hr hgd ⟨F, ds, r, outs, sb, hl, ar, e, kk⟩ => ?_
  refine ⟨_, PSs.nox (hbody cdv A outer s H E hr hgd), ?_⟩
  obtain ⟨fl, e1, e2⟩ := Option.bind_eq_some_iff.mp e
  have hps : ps.length ≤ N.length := by have := congrArg List.length Sc.pre; rw [List.length_take] at this; omega
  have hdl : ds.length = ps.length := by rw [← ar.len]; exact hl
  have hst : ∀ (i : Nat) v, vs[i]? = some v → (L2.start N vs)[i]? = some (some v) := fun i v h => by
    unfold L2.start
    have lt : i < vs.length := (List.getElem?_eq_some_iff.mp h).1
    rw [List.getElem?_append_left (by simpa using lt), List.getElem?_map, h]
    rfl
  have el : (env0 c.n ds).length = c.n := by
    unfold env0
    rw [List.length_append, List.length_map, List.length_replicate]
    omega
  have xio : c.x.io = c.io := by rw [x_nil hci hcn]
  have S : SR K C c ⟨F, H, ioAs c.io vs, []⟩ F (env0 c.n ds) (L2.start N vs) H := by
    refine SRo.up ?_ hci hcn hOn
    refine ⟨sb, Same.refl _, fun b o h => .inl h, fun b o h _ => h, ?_, el, fun i d h hi => ?_, fun i d h hi => ?_, fun i j di dj a hi hj hij ei ej si sj => ?_, by simp [ioAs], fun a d h => (nomatch h), fun a d i e h => (nomatch h), List.nodup_nil, fun k i h => ?_⟩
    · rw [el, hn]
      unfold L2.start
      rw [List.length_append, List.length_map, List.length_replicate]
      omega
    · have hd := gt_env0.mp h
      have lt : i < vs.length := by rw [ar.len]; exact (List.getElem?_eq_some_iff.mp hd).1
      have hv : vs[i]? = some vs[i] := List.getElem?_eq_getElem lt
      exact ⟨_, hst i _ hv, ar.pur i _ d hv hd fun q => hi (hio i q).2⟩
    · have hd := gt_env0.mp h
      have lt : i < ps.length := by rw [← hdl]; exact (List.getElem?_eq_some_iff.mp hd).1
      have hi2 := hO i hi lt
      obtain ⟨a, d', h1, h2, h3, h4⟩ := ar.own i hi2
      rw [hd] at h2; cases h2
      obtain ⟨kq, hk⟩ := List.getElem?_of_mem hi2
      exact ⟨a, hst i _ h1, h3, h4, .inr ⟨hi2, List.mem_of_getElem? (ioAs_get hk h1)⟩⟩
    · have h1 := gt_env0.mp ei
      have h2 := gt_env0.mp ej
      have l1 : i < ps.length := by rw [← hdl]; exact (List.getElem?_eq_some_iff.mp h1).1
      have l2 : j < ps.length := by rw [← hdl]; exact (List.getElem?_eq_some_iff.mp h2).1
      obtain ⟨a1, _, q1, _⟩ := ar.own i (hO i hi l1)
      obtain ⟨a2, _, q2, _⟩ := ar.own j (hO j hj l2)
      have e1 := hst i _ q1
      have e2 := hst j _ q2
      rw [si] at e1; cases e1
      rw [sj] at e2; cases e2
      exact ar.dist i j a (hO i hi l1) (hO j hj l2) hij q1 q2
    · have hi := List.mem_of_getElem? h
      obtain ⟨a, d, h1, h2, h3, h4⟩ := ar.own i hi
      exact ⟨(hio i hi).2, a, d, ioAs_get h h1, hst i _ h1, gt_env0.mpr h2⟩
  have fin : ∀ v F' H' env', RetOk m K C c ⟨F, H, ioAs c.io vs, []⟩ F' env' H' v r → outsOf env' c.io = some outs → Q v H' := fun v F' H' env' R ho => by
    refine kk v F' H' ⟨R.f0, R.sub, R.new, fun b o h hb => R.keep b o h fun hm => ?_, fun k i a hk ha => ?_, ?_⟩
    · obtain ⟨i, hi, q⟩ := List.mem_map.mp hm
      obtain ⟨a, _, h1, _⟩ := ar.own i hi
      rw [h1] at q
      have q' : a = b := q
      subst q'
      exact hb i hi h1
    · obtain ⟨a', d, h1, h2, h3, h4⟩ := R.ios k i (by rw [xio]; exact hk)
      have h1' := ioAs_get hk ha
      have h1'' : (ioAs c.io vs)[k]? = some a' := h1
      rw [h1'] at h1''; cases h1''
      obtain ⟨d', q1, q2⟩ := outs_get ho k i hk
      rw [h2] at q2; cases q2
      exact ⟨d, q1, h3, h4⟩
    · have := R.val
      cases m with
      | false => exact this
      | true =>
        obtain ⟨a, h1, h2, h3, h4⟩ := this
        exact ⟨a, h1, h3, h2, h4⟩
  refine ⟨⟨F, H, ioAs c.io vs, []⟩, F, env0 c.n ds, fl, S, rfl, e1, ?_⟩
  cases fl with
  | nx env' =>
    obtain ⟨os, h1, h2⟩ := Option.bind_eq_some_iff.mp e2
    cases h2
    intro F' σ' H' s' S'
    cases m with
    | true => exact absurd e1 (hnx rfl _ _)
    | false => exact fin .non F' H' env' (S'.ret (m := false) .non) h1
  | rt d env' =>
    obtain ⟨os, h1, h2⟩ := Option.bind_eq_some_iff.mp e2
    cases h2
    intro v F' H' s' R
    exact fin v F' H' env' R h1
  | bk _ => cases e2
  | ct _ => cases e2
end
end DL

namespace DL
open PySem L2
/-! ### an own list that is lent as data while an expression is reckoned -/
mutual
/-- no lists, dicts or objects within -/
def noL : D → Bool
  | .non => true
  | .bl _ => true
  | .int _ => true
  | .str _ => true
  | .tup xs => noLs xs
  | .obj _ fs => noLf fs
  | _ => false
termination_by structural x => x
def noLs : List D → Bool
  | [] => true
  | x :: xs => noL x && noLs xs
termination_by structural x => x
def noLf : List (Str × D) → Bool
  | [] => true
  | (_, x) :: xs => noL x && noLf xs
termination_by structural x => x
end
/-- an own list of such things -/
def noLo : Option D → Bool
  | some (.lst xs) => noLs xs
  | _ => false
def outE (F : Hp) (a : Addr) : Hp := fun b => if b = a then none else F b
theorem outE_ne {F : Hp} {a b : Addr} (h : b ≠ a) : outE F a b = F b := by unfold outE; rw [if_neg h]
theorem outE_same {F : Hp} {a : Addr} : outE F a a = none := by unfold outE; rw [if_pos rfl]
section
variable {K : PySem.W.Frag} {C : CA} {F : Hp} {a : Addr} {vs0 : List V}
theorem sqt_out (h : F a = some (.lst vs0)) {b : Addr} {vs : List V} (q : SqT K F b vs) : SqT K (outE F a) b vs := by
  rcases q with (q | ⟨o, q⟩) | q
  · exact .inl (.inl (by rw [outE_ne (fun e => by rw [e, h] at q; cases q)]; exact q))
  · exact .inl (.inr ⟨o, by rw [outE_ne (fun e => by rw [e, h] at q; cases q)]; exact q⟩)
  · exact .inr q
mutual
theorem rp_out (h : F a = some (.lst vs0)) : ∀ {v : V} {d : D}, noL d = true → Rp K C F v d → Rp K C (outE F a) v d
  | _, _, _, .non => .non
  | _, _, _, .bl b => .bl b
  | _, _, _, .int i => .int i
  | _, _, _, .str x => .str x
  | _, _, n, .tup q l r => .tup (sqt_out h q) l (rp_outs h n r)
  | _, _, n, .lst _ _ _ => by cases n
  | _, _, n, .scr _ => by cases n
  | _, _, n, .cel _ _ => by cases n
  | _, _, n, .dtu _ _ => by cases n
  | _, _, n, .btu _ _ _ _ => by cases n
  | _, _, n, .dic _ _ => by cases n
  | _, _, n, .obj q r => .obj (by rw [outE_ne (fun e => by rw [e, h] at q; cases q)]; exact q) (rp_outf h n r)
theorem rp_outs (h : F a = some (.lst vs0)) : ∀ {vs : List V} {ds : List D}, noLs ds = true → RpAll K C F vs ds → RpAll K C (outE F a) vs ds
  | _, _, _, .nil => .nil
  | _, _, n, .cons r t => .cons (rp_out h (andB n).1 r) (rp_outs h (andB n).2 t)
theorem rp_outf (h : F a = some (.lst vs0)) : ∀ {vs : List (Str × V)} {ds : List (Str × D)}, noLf ds = true → RpFs K C F vs ds → RpFs K C (outE F a) vs ds
  | _, _, _, .nil => .nil
  | _, _, n, .cons r t => .cons (rp_out h (andB n).1 r) (rp_outf h (andB n).2 t)
end
end
/-- the slots of U as they stand in the second one -/
def putE (env e2 : Env) : List Nat → Env
  | [] => env
  | j :: U => st (putE env e2 U) j (gt e2 j)
theorem putE_length (env e2 : Env) : ∀ U : List Nat, (putE env e2 U).length = env.length
  | [] => rfl
  | j :: U => by rw [putE, st_length, putE_length env e2 U]
theorem gt_putE_out {env e2 : Env} {i : Nat} : ∀ {U : List Nat}, i ∉ U → gt (putE env e2 U) i = gt env i
  | [], _ => rfl
  | j :: U, h => by
    have h1 : j ≠ i := fun e => h (e ▸ List.mem_cons_self ..)
    rw [putE, gt_st_ne h1]
    exact gt_putE_out fun z => h (List.mem_cons_of_mem _ z)
theorem gt_putE_in {env e2 : Env} (hl : e2.length = env.length) {i : Nat} : ∀ {U : List Nat}, i ∈ U → gt (putE env e2 U) i = gt e2 i
  | j :: U, h => by
    by_cases e : j = i
    · subst e
      by_cases l : j < env.length
      · rw [putE, gt_st (by rw [putE_length]; exact l)]
      · have g : ∀ x : Env, x.length = env.length → gt x j = none := fun x hx => gt_none (by omega)
        rw [g _ (by rw [putE, st_length, putE_length]), g _ hl]
    · rw [putE, gt_st_ne e]
      rcases List.mem_cons.mp h with q | q
      · exact absurd q.symm e
      · exact gt_putE_in hl q
theorem wipeE_length (env : Env) : ∀ ws : List Nat, (wipeE env ws).length = env.length
  | [] => rfl
  | w :: ws => by rw [wipeE, st_length, wipeE_length env ws]
theorem gt_wipeE_in {env : Env} {j : Nat} : ∀ {ws : List Nat}, j ∈ ws → gt (wipeE env ws) j = none
  | w :: ws, h => by
    by_cases e : w = j
    · subst e
      by_cases l : w < env.length
      · rw [wipeE, gt_st (by rw [wipeE_length]; exact l)]
      · exact gt_none (by rw [wipeE_length]; omega)
    · rw [wipeE, gt_st_ne e]
      rcases List.mem_cons.mp h with q | q
      · exact absurd q.symm e
      · exact gt_wipeE_in q
theorem gt_wipeE_out {env : Env} {j : Nat} : ∀ {ws : List Nat}, j ∉ ws → gt (wipeE env ws) j = gt env j
  | [], _ => rfl
  | w :: ws, h => by
    have h1 : w ≠ j := fun e => h (e ▸ List.mem_cons_self ..)
    rw [wipeE, gt_st_ne h1]
    exact gt_wipeE_out fun z => h (List.mem_cons_of_mem _ z)
def adr (σ : St) (j : Nat) : Addr := match σ[j]? with
  | some (some (.ref b)) => b
  | _ => 0
theorem adr_of {σ : St} {j : Nat} {b : Addr} (h : σ[j]? = some (some (.ref b))) : adr σ j = b := by unfold adr; rw [h]
section
variable {K : PySem.W.Frag} {C : CA} {c : Cs} {z : Zn} {F F2 : Hp} {env e2 : Env} {σ : St} {H H2 : Hp} {i : Nat} {U ws : List Nat} {ds0 : List D} {a : Addr} {vs0 : List V}
theorem SRo.lend (S : SRo K C c z F env σ H) (hi : i ∈ c.O) (hd : gt env i = some (.lst ds0)) (ha : σ[i]? = some (some (.ref a))) (hv : H a = some (.lst vs0)) (hU : ∀ j ∈ U, j ∈ c.O ∧ j ≠ i ∧ ∃ d, gt env j = some d) (hw : ∀ j, j ∈ c.O → j ≠ i → j ∉ U → j ∈ ws) (hw2 : ∀ j ∈ ws, j ∈ c.O ∧ j ≠ i ∧ j ∉ U) :
    SRo K C ⟨c.n, U, U, [], []⟩ ⟨upd F a (.lst vs0), H, U.map (adr σ), []⟩ (upd F a (.lst vs0)) (wipeE env ws) σ H := by
  obtain ⟨a1, h1, fa, ow, _⟩ := S.own i _ hd hi
  rw [ha] at h1; cases h1
  have sF : Same F (upd F a (.lst vs0)) := same_upd fa
  have gw : ∀ {j d}, gt (wipeE env ws) j = some d → j ∉ ws ∧ gt env j = some d := fun {j d} h => by
    have nw : j ∉ ws := fun q => by rw [gt_wipeE_in q] at h; cases h
    exact ⟨nw, by rw [gt_wipeE_out nw] at h; exact h⟩
  refine ⟨fun b o h => ?_, Same.refl _, fun b o h => .inl h, fun b o h _ => h, by rw [wipeE_length]; exact S.len, by rw [wipeE_length]; exact S.num, fun j d h hj => ?_, fun j d h hj => ?_, fun j k dj dk b hj hk hjk ej ek => ?_, by rw [List.length_map], fun b d h => (nomatch h), fun b d j e h => (nomatch h), List.nodup_nil, fun k j h => ?_⟩
  · by_cases e : b = a
    · subst e; rw [upd_same] at h; cases h; exact hv
    · rw [upd_ne e] at h; exact S.sub _ _ h
  · obtain ⟨nw, h⟩ := gw h
    by_cases e : j = i
    · subst e
      rw [hd] at h; cases h
      exact ⟨_, ha, ow.froze sF hv (o' := .lst vs0) rfl upd_same⟩
    · by_cases q : j ∈ c.O
      · exact absurd (hw j q e hj) nw
      · obtain ⟨v, q1, q2⟩ := S.pur j d h q
        exact ⟨v, q1, q2.mono sF⟩
  · obtain ⟨nw, h⟩ := gw h
    obtain ⟨jO, ji, _⟩ := hU j hj
    obtain ⟨b, q1, q2, q3, _⟩ := S.own j d h jO
    have ne : b ≠ a := by
      rintro rfl
      exact S.dist i j _ d b hi jO (Ne.symm ji) hd h ha q1
    exact ⟨b, q1, by rw [upd_ne ne]; exact q2, q3.mono sF rfl, .inr ⟨hj, List.mem_map.mpr ⟨j, hj, adr_of q1⟩⟩⟩
  · exact S.dist j k dj dk b (hU j hj).1 (hU k hk).1 hjk (gw ej).2 (gw ek).2
  · have hj : j ∈ U := List.mem_of_getElem? h
    obtain ⟨jO, ji, d, hdj⟩ := hU j hj
    obtain ⟨b, q1, _⟩ := S.own j d hdj jO
    refine ⟨hj, b, d, ?_, q1, ?_⟩
    · have h' : U[k]? = some j := h
      show (U.map (adr σ))[k]? = some b
      rw [List.getElem?_map, h', Option.map_some, adr_of q1]
    · rw [gt_wipeE_out fun q => (hw2 j q).2.2 hj]; exact hdj
theorem SRo.regain (S : SRo K C c z F env σ H) (hi : i ∈ c.O) (hd : gt env i = some (.lst ds0)) (ha : σ[i]? = some (some (.ref a))) (hv : H a = some (.lst vs0)) (hU : ∀ j ∈ U, j ∈ c.O ∧ j ≠ i ∧ ∃ d, gt env j = some d)
    (S2 : SRo K C ⟨c.n, U, U, [], []⟩ ⟨upd F a (.lst vs0), H, U.map (adr σ), []⟩ F2 e2 σ H2) (hn : ∀ j ∈ U, noLo (gt e2 j) = true) : SRo K C c z (outE F2 a) (putE env e2 U) σ H2 ∧ Same F (outE F2 a) ∧ F2 a = some (.lst vs0) := by
  obtain ⟨a1, h1, fa, ow, za⟩ := S.own i _ hd hi
  rw [ha] at h1; cases h1
  have f2a : F2 a = some (.lst vs0) := S2.f0 a _ upd_same
  have ne_of_F : ∀ {b o}, F b = some o → b ≠ a := fun {b o} h e => by rw [e, fa] at h; cases h
  have sF : Same F (outE F2 a) := fun b o h => by
    rw [outE_ne (ne_of_F h)]
    exact S2.f0 b o (by show upd F a (.lst vs0) b = some o; rw [upd_ne (ne_of_F h)]; exact h)
  have el : e2.length = env.length := by rw [S2.num, S.num]
  have nU : ∀ {b}, (∀ j ∈ U, σ[j]? ≠ some (some (.ref b))) → b ∉ U.map (adr σ) := fun {b} h q => by
    obtain ⟨j, hj, e⟩ := List.mem_map.mp q
    obtain ⟨jO, _, d, hdj⟩ := hU j hj
    obtain ⟨b', q1, _⟩ := S.own j d hdj jO
    rw [adr_of q1] at e
    subst e
    exact h j hj q1
  -- what stands at an own address that is not among U's
  have old : ∀ {b o}, H b = some o → F b = none → b ≠ a → (∀ j ∈ U, σ[j]? ≠ some (some (.ref b))) → H2 b = H b ∧ outE F2 a b = none := fun {b o} h fb ne nu => by
    refine ⟨by rw [h]; exact S2.keep b o h (nU nu), ?_⟩
    rw [outE_ne ne]
    cases q : F2 b with
    | none => rfl
    | some o' =>
      rcases S2.new b o' q with r | r
      · have r : upd F a (.lst vs0) b = some o' := r
        rw [upd_ne ne, fb] at r; cases r
      · have r : H b = none := r
        rw [h] at r; cases r
  refine ⟨⟨fun b o h => ?_, fun b o h => ?_, fun b o h => ?_, fun b o h hb => ?_, by rw [putE_length]; exact S.len, by rw [putE_length]; exact S.num, fun j d h hj => ?_, fun j d h hj => ?_, fun j k dj dk b hj hk hjk ej ek => ?_, S.iol, fun b d h => ?_, fun b d j e h hj ej => ?_, S.ghn, fun k j h => ?_⟩, sF, f2a⟩
  · by_cases e : b = a
    · subst e; rw [outE_same] at h; cases h
    · rw [outE_ne e] at h; exact S2.sub _ _ h
  · exact sF b o (S.f0 b o h)
  · by_cases e : b = a
    · subst e; rw [outE_same] at h; cases h
    · rw [outE_ne e] at h
      rcases S2.new b o h with r | r
      · have r : upd F a (.lst vs0) b = some o := r
        rw [upd_ne e] at r
        exact S.new b o r
      · exact .inr (S.free0 r)
  · refine S2.keep b o (S.keep b o h hb) (nU fun j hj q => ?_)
    obtain ⟨jO, _, d, hdj⟩ := hU j hj
    obtain ⟨b', q1, _, _, q4⟩ := S.own j d hdj jO
    rw [q] at q1; cases q1
    rcases q4 with q4 | q4
    · rw [h] at q4; cases q4
    · exact hb q4.2
  · have nj : j ∉ U := fun q => hj (hU j q).1
    rw [gt_putE_out nj] at h
    obtain ⟨v, q1, q2⟩ := S.pur j d h hj
    exact ⟨v, q1, q2.mono sF⟩
  · by_cases jU : j ∈ U
    · rw [gt_putE_in el jU] at h
      obtain ⟨b, q1, q2, q3, _⟩ := S2.own j d h jU
      obtain ⟨_, _, d0, hd0⟩ := hU j jU
      obtain ⟨b', r1, _, _, r4⟩ := S.own j d0 hd0 hj
      rw [q1] at r1; cases r1
      have nn := hn j jU
      rw [h] at nn
      refine ⟨b, q1, ?_, ?_, r4⟩
      · unfold outE; split
        · rfl
        · exact q2
      · cases d <;> try (cases nn; done)
        obtain ⟨vs, w1, w2, w3⟩ := q3
        exact ⟨vs, w1, w2, rp_outs f2a nn w3⟩
    · rw [gt_putE_out jU] at h
      by_cases e : j = i
      · subst e
        rw [hd] at h; cases h
        obtain ⟨vs, w1, w2, w3⟩ := ow
        rw [hv] at w1; cases w1
        exact ⟨a, ha, outE_same, ⟨vs0, S2.sub a _ f2a, w2, w3.mono sF⟩, za⟩
      · obtain ⟨b, q1, q2, q3, q4⟩ := S.own j d h hj
        obtain ⟨o, ho⟩ := q3.some
        have ne : b ≠ a := by
          rintro rfl
          exact S.dist i j _ d b hi hj (Ne.symm e) hd h ha q1
        obtain ⟨r1, r2⟩ := old ho q2 ne fun k hk q => by
          obtain ⟨kO, _, dk, hdk⟩ := hU k hk
          exact S.dist j k d dk b hj kO (fun e => jU (e ▸ hk)) h hdk q1 q
        exact ⟨b, q1, r2, q3.mono sF r1, q4⟩
  · have bk : ∀ {m e}, m ∈ c.O → gt (putE env e2 U) m = some e → ∃ e', gt env m = some e' := fun {m e} hm h => by
      by_cases mU : m ∈ U
      · exact (hU m mU).2.2
      · rw [gt_putE_out mU] at h; exact ⟨e, h⟩
    obtain ⟨d1, g1⟩ := bk hj ej
    obtain ⟨d2, g2⟩ := bk hk ek
    exact S.dist j k d1 d2 b hj hk hjk g1 g2
  · obtain ⟨q1, q2, q3⟩ := S.gho b d h
    obtain ⟨o, ho⟩ := q2.some
    have ne : b ≠ a := fun e => S.ghd b d i _ h hi hd (e ▸ ha)
    obtain ⟨r1, r2⟩ := old ho q1 ne fun k hk => by
      obtain ⟨kO, _, dk, hdk⟩ := hU k hk
      exact S.ghd b d k dk h kO hdk
    exact ⟨r2, q2.mono sF r1, q3⟩
  · by_cases mU : j ∈ U
    · obtain ⟨e', he'⟩ := (hU j mU).2.2
      exact S.ghd b d j e' h hj he'
    · rw [gt_putE_out mU] at ej
      exact S.ghd b d j e h hj ej
  · obtain ⟨q1, b, d, q2, q3, q4⟩ := S.ios k j h
    by_cases jU : j ∈ U
    · have nn := hn j jU
      cases g : gt e2 j with
      | none => rw [g] at nn; cases nn
      | some d' => exact ⟨q1, b, d', q2, q3, by rw [gt_putE_in el jU]; exact g⟩
    · exact ⟨q1, b, d, q2, q3, by rw [gt_putE_out jU]; exact q4⟩
theorem SR.lend (S : SR K C c z F env σ H) (hci : c.ci = []) (hcn : c.cn = []) (hi : i ∈ c.O) (hd : gt env i = some (.lst ds0)) (ha : σ[i]? = some (some (.ref a))) (hv : H a = some (.lst vs0)) (hU : ∀ j ∈ U, j ∈ c.O ∧ j ≠ i ∧ ∃ d, gt env j = some d) (hw : ∀ j, j ∈ c.O → j ≠ i → j ∉ U → j ∈ ws) (hw2 : ∀ j ∈ ws, j ∈ c.O ∧ j ≠ i ∧ j ∉ U) :
    SR K C ⟨c.n, U, U, [], []⟩ ⟨upd F a (.lst vs0), H, U.map (adr σ), []⟩ (upd F a (.lst vs0)) (wipeE env ws) σ H := ((S.o hci hcn).lend hi hd ha hv hU hw hw2).up rfl rfl fun j hj => S.hO j (hU j hj).1
theorem SR.regain (S : SR K C c z F env σ H) (hci : c.ci = []) (hcn : c.cn = []) (hi : i ∈ c.O) (hd : gt env i = some (.lst ds0)) (ha : σ[i]? = some (some (.ref a))) (hv : H a = some (.lst vs0)) (hU : ∀ j ∈ U, j ∈ c.O ∧ j ≠ i ∧ ∃ d, gt env j = some d)
    (S2 : SR K C ⟨c.n, U, U, [], []⟩ ⟨upd F a (.lst vs0), H, U.map (adr σ), []⟩ F2 e2 σ H2) (hn : ∀ j ∈ U, noLo (gt e2 j) = true) : SR K C c z (outE F2 a) (putE env e2 U) σ H2 ∧ Same F (outE F2 a) ∧ F2 a = some (.lst vs0) := by
  obtain ⟨h1, h2, h3⟩ := (S.o hci hcn).regain hi hd ha hv hU (S2.o rfl rfl) hn
  exact ⟨h1.up hci hcn S.hO, h2, h3⟩
theorem SR.aptU {p : Addr} (S : SR K C c z F env σ H) (hci : c.ci = []) (hcn : c.cn = []) (zp : H p = none) (hU : ∀ j ∈ U, ∃ d, gt env j = some d) : Apt C c (putE env e2 U) σ p := fun j e' hj he q => by
  rw [x_nil hci hcn] at hj
  rw [cells_nil hci hcn, List.append_nil] at q
  have : ∃ d, gt env j = some d := by
    by_cases jU : j ∈ U
    · exact hU j jU
    · rw [gt_putE_out jU] at he
      exact ⟨_, he⟩
  obtain ⟨d, hdj⟩ := this
  obtain ⟨b, q1, _, q3, _⟩ := S.own j d hdj hj
  rw [q] at q1
  cases q1
  obtain ⟨o, ho⟩ := q3.some
  rw [zp] at ho
  cases ho
end
section
variable {X : Cx} {C : CA} {c : Cs} {e : Expr} {f : EF} {t : TF}
def lendB (env : Env) (i : Nat) (U : List Nat) : Bool := (match gt env i with
  | some (.lst _) => true
  | _ => false) && U.all fun j => (gt env j).isSome
def fBor (i : Nat) (U ws : List Nat) (f : EF) : EF := fun env => if lendB env i U then (f (wipeE env ws)).bind fun p => match p.1 with
  | .val d => if noL d && U.all (fun j => noLo (gt p.2 j)) then some (.val d, putE env p.2 U) else none
  | .slot _ => none
  else none
def tBor (i : Nat) (U ws : List Nat) (t : TF) : TF := fun env => if lendB env i U then (t (wipeE env ws)).bind fun p => if U.all (fun j => noLo (gt p.2 j)) then some (p.1, putE env p.2 U) else none else none
theorem lendB_ok {env : Env} {i : Nat} {U : List Nat} (h : lendB env i U = true) : (∃ ds, gt env i = some (.lst ds)) ∧ ∀ j ∈ U, ∃ d, gt env j = some d := by
  obtain ⟨h1, h2⟩ := andB h
  refine ⟨?_, fun j hj => Option.isSome_iff_exists.mp (List.all_eq_true.mp h2 j hj)⟩
  split at h1
  · next q => exact ⟨_, q⟩
  · cases h1
def lendOk (O : List Nat) (i : Nat) (U ws : List Nat) : Bool := decide (i ∈ O) && (U.all fun j => decide (j ∈ O) && decide (j ≠ i)) && (O.all fun j => decide (j = i) || decide (j ∈ U) || decide (j ∈ ws)) && (ws.all fun j => decide (j ∈ O) && decide (j ≠ i) && decide (j ∉ U))
theorem lendOk_ok {O : List Nat} {i : Nat} {U ws : List Nat} (h : lendOk O i U ws = true) : i ∈ O ∧ (∀ j ∈ U, j ∈ O ∧ j ≠ i) ∧ (∀ j, j ∈ O → j ≠ i → j ∉ U → j ∈ ws) ∧ ∀ j ∈ ws, j ∈ O ∧ j ≠ i ∧ j ∉ U := by
  obtain ⟨h, h4⟩ := andB h
  obtain ⟨h, h3⟩ := andB h
  obtain ⟨h1, h2⟩ := andB h
  refine ⟨of_decide_eq_true h1, fun j hj => ?_, fun j hj h5 h6 => ?_, fun j hj => ?_⟩
  · have := List.all_eq_true.mp h2 j hj
    simpa using this
  · have := List.all_eq_true.mp h3 j hj
    simp only [Bool.or_eq_true, decide_eq_true_eq] at this
    rcases this with (q | q) | q
    · exact absurd q h5
    · exact absurd q h6
    · exact q
  · have := List.all_eq_true.mp h4 j hj
    simp only [Bool.and_eq_true, decide_eq_true_eq] at this
    exact ⟨this.1.1, this.1.2, this.2⟩
theorem de_bor (i : Nat) (U ws : List Nat) (h : DE X C ⟨c.n, U, U, [], []⟩ e f) (hk : lendOk c.O i U ws = true := by decide) (hci : c.ci = [] := by rfl) (hcn : c.cn = [] := by rfl) : DE X C c e (fBor i U ws f) := by
  obtain ⟨hi, k1, k2, k3⟩ := lendOk_ok hk
  refine PE.imp h fun σ H Q ⟨z, F, env, b, env', S, e, k⟩ => ?_
  unfold fBor at e
  split at e
  case isFalse => cases e
  next hl =>
  obtain ⟨⟨ds, hd⟩, hU⟩ := lendB_ok hl
  obtain ⟨⟨b1, e1⟩, h1, e⟩ := Option.bind_eq_some_iff.mp e
  obtain ⟨a, ha, fa, ⟨vs, hv, l, r⟩, za⟩ := S.own i _ hd hi
  have hU2 : ∀ j ∈ U, j ∈ c.O ∧ j ≠ i ∧ ∃ d, gt env j = some d := fun j hj => ⟨(k1 j hj).1, (k1 j hj).2, hU j hj⟩
  cases b1 with
  | slot _ => cases e
  | val d =>
    dsimp only at e
    split at e
    case isFalse => cases e
    next hn =>
    cases e
    obtain ⟨n1, n2⟩ := andB hn
    refine ⟨_, _, _, _, _, S.lend hci hcn hi hd ha hv hU2 k2 k3, h1, fun v F2 H2 s2 S2 r2 => ?_⟩
    obtain ⟨S3, sF, f2a⟩ := S.regain hci hcn hi hd ha hv hU2 S2 fun j hj => List.all_eq_true.mp n2 j hj
    exact k v _ H2 sF S3 (rp_out f2a n1 r2)
theorem dt_bor (i : Nat) (U ws : List Nat) (h : DT X C ⟨c.n, U, U, [], []⟩ e t) (hk : lendOk c.O i U ws = true := by decide) (hci : c.ci = [] := by rfl) (hcn : c.cn = [] := by rfl) : DT X C c e (tBor i U ws t) := by
  obtain ⟨hi, k1, k2, k3⟩ := lendOk_ok hk
  refine PT.imp h fun σ H Q ⟨z, F, env, b, env', S, e, k⟩ => ?_
  unfold tBor at e
  split at e
  case isFalse => cases e
  next hl =>
  obtain ⟨⟨ds, hd⟩, hU⟩ := lendB_ok hl
  obtain ⟨⟨b1, e1⟩, h1, e⟩ := Option.bind_eq_some_iff.mp e
  obtain ⟨a, ha, fa, ⟨vs, hv, l, r⟩, za⟩ := S.own i _ hd hi
  have hU2 : ∀ j ∈ U, j ∈ c.O ∧ j ≠ i ∧ ∃ d, gt env j = some d := fun j hj => ⟨(k1 j hj).1, (k1 j hj).2, hU j hj⟩
  split at e
  case isFalse => cases e
  next n2 =>
  cases e
  refine ⟨_, _, _, _, _, S.lend hci hcn hi hd ha hv hU2 k2 k3, h1, fun F2 H2 s2 S2 => ?_⟩
  obtain ⟨S3, sF, f2a⟩ := S.regain hci hcn hi hd ha hv hU2 S2 fun j hj => List.all_eq_true.mp n2 j hj
  exact k _ H2 sF S3
/-! ### a new list out of an own list that is lent -/
def oBor (i : Nat) (U ws : List Nat) (f : OF) : OF := fun env => if lendB env i U then (f (wipeE env ws)).bind fun p => match p.1 with
  | .lst xs => if noLs xs && U.all (fun j => noLo (gt p.2 j)) then some (.lst xs, putE env p.2 U) else none
  | _ => none
  else none
theorem do_bor {fo : OF} (i : Nat) (U ws : List Nat) (h : DO X C ⟨c.n, U, U, [], []⟩ e fo) (hk : lendOk c.O i U ws = true := by decide) (hci : c.ci = [] := by rfl) (hcn : c.cn = [] := by rfl) : DO X C c e (oBor i U ws fo) := by
  obtain ⟨hi, k1, k2, k3⟩ := lendOk_ok hk
  refine PE.imp h fun σ H Q ⟨z, F, env, d0, env', S, e, k⟩ => ?_
  unfold oBor at e
  split at e
  case isFalse => cases e
  next hl =>
  obtain ⟨⟨ds, hd⟩, hU⟩ := lendB_ok hl
  obtain ⟨⟨d1, e1⟩, h1, e⟩ := Option.bind_eq_some_iff.mp e
  obtain ⟨a, ha, fa, ⟨vs, hv, l, r⟩, za⟩ := S.own i _ hd hi
  have hU2 : ∀ j ∈ U, j ∈ c.O ∧ j ≠ i ∧ ∃ d, gt env j = some d := fun j hj => ⟨(k1 j hj).1, (k1 j hj).2, hU j hj⟩
  cases d1 with
  | lst xs =>
    dsimp only at e
    split at e
    case isFalse => cases e
    next hn =>
    cases e
    obtain ⟨n1, n2⟩ := andB hn
    refine ⟨_, _, _, _, _, S.lend hci hcn hi hd ha hv hU2 k2 k3, h1, fun p F2 H2 s2 S2 fp zp ow ap ng => ?_⟩
    obtain ⟨S3, sF, f2a⟩ := S.regain hci hcn hi hd ha hv hU2 S2 fun j hj => List.all_eq_true.mp n2 j hj
    have zp : H p = none := zp
    have pa : p ≠ a := fun q => by rw [q, hv] at zp; cases zp
    obtain ⟨ws', w1, w2, w3⟩ := ow
    refine k p _ H2 sF S3 (by rw [outE_ne pa]; exact fp) (S.free0 zp) ⟨ws', w1, w2, rp_outs f2a n1 w3⟩ (S.aptU hci hcn zp hU) (fun e' he => ?_)
    · obtain ⟨_, q3, _⟩ := S.gho p e' he
      obtain ⟨o, ho⟩ := q3.some
      rw [zp] at ho
      cases ho
  | _ => cases e
/-- y = [..] over an own list that is lent; y is data -/
theorem ds_setLcB {m : Bool} {pos : Pos} (k : Nat) {y : Str} {py spos : Pos} {elt tg iter : Expr} {ifs : List Expr} {scope : Scope} {fi : IF} {gg : GF} {tt : TF} {ts : List Nat} (i : Nat) (U ws : List Nat) (own : List (Str × Nat)) (hN : X.N.Nodup) (hi : DI X C ⟨c.n, U, U, [], []⟩ tg iter fi) (ok : BlkOk X.N X.env.scope scope own)
    (hg : ∀ (s : Shared) (H : Hp) (C' : Addr) (cl : List (Str × Addr)) (fp : List Addr), DG (X.blk s H scope (compEnvC scope cl C' X.env) fp) C ⟨c.n, U, U, [], []⟩ tg ts gg) (ht : ∀ (s : Shared) (H : Hp) (C' : Addr) (cl : List (Str × Addr)) (fp : List Addr), DTs (X.blk s H scope (compEnvC scope cl C' X.env) fp) C ⟨c.n, U, U, [], []⟩ ifs tt)
    (he : ∀ (s : Shared) (H : Hp) (C' : Addr) (cl : List (Str × Addr)) (fp : List Addr), DE (X.blk s H scope (compEnvC scope cl C' X.env) fp) C ⟨c.n, U, U, [], []⟩ elt f) (hsw : swapsWith (.ListComp elt [⟨tg, iter, ifs, 0⟩] scope pos) (some (.Name y py)) spos.line X.env = pure true)
    (ho : ∀ j ∈ own.map (·.2), j ∉ U ∧ j < c.n := by decide) (hts : ∀ t ∈ ts, t ∈ own.map (·.2) := by decide) (hO : k ∉ c.O := by decide) (hn : k < c.n := by decide) (hk : lendOk c.O i U ws = true := by decide) (hci : c.ci = [] := by rfl) (hcn : c.cn = [] := by rfl) (hy : X.N[k]? = some y := by rfl) (hyl : X.env.scope.names.lookup y = some .local := by rfl) (hc : X.calm = true := by rfl) (hs : ∀ x, foldedSetIterable iter X.env x = pure x := by intro _; rfl) :
    DS m X C c (.Assign [.Name y py] (.ListComp elt [⟨tg, iter, ifs, 0⟩] scope pos) spos) (sSet k (fO (oBor i U ws (oLc fi gg tt f (own.map (·.2)))))) := by
  obtain ⟨hiO, k1, k2, k3⟩ := lendOk_ok hk
  refine PS.imp (ps_setLc (wi := tI X.K C ⟨c.n, U, U, [], []⟩ fi) (g := tG X.K C ⟨c.n, U, U, [], []⟩ ts gg) (tt := tT X.K C ⟨c.n, U, U, [], []⟩ tt) (te := tE X.K C ⟨c.n, U, U, [], []⟩ f) hc hN hy hyl hsw hi ok (fun s H C' cl fp => hg s H C' cl fp) (fun s H C' cl fp => ht s H C' cl fp) (fun s H C' cl fp => he s H C' cl fp) hs) fun Dn σ H ⟨z, F, env, fl, S, hgh, e, kk⟩ => ?_
  simp only [sSet, fO, Option.bind_eq_some_iff] at e
  obtain ⟨r, ⟨⟨d, e1⟩, h1, e0⟩, e⟩ := e
  cases e0
  cases e
  unfold oBor at h1
  split at h1
  case isFalse => cases h1
  next hl =>
  obtain ⟨⟨ds, hd⟩, hU⟩ := lendB_ok hl
  obtain ⟨⟨d1, e2⟩, h2, h1⟩ := Option.bind_eq_some_iff.mp h1
  obtain ⟨a, ha, fa, ⟨vs, hv, l, r⟩, za⟩ := S.own i _ hd hiO
  have hU2 : ∀ j ∈ U, j ∈ c.O ∧ j ≠ i ∧ ∃ d, gt env j = some d := fun j hj => ⟨(k1 j hj).1, (k1 j hj).2, hU j hj⟩
  cases d1 with
  | lst xs =>
    dsimp only at h1
    split at h1
    case isFalse => cases h1
    next hn2 =>
    cases h1
    obtain ⟨n1, n2⟩ := andB hn2
    refine lc_read (c := ⟨c.n, U, U, [], []⟩) ho hts (S.lend hci hcn hiO hd ha hv hU2 k2 k3) h2 fun p F2 H2 s2 S2 fp zp ow ap ng => ?_
    obtain ⟨S3, sF, f2a⟩ := S.regain hci hcn hiO hd ha hv hU2 S2 fun j hj => List.all_eq_true.mp n2 j hj
    have zp : H p = none := zp
    have pa : p ≠ a := fun q => by rw [q, hv] at zp; cases zp
    obtain ⟨ws', w1, w2, w3⟩ := ow
    obtain ⟨o, S4, s4, r4⟩ := S3.freezeL (ds := xs) (a := p) (by rw [outE_ne pa]; exact fp) (S.free0 zp) ⟨ws', w1, w2, rp_outs f2a n1 w3⟩ (S.aptU hci hcn zp hU) (fun e' he => by
      obtain ⟨_, q3, _⟩ := S.gho p e' he
      obtain ⟨o, ho⟩ := q3.some
      rw [zp] at ho
      cases ho)
    exact kk _ _ H2 (sF.trans s4) (S4.setP hO hn r4)
  | _ => cases h1
end
end DL

namespace DL
open PySem L2
/-! ### reading the functions -/
theorem mulB_r (x : Int) {y : Int} (h1 : -18446744073709551616 < y) (h2 : y < 18446744073709551616) : mulB x y = true := by
  have e : (-(2 ^ 64) : Int) = -18446744073709551616 := by decide
  have e2 : ((2 ^ 64) : Int) = 18446744073709551616 := by decide
  unfold mulB
  rw [e, e2]
  simp [h1, h2]
theorem mulB_l {x : Int} (y : Int) (h1 : -18446744073709551616 < x) (h2 : x < 18446744073709551616) : mulB x y = true := by
  have e : (-(2 ^ 64) : Int) = -18446744073709551616 := by decide
  have e2 : ((2 ^ 64) : Int) = 18446744073709551616 := by decide
  unfold mulB
  rw [e, e2]
  simp [h1, h2]
theorem sQ_nx {f g : SF} {env e1 : Env} (h : f env = some (.nx e1)) : sQ f g env = g e1 := by simp [sQ, h]
theorem sQ_rt {f g : SF} {env e1 : Env} {d : D} (h : f env = some (.rt d e1)) : sQ f g env = some (.rt d e1) := by simp [sQ, h]
/-- a loop whose turns keep I -/
theorem forD_inv {g : GF} {f : SF} (I : Env → Prop) (P : D → Prop) (h : ∀ d env, P d → I env → ∃ e1, g d env = some e1 ∧ ∃ e2, (f e1 = some (.nx e2) ∨ f e1 = some (.ct e2)) ∧ I e2) : ∀ (ds : List D) (env : Env), (∀ d ∈ ds, P d) → I env → ∃ e', forD g f ds env = some (.nx e') ∧ I e'
  | [], env, _, hi => ⟨env, rfl, hi⟩
  | d :: ds, env, hp, hi => by
    obtain ⟨e1, h1, e2, h2, i2⟩ := h d env (hp d (List.mem_cons_self ..)) hi
    obtain ⟨e', h3, i3⟩ := forD_inv I P h ds e2 (fun x hx => hp x (List.mem_cons_of_mem _ hx)) i2
    refine ⟨e', ?_, i3⟩
    rcases h2 with h2 | h2 <;> simp [forD, h1, h2, h3]
/-- .. with the number of turns done -/
theorem forD_ix {g : GF} {f : SF} (I : Nat → Env → Prop) : ∀ (ds : List D) (n : Nat) (env : Env), (∀ (j : Nat) (d : D) env, ds[j]? = some d → I (n + j) env → ∃ e1, g d env = some e1 ∧ ∃ e2, (f e1 = some (.nx e2) ∨ f e1 = some (.ct e2)) ∧ I (n + j + 1) e2) → I n env → ∃ e', forD g f ds env = some (.nx e') ∧ I (n + ds.length) e'
  | [], n, env, _, hi => ⟨env, rfl, hi⟩
  | d :: ds, n, env, h, hi => by
    obtain ⟨e1, h1, e2, h2, i2⟩ := h 0 d env rfl hi
    obtain ⟨e', h3, i3⟩ := forD_ix I ds (n + 1) e2 (fun j d' env' hj hi' => by
      have := h (j + 1) d' env' (by simpa using hj) (by rw [show n + (j + 1) = n + 1 + j by omega]; exact hi')
      rw [show n + (j + 1) + 1 = n + 1 + j + 1 by omega] at this
      exact this) i2
    refine ⟨e', ?_, by rw [List.length_cons, show n + (ds.length + 1) = n + 1 + ds.length by omega]; exact i3⟩
    rcases h2 with h2 | h2 <;> simp [forD, h1, h2, h3]
theorem rngD_mem {n : Nat} {d : D} (h : d ∈ rngD 0 n) : ∃ i : Nat, i < n ∧ d = .int (i : Nat) := by
  simp only [rngD, List.mem_map, List.mem_range] at h
  obtain ⟨i, hi, rfl⟩ := h
  exact ⟨i, hi, by simp⟩
theorem rng_ok {ns : List Int} {e : Env} (h0 : gt e 0 = some (.scr ns)) (lo hi : Int) (h1 : 0 ≤ lo) (h2 : lo ≤ hi) (h3 : hi ≤ 1000) : ∃ n : Nat, iR1 (aC (fB maxD (aC (fC (.int lo)) (aC (fB minD (aC (fC (.int hi)) (aC (fB lenD (aC (fV 0) aN)) aN))) aN))) aN) e = some (rngD 0 n, e) := by
  have key : ∀ x : Int, 0 ≤ x → x ≤ 1000 → (if -(2 ^ 62) ≤ x then gd x.toNat (some (rngD 0 x.toNat, e)) else none) = some (rngD 0 x.toNat, e) := fun x hx hy => by
    rw [if_pos (by omega)]
    unfold gd
    rw [if_pos (by omega)]
  refine ⟨(if (if (ns.length : Int) < hi then (ns.length : Int) else hi) > lo then (if (ns.length : Int) < hi then (ns.length : Int) else hi) else lo).toNat, ?_⟩
  have q := key (if (if (ns.length : Int) < hi then (ns.length : Int) else hi) > lo then (if (ns.length : Int) < hi then (ns.length : Int) else hi) else lo) (by split <;> omega) (by split <;> omega)
  rw [← q]
  simp only [iR1, aC, aN, fB, fC, fV, h0, Option.bind_some, rdAll, rdB, lenD, lenOf, minD, maxD]
/-! ### the ways in which a list can be mixed -/
def mixes : Nat → List D → List (List D)
  | 0, _ => [[]]
  | n + 1, xs => (List.range (n + 1)).flatMap fun i => match xs[i]? with
    | some x => (mixes n (xs.eraseIdx i)).map fun r => x :: r
    | none => []
/-- out is a mix of xs: the items are taken one behind another -/
inductive Mix : List D → List D → Prop
  | nil : Mix [] []
  | cons {xs : List D} {i : Nat} {x : D} {out : List D} : xs[i]? = some x → Mix (xs.eraseIdx i) out → Mix xs (x :: out)
theorem Mix.mem {xs out : List D} (h : Mix xs out) : ∀ d ∈ out, d ∈ xs := by
  induction h with
  | nil => exact fun d h => h
  | cons h1 _ ih =>
    intro d hd
    rcases List.mem_cons.mp hd with q | q
    · subst q; exact List.mem_of_getElem? h1
    · exact (List.eraseIdx_subset) (ih d q)
theorem get_erase_perm : ∀ (xs : List D) (i : Nat) (lt : i < xs.length), (xs[i] :: xs.eraseIdx i).Perm xs
  | x :: xs, 0, _ => List.Perm.refl _
  | x :: xs, i + 1, lt => by
    have := get_erase_perm xs i (by simpa using lt)
    exact (List.Perm.swap ..).trans (List.Perm.cons x this)
theorem Mix.perm {xs out : List D} (h : Mix xs out) : out.Perm xs := by
  induction h with
  | nil => exact .nil
  | @cons xs i x out h1 _ ih =>
    obtain ⟨lt, e⟩ := List.getElem?_eq_some_iff.mp h1
    subst e
    exact (List.Perm.cons _ ih).trans (get_erase_perm xs i lt)
theorem Mix.length {xs out : List D} (h : Mix xs out) : out.length = xs.length := h.perm.length_eq
theorem Mix.mixes {xs out : List D} (h : Mix xs out) : ∀ n, xs.length = n → out ∈ mixes n xs := by
  induction h with
  | nil => intro n hn; subst hn; simp [DL.mixes]
  | @cons xs i x out h1 _ ih =>
    intro n hn
    have lt : i < xs.length := (List.getElem?_eq_some_iff.mp h1).1
    cases n with
    | zero => omega
    | succ n =>
      simp only [DL.mixes, List.mem_flatMap, List.mem_range]
      refine ⟨i, by omega, ?_⟩
      rw [h1]
      exact List.mem_map.mpr ⟨out, ih n (by rw [List.length_eraseIdx]; split <;> omega), rfl⟩
/-- a box: the state of the law's numbers -/
def Bx (d : D) : Prop := ∃ a b t : Int, d = .lst [.int a, .int b, .int t] ∧ 0 ≤ b ∧ b < 4294967296
end DL

namespace DL
open PySem L2
/-- a comprehension over data of one form -/
theorem lcD_map {α : Type} {gg : GF} {tt : TF} {f : EF} {own : List Nat} {env : Env} (φ ψ : α → D) (p : α → Bool) (e1 : α → Env) : ∀ (xs : List α) (acc : List D), (∀ x ∈ xs, gg (φ x) env = some (e1 x) ∧ tt (e1 x) = some (p x, e1 x) ∧ (p x = true → f (e1 x) = some (.val (ψ x), e1 x)) ∧ wipeE (e1 x) own = env) →
    lcD gg tt f own (xs.map φ) env acc = some (acc ++ (xs.filter p).map ψ, env)
  | [], acc, _ => by simp [lcD]
  | x :: xs, acc, h => by
    obtain ⟨h1, h2, h3, h4⟩ := h x (List.mem_cons_self ..)
    have ih := fun acc => lcD_map φ ψ p e1 xs acc fun y hy => h y (List.mem_cons_of_mem _ hy)
    cases hp : p x with
    | true => simp [lcD, h1, h2, hp, h3 hp, h4, ih, List.filter_cons]
    | false => simp [lcD, h1, h2, hp, h4, ih, List.filter_cons]
theorem lcD_map0 {α : Type} {gg : GF} {tt : TF} {f : EF} {own : List Nat} {env : Env} (φ ψ : α → D) (p : α → Bool) (e1 : α → Env) (xs : List α) (h : ∀ x ∈ xs, gg (φ x) env = some (e1 x) ∧ tt (e1 x) = some (p x, e1 x) ∧ (p x = true → f (e1 x) = some (.val (ψ x), e1 x)) ∧ wipeE (e1 x) own = env) :
    lcD gg tt f own (xs.map φ) env [] = some ((xs.filter p).map ψ, env) := by
  have := lcD_map (gg := gg) (tt := tt) (f := f) (own := own) (env := env) φ ψ p e1 xs [] h
  rwa [List.nil_append] at this
theorem blsD_true {α : Type} (xs : List α) : blsD (xs.map fun _ => D.bl true) = some (xs.map fun _ => true) := by
  induction xs with
  | nil => rfl
  | cons x xs ih => simp [blsD, ih]
theorem neD_int (i j : Int) : neD (.int i) (.int j) = some (.bl (!(i == j))) := rfl
theorem eqD_int (i j : Int) : eqD (.int i) (.int j) = some (.bl (i == j)) := rfl
theorem neD_bl (i j : Bool) : neD (.bl i) (.bl j) = some (.bl (!(i == j))) := rfl
theorem inD_pair (x a b : Int) : inD (.int x) (.tup [.int a, .int b]) = some (.bl (a == x || b == x)) := by
  have e : inD (.int x) (.tup [.int a, .int b]) = some (.bl (a == x || (b == x || false))) := rfl
  rw [e, Bool.or_false]
/-- ties that are ties of n posts -/
def VT (n : Int) (ts : List (Int × Int)) : Prop := ∀ q ∈ ts, 0 ≤ q.1 ∧ q.1 < n ∧ 0 ≤ q.2 ∧ q.2 < n ∧ q.1 ≠ q.2
end DL
namespace DL
theorem sub_len {α : Type} [BEq α] [LawfulBEq α] : ∀ {l m : List α}, l.Nodup → (∀ x ∈ l, x ∈ m) → l.length ≤ m.length
  | [], _, _, _ => Nat.zero_le _
  | x :: l, m, hn, h => by
    rw [List.nodup_cons] at hn
    have hx := h x (List.mem_cons_self ..)
    have ih := sub_len (l := l) (m := m.erase x) hn.2 fun y hy => by
      have hne : y ≠ x := fun q => hn.1 (q ▸ hy)
      exact (List.mem_erase_of_ne hne).mpr (h y (List.mem_cons_of_mem _ hy))
    rw [List.length_erase_of_mem hx] at ih
    have : 0 < m.length := List.length_pos_of_mem hx
    rw [List.length_cons]; omega
def upN (n : Nat) : List Int := (List.range n).map fun (i : Nat) => (i : Int)
theorem mem_upN {n : Nat} {x : Int} : x ∈ upN n ↔ 0 ≤ x ∧ x < n := by
  simp only [upN, List.mem_map, List.mem_range]
  constructor
  · rintro ⟨i, hi, rfl⟩; omega
  · intro ⟨h1, h2⟩; exact ⟨x.toNat, by omega, by omega⟩
theorem upN_nodup (n : Nat) : (upN n).Nodup := by
  unfold upN
  rw [List.nodup_iff_pairwise_ne, List.pairwise_map]
  exact (List.nodup_range (n := n)).imp fun h q => h (by omega)
theorem upN_len (n : Nat) : (upN n).length = n := by simp [upN]
/-- every post but the first has a tie to a lower one -/
def Joined (n : Nat) (ts : List (Int × Int)) : Prop := ∀ p : Nat, 0 < p → p < n → ∃ q ∈ ts, (q.2 = (p : Int) ∧ 0 ≤ q.1 ∧ q.1 < (p : Int)) ∨ (q.1 = (p : Int) ∧ 0 ≤ q.2 ∧ q.2 < (p : Int))
/-- a set that holds the first and is closed holds all -/
theorem joined_all {n : Nat} {ts : List (Int × Int)} {ks : List Int} (h : Joined n ts) (h0 : (0 : Int) ∈ ks) (hc : ∀ v ∈ ks, ∀ q ∈ ts, (q.1 = v → q.2 ∈ ks) ∧ (q.2 = v → q.1 ∈ ks)) : ∀ p : Nat, p < n → (p : Int) ∈ ks := by
  intro p
  induction p using Nat.strongRecOn with
  | _ p ih =>
    intro hp
    by_cases e : p = 0
    · subst e; exact h0
    · obtain ⟨q, hq, h1 | h1⟩ := h p (by omega) hp
      · obtain ⟨e2, a1, a2⟩ := h1
        have := ih q.1.toNat (by omega) (by omega)
        rw [Int.toNat_of_nonneg a1] at this
        rw [← e2]
        exact (hc _ this q hq).1 rfl
      · obtain ⟨e2, a1, a2⟩ := h1
        have := ih q.2.toNat (by omega) (by omega)
        rw [Int.toNat_of_nonneg a1] at this
        rw [← e2]
        exact (hc _ this q hq).2 rfl
theorem iR2_ok {fa : AF} {env e' : Env} {bs : List B} {i j : Int} (h : fa env = some (bs, e')) (h2 : rdAll e' bs = some [.int i, .int j]) (hi : -1000000 ≤ i) (hi2 : i ≤ 1000000) (hj : -1000000 ≤ j) (hj2 : j ≤ 1000000) : iR2 fa env = some (rngD i (j - i).toNat, e') := by
  unfold iR2
  rw [h]
  simp only [Option.bind_some]
  rw [h2]
  simp only [Option.bind_some]
  rw [if_pos (by simp only [Bool.and_eq_true, decide_eq_true_eq]; omega)]
  unfold gd
  rw [if_pos (by omega)]
theorem iR1_ok {fa : AF} {env e' : Env} {bs : List B} {j : Int} (h : fa env = some (bs, e')) (h2 : rdAll e' bs = some [.int j]) (hj : -1000000 ≤ j) (hj2 : j ≤ 1000000) : iR1 fa env = some (rngD 0 j.toNat, e') := by
  unfold iR1
  rw [h]
  simp only [Option.bind_some]
  rw [h2]
  simp only [Option.bind_some]
  rw [if_pos (by omega)]
  unfold gd
  rw [if_pos (by omega)]
/-- all posts hang together -/
def Conn (n : Nat) (ts : List (Int × Int)) : Prop := ∀ ks : List Int, (0 : Int) ∈ ks → (∀ v ∈ ks, ∀ q ∈ ts, (q.1 = v → q.2 ∈ ks) ∧ (q.2 = v → q.1 ∈ ks)) → ∀ p : Nat, p < n → (p : Int) ∈ ks
theorem Joined.conn {n : Nat} {ts : List (Int × Int)} (h : Joined n ts) : Conn n ts := fun _ h0 hc => joined_all h h0 hc
theorem Conn.perm {n : Nat} {ts us : List (Int × Int)} (h : Conn n ts) (p : us.Perm ts) : Conn n us := fun ks h0 hc => h ks h0 fun v hv q hq => hc v hv q (p.mem_iff.mpr hq)
theorem Conn.more {n : Nat} {ts us : List (Int × Int)} (h : Conn n ts) (p : ∀ q ∈ ts, q ∈ us) : Conn n us := fun ks h0 hc => h ks h0 fun v hv q hq => hc v hv q (p q hq)
theorem plains_iff : ∀ {xs : List D}, plains xs = true ↔ ∀ x ∈ xs, DL.plain x = true
  | [] => ⟨fun _ x h => (nomatch h), fun _ => rfl⟩
  | x :: xs => by
    have e : plains (x :: xs) = (DL.plain x && plains xs) := rfl
    rw [e, Bool.and_eq_true, plains_iff]
    simp
theorem ne_nilD {xs : List D} (h : plains xs = true) : neD (.lst xs) (.lst []) = some (.bl (!xs.isEmpty)) := by
  unfold neD
  have h1 : DL.plain (.lst xs) = true := h
  rw [if_pos]
  · cases xs <;> rfl
  · have : decide (min (dp (.lst xs)) (dp (.lst [])) ≤ 60) = true := by
      rw [decide_eq_true_eq]
      have : dp (.lst []) = 1 := rfl
      omega
    rw [h1, this]
    rfl
theorem eq_nilD {xs : List D} (h : plains xs = true) : eqD (.lst xs) (.lst []) = some (.bl xs.isEmpty) := by
  unfold eqD
  have h1 : DL.plain (.lst xs) = true := h
  rw [if_pos]
  · cases xs <;> rfl
  · have : decide (min (dp (.lst xs)) (dp (.lst [])) ≤ 60) = true := by
      rw [decide_eq_true_eq]
      have : dp (.lst []) = 1 := rfl
      omega
    rw [h1, this]
    rfl
end DL

namespace DL
open PySem L2
/-! ### reading the functions step by step -/
section
variable {env e e1 e2 e3 : Env} {f g h : EF} {fa : AF} {ff : FF} {op : D → D → Option D} {i np : Nat} {d x y r : D} {b b1 b2 : B} {bs : List B} {ds dd outs : List D} {k : Bool} {t t1 t2 : TF} {s s1 s2 : SF} {fl : Fl}
theorem r_V (hh : gt env i = some d) : fV i env = some (.val d, env) := by simp [fV, hh]
theorem r_S (hh : gt env i = some d) : fS i env = some (.slot i, env) := by simp [fS, hh]
theorem r_2 (h1 : f env = some (b1, e1)) (h2 : g e1 = some (b2, e2)) (hx : rdB e2 b1 = some x) (hy : rdB e2 b2 = some y) (ho : op x y = some d) : f2 op f g env = some (.val d, e2) := by simp [f2, h1, h2, hx, hy, ho]
theorem r_T (h1 : f env = some (.val (.bl k), e1)) : fTst f env = some (k, e1) := by simp [fTst, h1, isB]
theorem r_not (h1 : t env = some (k, e1)) : fNot t env = some (!k, e1) := by simp [fNot, h1]
theorem r_notT (h1 : t env = some (true, e1)) : fNot t env = some (false, e1) := by simp [fNot, h1]
theorem r_notF (h1 : t env = some (false, e1)) : fNot t env = some (true, e1) := by simp [fNot, h1]
theorem r_notV (h1 : f env = some (.val (.bl k), e1)) : fNotV f env = some (.val (.bl (!k)), e1) := by simp [fNotV, r_T h1]
theorem r_andF (h1 : t1 env = some (false, e1)) : fAnd t1 t2 env = some (false, e1) := by simp [fAnd, h1]
theorem r_andT (h1 : t1 env = some (true, e1)) (h2 : t2 e1 = some (k, e2)) : fAnd t1 t2 env = some (k, e2) := by simp [fAnd, h1, h2]
theorem r_orT (h1 : t1 env = some (true, e1)) : fOr t1 t2 env = some (true, e1) := by simp [fOr, h1]
theorem r_orF (h1 : t1 env = some (false, e1)) (h2 : t2 e1 = some (k, e2)) : fOr t1 t2 env = some (k, e2) := by simp [fOr, h1, h2]
theorem r_andVF (h1 : f env = some (.val (.bl false), e1)) : fAndV f g env = some (.val (.bl false), e1) := by simp [fAndV, r_T h1]
theorem r_andVT (h1 : f env = some (.val (.bl true), e1)) (h2 : g e1 = some (b, e2)) : fAndV f g env = some (b, e2) := by simp [fAndV, r_T h1, h2]
theorem r_orVT (h1 : f env = some (.val (.bl true), e1)) : fOrV f g env = some (.val (.bl true), e1) := by simp [fOrV, r_T h1]
theorem r_orVF (h1 : f env = some (.val (.bl false), e1)) (h2 : g e1 = some (b, e2)) : fOrV f g env = some (b, e2) := by simp [fOrV, r_T h1, h2]
theorem r_ifT (h1 : t env = some (true, e1)) (h2 : f e1 = some (b, e2)) : fIf t f g env = some (b, e2) := by simp [fIf, h1, h2]
theorem r_ifF (h1 : t env = some (false, e1)) (h2 : g e1 = some (b, e2)) : fIf t f g env = some (b, e2) := by simp [fIf, h1, h2]
theorem r_aN : aN env = some ([], env) := rfl
theorem r_aC (h1 : f env = some (b, e1)) (h2 : fa e1 = some (bs, e2)) : aC f fa env = some (b :: bs, e2) := by simp [aC, h1, h2]
theorem r_tup (h1 : fa env = some (bs, e1)) (h2 : vals bs = some ds) (hl : ds.length ≤ 16777216) : fTup fa env = some (.val (.tup ds), e1) := by simp [fTup, h1, h2, gd, hl]
theorem r_lst (h1 : fa env = some (bs, e1)) (h2 : vals bs = some ds) (hl : ds.length ≤ 16777216) : oLst fa env = some (.lst ds, e1) := by simp [oLst, h1, h2, gd, hl]
theorem r_O {fo : OF} (h1 : fo env = some (d, e1)) : fO fo env = some (.val d, e1) := by simp [fO, h1]
theorem r_P (h1 : f env = some (.val d, e1)) : oP f env = some (d, e1) := by simp [oP, h1]
theorem r_B {o : List D → Option D} (h1 : fa env = some (bs, e1)) (h2 : rdAll e1 bs = some ds) (ho : o ds = some d) : fB o fa env = some (.val d, e1) := by simp [fB, h1, h2, ho]
theorem r_OB {o : List D → Option D} (h1 : fa env = some (bs, e1)) (h2 : rdAll e1 bs = some ds) (ho : o ds = some d) : oB o fa env = some (d, e1) := by simp [oB, h1, h2, ho]
theorem r_C0 (h1 : fa env = some (bs, e1)) (h2 : vals bs = some ds) (h3 : ff (ds ++ dd) = some (d, outs)) (hl : (ds ++ dd).length = np) : fC0 np ff dd fa env = some (.val d, e1) := by
  unfold fC0
  rw [h1]
  simp only [Option.bind_some]
  rw [h2]
  simp only [Option.bind_some]
  rw [if_pos hl, h3]
  rfl
theorem r_OC0 (h1 : fa env = some (bs, e1)) (h2 : vals bs = some ds) (h3 : ff (ds ++ dd) = some (d, outs)) (hl : (ds ++ dd).length = np) : oC0 np ff dd fa env = some (d, e1) := by
  unfold oC0
  rw [h1]
  simp only [Option.bind_some]
  rw [h2]
  simp only [Option.bind_some]
  rw [if_pos hl, h3]
  rfl
theorem r_C1 (h1 : fa env = some (bs, e1)) (h2 : ioArgs e1 bs = some (i, ds)) (h3 : ff ds = some (d, [x])) (hl : ds.length = np) (hE : st e1 i (some x) = e2) : fC1 np ff fa env = some (.val d, e2) := by
  subst hE
  unfold fC1
  rw [h1]
  simp only [Option.bind_some]
  rw [h2]
  simp only [Option.bind_some]
  rw [if_pos hl, h3]
  rfl
theorem r_OC1 (h1 : fa env = some (bs, e1)) (h2 : ioArgs e1 bs = some (i, ds)) (h3 : ff ds = some (d, [x])) (hl : ds.length = np) (hE : st e1 i (some x) = e2) : oC1 np ff fa env = some (d, e2) := by
  subst hE
  unfold oC1
  rw [h1]
  simp only [Option.bind_some]
  rw [h2]
  simp only [Option.bind_some]
  rw [if_pos hl, h3]
  rfl
theorem r_Mk {kk : Nat} (h1 : fa env = some (bs, e1)) (h2 : vals bs = some ds) (h3 : ff (.obj kk [] :: (ds ++ dd)) = some (.non, [d])) (hl : (D.obj kk [] :: (ds ++ dd)).length = np) : oMk kk np ff dd fa env = some (d, e1) := by
  unfold oMk
  rw [h1]
  simp only [Option.bind_some]
  rw [h2]
  simp only [Option.bind_some]
  rw [if_pos hl, h3]
  rfl
theorem r_X {xs : List D} (h1 : f env = some (.val d, e1)) (h2 : itms d = some xs) : iX f env = some (xs, e1) := by simp [iX, h1, h2]
theorem r_En {xs : List D} (h1 : f env = some (.val d, e1)) (h2 : itmsS d = some xs) : iEn f env = some (enumL xs, e1) := by simp [iEn, h1, h2]
theorem r_Lc {it : IF} {gg : GF} {tt : TF} {own : List Nat} {xs ys : List D} (h1 : it env = some (xs, e1)) (h2 : lcD gg tt f own xs (wipeE e1 own) [] = some (ys, e2)) (h3 : backE e1 own e2 = e3) : oLc it gg tt f own env = some (.lst ys, e3) := by
  unfold oLc
  rw [h1]
  simp only [Option.bind_some]
  rw [h2]
  simp only [Option.bind_some]
  rw [h3]
theorem r_set (h1 : f env = some (.val d, e1)) (hE : st e1 i (some d) = e2) : sSet i f env = some (.nx e2) := by simp [sSet, h1, hE]
theorem r_setO {fo : OF} (h1 : fo env = some (d, e1)) (hE : st e1 i (some d) = e2) : sSetO i fo env = some (.nx e2) := by simp [sSetO, h1, hE]
theorem r_par {i j : Nat} {fo go : OF} (h1 : fo env = some (x, e1)) (h2 : go e1 = some (y, e2)) (hE : st (st e2 i (some x)) j (some y) = e3) : sPar i j fo go env = some (.nx e3) := by simp [sPar, h1, h2, hE]
theorem r_par3 {i j l : Nat} {d1 d2 d3 : D} (h1 : fa env = some (bs, e1)) (h2 : vals bs = some [d1, d2, d3]) (hE : st (st (st e1 i (some d1)) j (some d2)) l (some d3) = e2) : sPar3 i j l fa env = some (.nx e2) := by
  subst hE
  unfold sPar3
  rw [h1]
  simp only [Option.bind_some]
  rw [h2]
  rfl
theorem r_sT (h1 : t env = some (true, e1)) (h2 : s1 e1 = some fl) : sIf t s1 s2 env = some fl := by simp [sIf, h1, h2]
theorem r_sF (h1 : t env = some (false, e1)) (h2 : s2 e1 = some fl) : sIf t s1 s2 env = some fl := by simp [sIf, h1, h2]
theorem r_Q (h1 : s1 env = some (.nx e1)) (h2 : s2 e1 = some fl) : sQ s1 s2 env = some fl := by simp [sQ, h1, h2]
theorem r_Qr (h1 : s1 env = some (.rt d e1)) : sQ s1 s2 env = some (.rt d e1) := by simp [sQ, h1]
theorem r_N : sN env = some (.nx env) := rfl
theorem r_R (h1 : f env = some (.val d, e1)) : sR f env = some (.rt d e1) := by simp [sR, h1]
theorem r_for {it : IF} {gg : GF} {xs : List D} (h1 : it env = some (xs, e1)) (h2 : forD gg s xs e1 = some fl) : sFor it gg s env = some fl := by
  unfold sFor
  rw [h1]
  exact h2
theorem r_asg {gg : GF} (h1 : f env = some (.val d, e1)) (h2 : gg d e1 = some e2) : sAsg f gg env = some (.nx e2) := by simp [sAsg, h1, h2]
theorem r_run {c : Cs} {fb : SF} (h1 : fb (env0 c.n ds) = some fl) (h2 : endF c.io fl = some (d, outs)) : runF c fb ds = some (d, outs) := by
  unfold runF
  rw [h1]
  exact h2
theorem r_Is {T : String} (h1 : f env = some (b, e1)) (h2 : rdB e1 b = some d) (h3 : instB T d = some k) : fIs T f env = some (.val (.bl k), e1) := by simp [fIs, h1, h2, h3]
theorem r_frz (h1 : s env = some fl) : sFrz i s env = some (fl.wipe i) := by simp [sFrz, h1]
end
theorem rgB_of {i j : Int} (h1 : -1000000 ≤ i) (h2 : i ≤ 1000000) (h3 : -1000000 ≤ j) (h4 : j ≤ 1000000) : rgB i j = true := by
  unfold rgB
  simp only [Bool.and_eq_true, decide_eq_true_eq]
  omega
theorem rgL_ok {r : RF} {env e : Env} {i j : Int} (h : r env = some (i, j, e)) (h1 : -1000000 ≤ i) (h2 : i ≤ 1000000) (h3 : -1000000 ≤ j) (h4 : j ≤ 1000000) : oRgL r env = some (.lst (rngD i (j - i).toNat), e) := by
  unfold oRgL
  rw [h]
  simp only [Option.bind_some]
  rw [if_pos (rgB_of h1 h2 h3 h4)]
theorem rgT_ok {r : RF} {env e : Env} {i j : Int} (h : r env = some (i, j, e)) (h1 : -1000000 ≤ i) (h2 : i ≤ 1000000) (h3 : -1000000 ≤ j) (h4 : j ≤ 1000000) : fRgT r env = some (.val (.tup (rngD i (j - i).toNat)), e) := by
  unfold fRgT
  rw [h]
  simp only [Option.bind_some]
  rw [if_pos (rgB_of h1 h2 h3 h4)]
end DL

namespace DL
open PySem PySem.Spec PyProof.Rows L2
/-! ### a clause of a comprehension at work, whatever stands behind its tests; two of them, one within the other, fill a dict -/
/-- what one turn of a clause does: body stands for what is done where the tests let it -/
def clauseSem (tg src : Expr) (ifs : List Expr) (it : Value) (body : Sem Fin → Sem Fin) (env : PySem.Env) (c : Code) : Sem Fin := do
  standAt src.pos
  match ← pyNext it with
  | none => pure (.done .next)
  | some v =>
    letOwnedTupleGo tg it v
    assign tg env v
    let mut ok := true
    for q in ifs do
      if ok then ok ← isTrue q env (eval q env)
    if ok then body (again c) else again c
abbrev TB := L2.St → Hp → (Hp → Prop) → Prop
/-- the body's rule: behind it the names vs are forgotten -/
def Body (Y : Cx) (body : Sem Fin → Sem Fin) (vs : List Nat) (tb : TB) : Prop := ∀ (pins : List (Addr × Obj)) (σ : L2.St) (H : Hp) (s : Shared) (N : Hp → Prop) (k : Sem Fin) (Q : Fin → Shared → Prop) (E : Value → Shared → Prop), Inv Y pins σ H s → tb σ H N →
  (∀ s' H', Inv Y pins (wipe σ vs) H' s' → N H' → wpAny (model Y.prog Y.w) Y.A k Q E s') → wpAny (model Y.prog Y.w) Y.A (body k) Q E s
/-- what is asked of a clause's loop -/
def tLoop (J : It) (g : TG) (tt : TT) (tb : TB) (vs : List Nat) (σ : L2.St) (H : Hp) (fin : Hp → Prop) : Prop := ∃ W : Nat → Nat → Hp → Prop, (∃ m, W 0 m H) ∧ ∀ i m H, W i m H →
  (J.stop i H ∧ fin H) ∨ (J.go i H ∧ ∃ Nx : Hp → Prop, (∀ H', Nx H' → ∃ m', m' < m ∧ W (i + 1) m' H') ∧ ∀ x H', J.yld i H x H' → g x (wipe σ vs) H' fun σ2 H2 => wipe σ2 vs = wipe σ vs ∧ tt σ2 H2 fun b H3 => if b = true then tb σ2 H3 Nx else Nx H3)
theorem wipe_weak {X : Cx} {pins : List (Addr × Obj)} {σ : L2.St} {H : Hp} {s : Shared} (vs : List Nat) (I : Inv X pins σ H s) : Inv X pins (wipe σ vs) H s := I.weak (wipe_length _ _) fun _ _ e => (wipe_some e).1
theorem clause_run {Y : Cx} {c : Code} {tg src : Expr} {ifs : List Expr} {it : Addr} {fp : List Addr} {tn : Nat → Heap → Prop} {J : It} {body : Sem Fin → Sem Fin} {g : TG} {tt : TT} {tb : TB} {vs : List Nat} {pins : List (Addr × Obj)} {σ : L2.St} {H : Hp} {s : Shared} {fin : Hp → Prop}
    (hq : c.quiet = true) (hA : Y.A.under c = Y.A) (hd : (model Y.prog Y.w).den c = (clauseSem tg src ifs (.ref it) body Y.env c).onRaise fun x => do noteFrame x Y.env; theTreesLotGoes x) (hc : Y.calm = true) (hx : Y.xe = fun _ _ => False)
    (T : Turn Y.prog Y.w Y.K tg J fp it tn) (pg : PG Y tg g) (pt : PTs Y ifs tt) (hb : Body Y body vs tb) (I : Inv Y pins σ H s) (st0 : tn 0 s.heap) (nf : ∀ b ∈ fp, FpOk Y pins H b) (h : tLoop J g tt tb vs σ H fin) :
    codeAny (model Y.prog Y.w) Y.A c (fun r s' => r = .ok .next ∧ ∃ H', Inv Y pins (wipe σ vs) H' s' ∧ fin H') s := by
  obtain ⟨W, ⟨m0, w0⟩, turn⟩ := h
  refine codeAny_loop hq (fun m s' => ∃ i H', Inv Y pins (wipe σ vs) H' s' ∧ tn i s'.heap ∧ (∀ b ∈ fp, FpOk Y pins H' b) ∧ W i m H') (fun m s1 ⟨i, H1, I1, st1, nf1, w1⟩ => ?_) m0 ⟨0, H, wipe_weak vs I, st0, nf, w0⟩
  rw [hA, hd]
  refine wpAny_noted ?_
  unfold clauseSem
  refine wpAny_bind (wpAny_standAt ?_)
  rcases turn i m H1 w1 with ⟨h1, h2⟩ | ⟨go, Nx, hN, step⟩
  · refine wpAny_bind (thnF (T.done Y rfl rfl rfl hc i pins s1 _ H1 _ I1 nf1 st1 h1) fun r s2 ⟨hr, I2⟩ => ?_)
    subst hr
    exact wpAny_pure ⟨rfl, H1, I2, h2⟩
  · refine wpAny_bind (thnF (T.item Y rfl rfl rfl hc i pins s1 _ H1 _ I1 nf1 st1 go) fun r s2 ⟨u, hr, h6⟩ => ?_)
    subst hr
    refine wpAny_bind (thnF h6 fun _ s3 ⟨x, H3, I3, r3, y3, st3, n3⟩ => ?_)
    have nf3 : ∀ b ∈ fp, FpOk Y pins H3 b := fun b hb' => ⟨n3 b hb', (nf1 b hb').2⟩
    have I4 := I3.pinned nf3 (T.obj _ _ st3)
    have pgr := pg.run _ s3 _ H3 x u _ I4 r3 (step x H3 y3)
    rw [hx] at pgr
    refine wpAny_bind (thnF pgr fun _ s4 ⟨σ4, H4, I5, hw, q4⟩ => ?_)
    have ptr := pt.run _ s4 σ4 H4 _ I5 q4
    rw [hx] at ptr
    refine wpAny_bind (thnF ptr fun b s5 ⟨H5, I6, q5⟩ => ?_)
    have back : ∀ {s' : Shared} {H' : Hp}, Inv Y (pins ++ pinsAt fp s3.heap) (wipe σ4 vs) H' s' → Nx H' → ∃ m', m' < m ∧ ∃ i H', Inv Y pins (wipe σ vs) H' s' ∧ tn i s'.heap ∧ (∀ b ∈ fp, FpOk Y pins H' b) ∧ W i m' H' := fun {s' H'} I' nx => by
      obtain ⟨m', lt, w'⟩ := hN H' nx
      rw [hw] at I'
      have stay : ∀ b ∈ fp, ∀ o, s3.heap.get? b = some o → s'.heap.get? b = some o ∧ H' b = none := fun b hb' o e => by
        have z := I'.pin (b, o) (List.mem_append_right _ (List.mem_append_right _ (mem_pinsAt hb' e)))
        exact ⟨z.1, z.2.1⟩
      refine ⟨m', lt, i + 1, H', I'.unpinned, T.keep _ _ _ st3 fun b hb' o e => (stay b hb' o e).1, fun b hb' => ?_, w'⟩
      obtain ⟨o, e, _⟩ := T.obj _ _ st3 b hb'
      exact ⟨(stay b hb' o e).2, (nf1 b hb').2⟩
    cases b with
    | false => exact wpAny_pure ⟨rfl, back (wipe_weak vs I6) q5⟩
    | true => exact hb _ σ4 H5 s5 _ _ _ _ I6 q5 fun s6 H6 I7 nx => wpAny_pure ⟨rfl, back I7 nx⟩
/-! the innermost body of a dict's comprehension -/
def emitD (kx vx : Expr) (D : Addr) (env : PySem.Env) : Sem Unit := do
  let kv ← eval kx env
  let vv ← holding [kv] (eval vx env)
  standAt { kx.pos with endLine := vx.pos.endLine, endCol := vx.pos.endCol }
  holding [kv, vv] (dictSet D kv vv)
def tEmit (D : Addr) (tk tv : TE) : TB := fun σ H N => tk σ H fun y H4 => tv σ H4 fun z H5 => ∃ kvs k, y = kV k ∧ H5 D = some (.dK kvs) ∧ kvs.length < sizeLine ∧ N (upd H5 D (.dK (putK kvs k z)))
theorem body_emit {Y : Cx} {kx vx : Expr} {D : Addr} {tk tv : TE} (vs : List Nat) (hx : Y.xe = fun _ _ => False) (pk : PE Y kx tk) (pv : PE Y vx tv) : Body Y (fun k => do emitD kx vx D Y.env; k) vs (tEmit D tk tv) := fun pins σ H s N k Q E I h fin => by
  have r1 := pk.run pins s σ H _ I h
  rw [hx] at r1
  refine wpAny_bind ?_
  unfold emitD
  refine wpAny_bind (thnF r1 fun kv s1 ⟨y, H1, I1, ry, h1⟩ => ?_)
  have r2 := pv.run pins s1 σ H1 _ I1 h1
  rw [hx] at r2
  refine wpAny_bind (wpAny_holding (thnF r2 fun vv s2 ⟨z, H2, I2, rz, kvs, k, ek, hD, hz, n2⟩ => ?_))
  subst ek
  exact wpAny_bind (wpAny_standAt (wpAny_holding (d_dictSet I2 hD hz ry rz fun s3 I3 => fin _ _ (wipe_weak vs I3) n2)))
/-! the first clause's body: the second clause, run through -/
def innerB (e i1 : Expr) (acc : Value) (env : PySem.Env) (k : Sem Fin) : Sem Fin := do
  let x ← eval i1 env
  standAt i1.pos
  let x ← foldedSetIterable i1 env x
  let _ ← runOwn (.compStart e 1 (← holding [x] (pyIter x)) acc env) env
  k
def tInner (wi1 : TI) (g1 : TG) (tt1 : TT) (tb : TB) (vs1 : List Nat) : TB := fun σ H N => wi1 σ H fun J1 H4 => tLoop J1 g1 tt1 tb vs1 σ H4 N
section
variable {kx vx tg iter tg1 iter1 : Expr} {ifs ifs1 : List Expr} {scope : Scope} {pos : Pos}
theorem start1 {prog : Program} {w : World} {A : Around} {R : Result → Shared → Prop} {s : Shared} {it acc : Value} {env : PySem.Env} (h0 : codeAny (model prog w) A (.compLoop (.DictComp kx vx [⟨tg, iter, ifs, 0⟩, ⟨tg1, iter1, ifs1, 0⟩] scope pos) 1 it acc env) R s)
    (h : wpAny (model prog w) A (pyIter it) (fun v s' => v = it ∧ s' = s) (fun _ _ => False) s) :
    codeAny (model prog w) A (.compStart (.DictComp kx vx [⟨tg, iter, ifs, 0⟩, ⟨tg1, iter1, ifs1, 0⟩] scope pos) 1 it acc env) R s := by
  refine codeAny_of_tree ?_
  have e : (model prog w).den (.compStart (.DictComp kx vx [⟨tg, iter, ifs, 0⟩, ⟨tg1, iter1, ifs1, 0⟩] scope pos) 1 it acc env) = (compStart (.DictComp kx vx [⟨tg, iter, ifs, 0⟩, ⟨tg1, iter1, ifs1, 0⟩] scope pos) 1 it acc env).onRaise (fun x => do noteFrame x env; standAt theWindowsPlace) := rfl
  rw [e]
  refine wpAny_notedAt ?_
  have e2 : compStart (.DictComp kx vx [⟨tg, iter, ifs, 0⟩, ⟨tg1, iter1, ifs1, 0⟩] scope pos) 1 it acc env = (do
    if (← ask).params.followText "comprehension-iter-twice" then return ← again (.compLoop (.DictComp kx vx [⟨tg, iter, ifs, 0⟩, ⟨tg1, iter1, ifs1, 0⟩] scope pos) 1 it acc env)
    rule "comprehension.iter-twice"
    standAt iter1.pos
    again (.compLoop (.DictComp kx vx [⟨tg, iter, ifs, 0⟩, ⟨tg1, iter1, ifs1, 0⟩] scope pos) 1 (← pyIter it) acc env)) := rfl
  rw [e2]
  refine wpAny_bind (wpAny_askSetting (wpAny_ite ?_))
  split
  · exact wpAny_bind (wpAny_pure (wpAny_pure ⟨rfl, h0⟩))
  · refine wpAny_bind (wpAny_rule (wpAny_bind (wpAny_standAt (wpAny_bind (thnF h fun v s' z => ?_)))))
    rw [z.1, z.2]
    exact wpAny_pure ⟨rfl, h0⟩
theorem body_inner {Y : Cx} {D : Addr} {wi1 : TI} {g1 : TG} {tt1 : TT} {tk tv : TE} {vs vs1 : List Nat} (hc : Y.calm = true) (hx : Y.xe = fun _ _ => False) (hv : ∀ i ∈ vs1, i ∈ vs) (pi : PI Y tg1 iter1 wi1) (pg : PG Y tg1 g1) (pt : PTs Y ifs1 tt1) (pk : PE Y kx tk) (pv : PE Y vx tv) (hs : ∀ x, foldedSetIterable iter1 Y.env x = pure x) :
    Body Y (innerB (.DictComp kx vx [⟨tg, iter, ifs, 0⟩, ⟨tg1, iter1, ifs1, 0⟩] scope pos) iter1 (.ref D) Y.env) vs (tInner wi1 g1 tt1 (tEmit D tk tv) vs1) := fun pins σ H s N k Q E I h fin => by
  have r1 := pi.run pins s σ H _ I h
  rw [hx] at r1
  unfold innerB
  refine wpAny_bind (thnF r1 fun x s1 h1 => ?_)
  refine wpAny_bind (wpAny_standAt (wpAny_bind (wpAny_of_eq (hs x) (wpAny_bind (wpAny_holding (thnF h1 fun itv s2 h2 => ?_))))))
  obtain ⟨it, fp, tn, J, H2, e, I2, T, st2, f2, q2⟩ := h2
  subst e
  refine wpAny_bind (wpAny_runOwn ?_)
  rw [Around.mark_none]
  have run := clause_run (c := .compLoop (.DictComp kx vx [⟨tg, iter, ifs, 0⟩, ⟨tg1, iter1, ifs1, 0⟩] scope pos) 1 (.ref it) (.ref D) Y.env) (src := iter1) rfl rfl rfl hc hx T pg pt (body_emit vs1 hx pk pv) I2 st2 f2 q2
  refine codeAny_mono (start1 run (T.self Y.A 0 _ _ _ st2 ⟨rfl, rfl⟩)) fun r s' ⟨hr, H3, I3, n3⟩ => ?_
  subst hr
  refine fin s' H3 (I3.weak (by rw [wipe_length, wipe_length]) fun j v e => ?_) n3
  obtain ⟨e1, e2⟩ := wipe_some e
  rw [wipe_out fun z => e2 (hv j z)]
  exact e1
/-- {k: v for a in b for c in d if ..} -/
def tDc2 (wi : TI) (g : TG) (wi1 : TI) (g1 : TG) (tt1 : TT) (tk tv : TE) (vs vs1 : List Nat) : TE := fun σ H Q => wi σ H fun J H1 => ∀ D, H1 D = none → tLoop J g tYes (tInner wi1 g1 tt1 (tEmit D tk tv) vs1) vs σ (upd H1 D (.dK [])) fun H => Q (.ref D) H
abbrev Blks (X : Cx) (scope : Scope) (p : Cx → Prop) : Prop := ∀ (s : Shared) (H : Hp) (C : Addr) (cl : List (Str × Addr)) (fp : List Addr), p (X.blk s H scope (compEnvC scope cl C X.env) fp)
theorem pe_dc2 {X : Cx} {own : List (Str × Nat)} {wi wi1 : TI} {g g1 : TG} {tt1 : TT} {tk tv : TE} {vs1 : List Nat} (hc : X.calm = true) (hN : X.N.Nodup) (hi : PI X tg iter wi) (ok : BlkOk X.N X.env.scope scope own) (hv : ∀ i ∈ vs1, i ∈ own.map (·.2))
    (hg : Blks X scope fun Y => PG Y tg g) (hi1 : Blks X scope fun Y => PI Y tg1 iter1 wi1) (hg1 : Blks X scope fun Y => PG Y tg1 g1) (ht1 : Blks X scope fun Y => PTs Y ifs1 tt1) (hk : Blks X scope fun Y => PE Y kx tk) (he : Blks X scope fun Y => PE Y vx tv)
    (hs : ∀ x, foldedSetIterable iter X.env x = pure x) (hs1 : ∀ env x, foldedSetIterable iter1 env x = pure x) : PE X (.DictComp kx vx [⟨tg, iter, [], 0⟩, ⟨tg1, iter1, ifs1, 0⟩] scope pos) (tDc2 wi g wi1 g1 tt1 tk tv (own.map (·.2)) vs1) := by
  refine ⟨fun pins s σ H Q I h => ?_⟩
  rw [arm_eval_DictComp]
  have clo := closure_ok (env := X.env) (scope := scope) fun y hy e => (ok.free y hy e).elim (fun k => I.ok.has _ (.inl k)) fun k => I.ok.has _ (.inr k)
  have first := thn (hi.run pins s σ H _ I h) fun xv s1 hx => hx
  refine wpAny_comprehension_free rfl hs clo ok.kind (fun y hy e => by rw [ok.uniq y hy, e]) (thn first fun xv s1 h1 => thn h1 fun itv s2 h2 => ?_)
  obtain ⟨it, fp, tn, J, H2, e, I2, T, st2, f2, q⟩ := h2
  subst e
  refine wpAny_newObj_type (newEnv_comp ?_)
  have lt : ∀ b ∈ fp, b < s2.heap.objs.size := fun b hb => let ⟨_, e, _⟩ := T.obj _ _ st2 b hb; Heap.lt_size e
  have dn : H2 s2.heap.objs.size = none := I2.hok.fresh (Nat.le_refl _)
  have q := q _ dn
  have I3 : Inv X pins σ (upd H2 s2.heap.objs.size (.dK [])) { s2 with heap := s2.heap.push { cls := .type "dict", data := .dict #[] } } := I2.laid (t' := s2.toks) (fun b o e => Heap.get?_push_of_some _ e) (Nat.le_refl _) (dk_empty s2.heap I2.big)
  have f3 : ∀ b ∈ fp, FpOk X pins (upd H2 s2.heap.objs.size (.dK [])) b ∧ b < (s2.heap.push { cls := .type "dict", data := .dict #[] }).objs.size := fun b hb => by
    refine ⟨⟨?_, (f2 b hb).2⟩, by rw [Heap.size_push]; exact Nat.lt_succ_of_lt (lt b hb)⟩
    rw [upd_ne (Nat.ne_of_lt (lt b hb))]
    exact (f2 b hb).1
  have st3 := T.keep _ _ (s2.heap.push { cls := .type "dict", data := .dict #[] }) st2 fun b _ o e => Heap.get?_push_of_some _ e
  generalize (upd H2 s2.heap.objs.size (.dK []) : Hp) = H3 at I3 f3 q
  generalize hs3 : ({ s2 with heap := s2.heap.push { cls := .type "dict", data := .dict #[] } } : Shared) = s3 at I3 ⊢
  have e3 : s2.heap.push { cls := .type "dict", data := .dict #[] } = s3.heap := by rw [← hs3]
  rw [e3] at f3 st3
  have I4 := block_start I3 ok hN f3
  have st4 := T.keep _ _ (pushCells (s3.heap.push { cls := .type "dict", data := .dict #[] }) scope.names) st3 fun b _ o e => pushCells_keeps _ _ _ _ (Heap.get?_push_of_some _ e)
  have bI := body_inner (Y := (X.blk s3 H3 scope (compEnvC scope (cellsFrom (s3.heap.objs.size + 1) scope.names (cloFrom X.env.cells scope.names [])) s3.heap.objs.size X.env) fp)) (kx := kx) (vx := vx) (tg := tg) (iter := iter) (ifs := []) (scope := scope) (pos := pos) (D := s2.heap.objs.size) (vs := own.map (·.2)) hc rfl hv (hi1 s3 H3 s3.heap.objs.size (cellsFrom (s3.heap.objs.size + 1) scope.names (cloFrom X.env.cells scope.names [])) fp) (hg1 _ _ _ _ _) (ht1 _ _ _ _ _) (hk _ _ _ _ _) (he _ _ _ _ _) (hs1 _)
  have nf : ∀ b ∈ fp, FpOk (X.blk s3 H3 scope (compEnvC scope (cellsFrom (s3.heap.objs.size + 1) scope.names (cloFrom X.env.cells scope.names [])) s3.heap.objs.size X.env) fp) [] H3 b := fun b hb =>
    ⟨(f3 b hb).1.1, (I4.ok.exf b hb).1, I4.ok.exfs b hb, .inl hb, (I4.ok.exf b hb).2, fun p hp => (nomatch hp)⟩
  obtain ⟨W, w0, turn⟩ := q
  have run := clause_run (Y := (X.blk s3 H3 scope (compEnvC scope (cellsFrom (s3.heap.objs.size + 1) scope.names (cloFrom X.env.cells scope.names [])) s3.heap.objs.size X.env) fp)) (σ := wipe σ (own.map (·.2))) (tt := tYes) (c := .compLoop (.DictComp kx vx [⟨tg, iter, [], 0⟩, ⟨tg1, iter1, ifs1, 0⟩] scope pos) 0 (.ref it) (.ref s2.heap.objs.size) (compEnvC scope (cellsFrom (s3.heap.objs.size + 1) scope.names (cloFrom X.env.cells scope.names [])) s3.heap.objs.size X.env)) (src := iter) rfl rfl rfl hc rfl T (hg s3 H3 _ _ fp) pts_nil bI I4 st4 nf ⟨W, w0, fun i m H w => by rw [wipe_idem]; exact turn i m H w⟩
  have run := codeAny_compStart_dict run (T.self X.A 0 _ _ _ st4 run)
  refine codeAny_mono run fun r s5 ⟨hr, H5, I5, q5⟩ => ?_
  subst hr
  have I6 : Inv X pins σ H5 s5 := I3.call' (ch := fp) I5.os I5.base I5.hok I5.bare fun b hb => ⟨(f3 b hb).1.2.2.2.1, (f3 b hb).1.2.1, (f3 b hb).1.2.2.2.2.1, (f3 b hb).1.2.2.2.2.2⟩
  obtain ⟨m, hn, _⟩ := I5.loc
  obtain ⟨_, f1, _, f3', f4, f5⟩ := I3.fpOk (Nat.le_refl s3.heap.objs.size) (show H5 s3.heap.objs.size = none from I5.free)
  exact ⟨m, hn, fun h' sb => ⟨.ref s2.heap.objs.size, H5, I6.turned (t' := s5.toks) (fun b o hb e => (sb.2 b hb).trans e) I5.free f1 f3' f4 f5, rfl, q5⟩⟩
end
/-! ### the reading of {k: v for x in a for y in b if t} -/
def dc2D (gg : GF) (fi1 : IF) (gg1 : GF) (tt : TF) (fk fv : EF) (own own1 : List Nat) : List D → Env → List (Key × D) → Option (List (Key × D) × Env)
  | [], env, acc => some (acc, env)
  | d :: ds, env, acc => (gg d env).bind fun e1 => (fi1 e1).bind fun p => (dcD gg1 tt fk fv own1 p.1 (wipeE p.2 own1) acc).bind fun r => dc2D gg fi1 gg1 tt fk fv own own1 ds (wipeE r.2 own) r.1
def oDc2 (i : IF) (gg : GF) (fi1 : IF) (gg1 : GF) (tt : TF) (fk fv : EF) (own own1 : List Nat) : OF := fun env => (i env).bind fun p => (dc2D gg fi1 gg1 tt fk fv own own1 p.1 (wipeE p.2 own) []).bind fun r => gd (r.1.length + 1) (some (.dic r.1, backE p.2 own r.2))
theorem putD_ge (ks : List (Key × D)) (k : Key) (d : D) : ks.length ≤ (putD ks k d).length := by
  unfold putD
  split
  · rw [List.length_map]; omega
  · rw [List.length_append]; omega
theorem dcD_len {gg : GF} {tt : TF} {fk fv : EF} {own : List Nat} : ∀ {ds : List D} {env : Env} {acc : List (Key × D)} {r : List (Key × D) × Env}, dcD gg tt fk fv own ds env acc = some r → acc.length ≤ r.1.length
  | [], _, _, _, h => by cases h; exact Nat.le_refl _
  | d :: ds, env, acc, r, h => by
    simp only [dcD, Option.bind_eq_some_iff] at h
    obtain ⟨e1, h1, ⟨k, e2⟩, h2, h⟩ := h
    cases k with
    | false => exact dcD_len h
    | true =>
      rw [if_pos rfl] at h
      obtain ⟨⟨b, e3⟩, h3, h⟩ := Option.bind_eq_some_iff.mp h
      obtain ⟨⟨b4, e4⟩, h4, h⟩ := Option.bind_eq_some_iff.mp h
      obtain ⟨y, h5, h⟩ := Option.bind_eq_some_iff.mp h
      obtain ⟨kk, h6, h⟩ := Option.bind_eq_some_iff.mp h
      cases b4 with
      | slot _ => cases h
      | val v => exact Nat.le_trans (putD_ge acc kk v) (dcD_len h)
theorem dc2D_len {gg : GF} {fi1 : IF} {gg1 : GF} {tt : TF} {fk fv : EF} {own own1 : List Nat} : ∀ {ds : List D} {env : Env} {acc : List (Key × D)} {r : List (Key × D) × Env}, dc2D gg fi1 gg1 tt fk fv own own1 ds env acc = some r → acc.length ≤ r.1.length
  | [], _, _, _, h => by cases h; exact Nat.le_refl _
  | d :: ds, env, acc, r, h => by
    simp only [dc2D, Option.bind_eq_some_iff] at h
    obtain ⟨e1, h1, p, h2, q, h3, h⟩ := h
    exact Nat.le_trans (dcD_len h3) (dc2D_len h)
section
variable {m : Bool} {X : Cx} {C : CA} {c : Cs}
theorem tYes_if {σ : L2.St} {H : Hp} {P Q : Hp → Prop} (h : P H) : tYes σ H (fun b H3 => if b = true then P H3 else Q H3) := by
  show if true = true then P H else Q H
  rw [if_pos rfl]
  exact h
theorem dc2_read {tt : TF} {gg gg1 : GF} {ts ts1 own own1 : List Nat} {fk fv : EF} {fi fi1 : IF} {σ : L2.St} {H : Hp} {Q : VK} {z : Zn} {F : Hp} {env env' : Env} {d : D} (ho : ∀ j ∈ own, j ∉ c.O ∧ j < c.n) (hts : ∀ t ∈ ts, t ∈ own) (hts1 : ∀ t ∈ ts1, t ∈ own1) (how : ∀ j ∈ own1, j ∈ own) (S : SR X.K C c z F env σ H) (e : oDc2 fi gg fi1 gg1 tt fk fv own own1 env = some (d, env'))
    (k : ∀ a F' H', Same F F' → SR X.K C c z F' env' σ H' → F' a = none → z.H0 a = none → Own X.K C F' H' a d → (Apt C c env' σ a) → (∀ e, (a, e) ∉ z.gh) → Q (.ref a) H') :
    tDc2 (tI X.K C c fi) (tG X.K C c ts gg) (tI X.K C c fi1) (tG X.K C c ts1 gg1) (tT X.K C c tt) (tE X.K C c fk) (tE X.K C c fv) own own1 σ H Q := by
  simp only [oDc2, Option.bind_eq_some_iff] at e
  obtain ⟨⟨ds, e1⟩, h1, ⟨res, e2⟩, h2, e⟩ := e
  obtain ⟨hres, e⟩ := gd_some e
  cases e
  have hres : res.length + 1 ≤ sizeLine := hres
  have ho1 : ∀ j ∈ own1, j ∉ c.O ∧ j < c.n := fun j hj => ho j (how j hj)
  refine ⟨z, F, env, ds, e1, S, h1, fun J F1 H1 s1 S1 W D hD => ?_⟩
  obtain ⟨S2, fD, zD, apD, ngD⟩ := S1.newO (o := .dK []) hD
  have S3 := (S2.ghost (d := .dic []) fD zD ⟨[], upd_same, .nil⟩ apD ngD).wipe ho
  refine ⟨fun i n H => n = ds.length - i ∧ i ≤ ds.length ∧ ∃ F4 env4 acc, Same F1 F4 ∧ SR X.K C c { z with gh := (D, .dic acc) :: z.gh } F4 env4 (L2.wipe σ own) H ∧ dc2D gg fi1 gg1 tt fk fv own own1 (ds.drop i) env4 acc = some (res, e2), ⟨ds.length, by simp, Nat.zero_le _, F1, _, [], Same.refl _, S3, h2⟩, ?_⟩
  rintro i n H4 ⟨rfl, hi, F4, env4, acc, s4, S4, e4⟩
  by_cases hlt : i < ds.length
  · refine .inr ⟨W.go i F4 H4 s4 S4.sub hlt, fun H' => ∃ F5 env5 acc5, Same F1 F5 ∧ SR X.K C c { z with gh := (D, .dic acc5) :: z.gh } F5 env5 (L2.wipe σ own) H' ∧ dc2D gg fi1 gg1 tt fk fv own own1 (ds.drop (i + 1)) env5 acc5 = some (res, e2), fun H' ⟨F5, env5, acc5, q1, q2, q4⟩ => ⟨ds.length - (i + 1), by omega, rfl, hlt, F5, env5, acc5, q1, q2, q4⟩, fun x H5 y => ?_⟩
    obtain ⟨F5, dx, ex, hd, r⟩ := W.yld i F4 H4 x H5 s4 S4.sub hlt y
    have ed : ds.drop i = dx :: ds.drop (i + 1) := by
      rw [List.drop_eq_getElem_cons hlt]
      obtain ⟨_, q⟩ := List.getElem?_eq_some_iff.mp hd
      rw [q]
    rw [ed] at e4
    simp only [dc2D, Option.bind_eq_some_iff] at e4
    obtain ⟨e5, h5, ⟨ds1, e6⟩, h6, ⟨acc7, e7⟩, h7, e8⟩ := e4
    refine ⟨_, F5, env4, dx, e5, S4.ext ex, r, h5, fun F6 σ6 H6 s6 S6 w6 => ?_⟩
    have w6' := (w6 own hts).trans (wipe_idem own σ)
    refine ⟨w6', tYes_if ?_⟩
    refine ⟨_, F6, e5, ds1, e6, S6, h6, fun J1 F8 H8 s8 S8 W1 => ?_⟩
    have s18 : Same F1 F8 := s4.trans (ex.sub.trans (s6.trans s8))
    have S9 := S8.wipe ho1
    refine ⟨fun j n H => n = ds1.length - j ∧ j ≤ ds1.length ∧ ∃ F9 env9 acc9, Same F8 F9 ∧ SR X.K C c { z with gh := (D, .dic acc9) :: z.gh } F9 env9 (L2.wipe σ6 own1) H ∧ dcD gg1 tt fk fv own1 (ds1.drop j) env9 acc9 = some (acc7, e7), ⟨ds1.length, by simp, Nat.zero_le _, F8, _, acc, Same.refl _, S9, h7⟩, ?_⟩
    rintro j n H10 ⟨rfl, hj, F10, env10, acc10, s10, S10, e10⟩
    by_cases hlt1 : j < ds1.length
    · refine .inr ⟨W1.go j F10 H10 s10 S10.sub hlt1, fun H' => ∃ F5 env5 acc5, Same F8 F5 ∧ SR X.K C c { z with gh := (D, .dic acc5) :: z.gh } F5 env5 (L2.wipe σ6 own1) H' ∧ dcD gg1 tt fk fv own1 (ds1.drop (j + 1)) env5 acc5 = some (acc7, e7), fun H' ⟨F5, env5, acc5, q1, q2, q4⟩ => ⟨ds1.length - (j + 1), by omega, rfl, hlt1, F5, env5, acc5, q1, q2, q4⟩, fun x1 H11 y1 => ?_⟩
      obtain ⟨F11, dx1, ex1, hd1, r1⟩ := W1.yld j F10 H10 x1 H11 s10 S10.sub hlt1 y1
      have ed1 : ds1.drop j = dx1 :: ds1.drop (j + 1) := by
        rw [List.drop_eq_getElem_cons hlt1]
        obtain ⟨_, q⟩ := List.getElem?_eq_some_iff.mp hd1
        rw [q]
      rw [ed1] at e10
      obtain ⟨e11, h11, e10⟩ := Option.bind_eq_some_iff.mp e10
      obtain ⟨⟨k12, e12⟩, h12, e10⟩ := Option.bind_eq_some_iff.mp e10
      refine ⟨_, F11, env10, dx1, e11, S10.ext ex1, r1, h11, fun F12 σ12 H12 s12 S12 w12 => ?_⟩
      have w12' := (w12 own1 hts1).trans (wipe_idem own1 σ6)
      refine ⟨w12', _, F12, e11, k12, e12, S12, h12, fun F13 H13 s13 S13 => ?_⟩
      have s813 : Same F8 F13 := s10.trans (ex1.sub.trans (s12.trans s13))
      cases k12 with
      | false =>
        refine iteF ⟨F13, wipeE e12 own1, acc10, s813, ?_, e10⟩
        have := S13.wipe ho1
        rw [w12'] at this
        exact this
      | true =>
        rw [if_pos rfl] at e10
        obtain ⟨⟨b14, e14⟩, h14, e10⟩ := Option.bind_eq_some_iff.mp e10
        obtain ⟨⟨b15, e15⟩, h15, e10⟩ := Option.bind_eq_some_iff.mp e10
        obtain ⟨yk, hyk, e10⟩ := Option.bind_eq_some_iff.mp e10
        obtain ⟨kk, hkk, e10⟩ := Option.bind_eq_some_iff.mp e10
        refine iteT ⟨_, F13, e12, b14, e14, S13, h14, fun v F14 H14 s14 S14 r14 => ⟨_, F14, e14, b15, e15, S14, h15, fun w F15 H15 s15 S15 r15 => ?_⟩⟩
        cases b15 with
        | slot _ => cases e10
        | val yd =>
          have hv := keyD_v ((r14.mono s15).rb S15 hyk) hkk
          obtain ⟨q1, q2, q3⟩ := S15.gho D (.dic acc10) (List.mem_cons_self ..)
          obtain ⟨kvs, q4, q6⟩ := q2
          have hlen : kvs.length < sizeLine := by
            have a1 := dcD_len e10
            have a2 := dc2D_len e8
            have a3 := putD_ge acc10 kk yd
            dsimp only at a1 a2
            rw [q6.length]; omega
          refine ⟨kvs, kk, hv, q4, hlen, F15, wipeE e15 own1, putD acc10 kk yd, s813.trans (s14.trans s15), ?_, e10⟩
          have S16 := (S15.gwrite (d' := .dic (putD acc10 kk yd)) (o := .dK (putK kvs kk w)) ⟨_, upd_same, q6.put kk r15⟩).wipe ho1
          rw [w12'] at S16
          exact S16
    · have q : j = ds1.length := by omega
      subst q
      rw [List.drop_length] at e10
      cases e10
      refine .inl ⟨W1.stop F10 H10 s10 S10.sub, F10, wipeE e7 own, acc7, s18.trans s10, ?_, e8⟩
      have := S10.wipe ho
      rw [wipe_sub σ6 how, w6'] at this
      exact this
  · have q : i = ds.length := by omega
    subst q
    rw [List.drop_length] at e4
    cases e4
    refine .inl ⟨W.stop F4 H4 s4 S4.sub, ?_⟩
    obtain ⟨S5, fa, za, ow, ap, ng⟩ := S4.unghost
    have S6 : SR X.K C c z F4 (backE e1 own e2) σ H4 := S1.back S5 s4 ho
    refine k D F4 H4 (s1.trans s4) S6 fa za ow (S1.aptB ho ap) ng
theorem do_dc2 {kx vx tg iter tg1 iter1 : Expr} {ifs1 : List Expr} {scope : Scope} {pos : Pos} {fi fi1 : IF} {gg gg1 : GF} {tt : TF} {fk fv : EF} {ts ts1 : List Nat} (own : List (Str × Nat)) (own1 : List Nat) (hN : X.N.Nodup) (hi : DI X C c tg iter fi) (ok : BlkOk X.N X.env.scope scope own)
    (hg : Blks X scope fun Y => DG Y C c tg ts gg) (hi1 : Blks X scope fun Y => DI Y C c tg1 iter1 fi1) (hg1 : Blks X scope fun Y => DG Y C c tg1 ts1 gg1) (ht : Blks X scope fun Y => DTs Y C c ifs1 tt) (hk : Blks X scope fun Y => DE Y C c kx fk) (he : Blks X scope fun Y => DE Y C c vx fv)
    (ho : ∀ j ∈ own.map (·.2), j ∉ c.O ∧ j < c.n := by decide) (hts : ∀ t ∈ ts, t ∈ own.map (·.2) := by decide) (hts1 : ∀ t ∈ ts1, t ∈ own1 := by decide) (how : ∀ j ∈ own1, j ∈ own.map (·.2) := by decide) (hc : X.calm = true := by rfl) (hs : ∀ x, foldedSetIterable iter X.env x = pure x := by intro _; rfl) (hs1 : ∀ env x, foldedSetIterable iter1 env x = pure x := by intro _ _; rfl) :
    DO X C c (.DictComp kx vx [⟨tg, iter, [], 0⟩, ⟨tg1, iter1, ifs1, 0⟩] scope pos) (oDc2 fi gg fi1 gg1 tt fk fv (own.map (·.2)) own1) := by
  refine PE.imp (pe_dc2 (wi := tI X.K C c fi) (g := tG X.K C c ts gg) (wi1 := tI X.K C c fi1) (g1 := tG X.K C c ts1 gg1) (tt1 := tT X.K C c tt) (tk := tE X.K C c fk) (tv := tE X.K C c fv) (vs1 := own1) hc hN hi ok how (fun s H C' cl fp => hg s H C' cl fp) (fun s H C' cl fp => hi1 s H C' cl fp) (fun s H C' cl fp => hg1 s H C' cl fp) (fun s H C' cl fp => ht s H C' cl fp) (fun s H C' cl fp => hk s H C' cl fp) (fun s H C' cl fp => he s H C' cl fp) hs hs1) fun σ H Q ⟨z, F, env, d, env', S, e, k⟩ => ?_
  exact dc2_read ho hts hts1 how S e k
end
end DL

namespace DL
open PySem L2
section
variable {m : Bool} {X : Cx} {C : CA} {c : Cs} {e a b : Expr} {pos : Pos}
/-! ### x, y, z = a, b, e where x and y may be new objects -/
def sPar3O (i j l : Nat) (f g h : OF) : SF := fun env => (f env).bind fun p => (g p.2).bind fun q => (h q.2).bind fun r => some (.nx (st (st (st r.2 i (some p.1)) j (some q.1)) l (some r.1)))
theorem par3_core {oi oj : Bool} {fi fj fl : OF} {i j l : Nat} {σ : St} {H : Hp} {R : V → V → V → Hp → Prop} {z : Zn} {F : Hp} {env env' : Env} (S : SR X.K C c z F env σ H) (hij : i ≠ j) (hi : if oi = true then i ∈ c.O ∧ i ∉ c.io else i ∉ c.O) (hni : i < c.n) (hj : if oj = true then j ∈ c.O ∧ j ∉ c.io else j ∉ c.O) (hnj : j < c.n) (hl : l ∉ c.O) (hnl : l < c.n)
    (e : sPar3O i j l fi fj fl env = some (.nx env')) (k : ∀ v w u F' H', Same F F' → SR X.K C c z F' env' (((σ.set i (some v)).set j (some w)).set l (some u)) H' → R v w u H') : tX oi X.K C c fi σ H fun v H1 => tX oj X.K C c fj σ H1 fun w H2 => tX false X.K C c fl σ H2 fun u H3 => R v w u H3 := by
  simp only [sPar3O, Option.bind_eq_some_iff] at e
  obtain ⟨⟨d1, e1⟩, h1, ⟨d2, e2⟩, h2, ⟨d3, e3⟩, h3, e⟩ := e
  cases e
  refine ⟨z, F, env, d1, e1, S, h1, fun v F1 H1 s1 S1 r1 => ?_⟩
  cases oi with
  | false =>
    have r1 : Rp X.K C F1 v d1 := r1
    refine ⟨z, F1, e1, d2, e2, S1, h2, fun w F2 H2 s2 S2 r2 => ?_⟩
    cases oj with
    | false =>
      have r2 : Rp X.K C F2 w d2 := r2
      exact ⟨z, F2, e2, d3, e3, S2, h3, fun u F3 H3 s3 S3 r3 => k v w u F3 H3 (s1.trans (s2.trans s3)) (((S3.setP hi hni (Rp.mono (s2.trans s3) r1)).setP hj hnj (Rp.mono s3 r2)).setP hl hnl r3)⟩
    | true =>
      obtain ⟨b, rfl, fb, zb, owb, apb, ngb⟩ := r2
      refine ⟨_, F2, e2, d3, e3, S2.ghost fb zb owb apb ngb, h3, fun u F3 H3 s3 S3 r3 => k v _ u F3 H3 (s1.trans (s2.trans s3)) ?_⟩
      obtain ⟨S4, fb, zb, owb, apb, ngb⟩ := S3.unghost
      have S5 := S4.setP (i := i) hi hni (Rp.mono (s2.trans s3) r1)
      exact (S5.setO hj.1 hj.2 hnj fb zb owb (S4.aptP hi hni apb) ngb).setP hl hnl r3
  | true =>
    obtain ⟨a, rfl, fa, za, owa, apa, nga⟩ := r1
    refine ⟨_, F1, e1, d2, e2, S1.ghost fa za owa apa nga, h2, fun w F2 H2 s2 S2 r2 => ?_⟩
    cases oj with
    | false =>
      have r2 : Rp X.K C F2 w d2 := r2
      refine ⟨_, F2, e2, d3, e3, S2, h3, fun u F3 H3 s3 S3 r3 => k _ w u F3 H3 (s1.trans (s2.trans s3)) ?_⟩
      obtain ⟨S4, fa, za, owa, apa, nga⟩ := S3.unghost
      exact ((S4.setO hi.1 hi.2 hni fa za owa apa nga).setP hj hnj (Rp.mono s3 r2)).setP hl hnl r3
    | true =>
      obtain ⟨b, rfl, fb, zb, owb, apb, ngb⟩ := r2
      refine ⟨_, F2, e2, d3, e3, S2.ghost fb zb owb apb ngb, h3, fun u F3 H3 s3 S3 r3 => k _ _ u F3 H3 (s1.trans (s2.trans s3)) ?_⟩
      obtain ⟨S4, fb, zb, owb, apb, ngb⟩ := S3.unghost
      obtain ⟨S5, fa, za, owa, apa, nga⟩ := S4.unghost
      have hba : b ≠ a := fun q => ngb d1 (q ▸ List.mem_cons_self ..)
      have S6 := S5.setO hi.1 hi.2 hni fa za owa apa nga
      exact (S6.setO hj.1 hj.2 hnj fb zb owb (S5.aptO hni hba apb) fun e h => ngb e (List.mem_cons_of_mem _ h)).setP hl hnl r3
theorem ds_par3O {oi oj : Bool} {fi fj fl : OF} (i j l : Nat) {x y z : Str} {px py pz pt : Pos} {kt k2 : Nat} {pt2 : Pos} (hN : X.N.Nodup) (hi : if oi = true then i ∈ c.O ∧ i ∉ c.io else i ∉ c.O) (hj : if oj = true then j ∈ c.O ∧ j ∉ c.io else j ∉ c.O) (h1 : DX oi X C c a fi) (h2 : DX oj X C c b fj) (h3 : DX false X C c e fl) (hl : l ∉ c.O := by decide)
    (hni : i < c.n := by decide) (hnj : j < c.n := by decide) (hnl : l < c.n := by decide) (hxi : X.N[i]? = some x := by rfl) (hyj : X.N[j]? = some y := by rfl) (hzl : X.N[l]? = some z := by rfl) (hij : i ≠ j := by decide) (hil : i ≠ l := by decide) (hjl : j ≠ l := by decide)
    (hx : X.env.scope.names.lookup x = some .local := by rfl) (hy : X.env.scope.names.lookup y = some .local := by rfl) (hz : X.env.scope.names.lookup z = some .local := by rfl) (hc : X.calm = true := by rfl)
    (hw : swappedStores [.Tuple [.Name x px, .Name y py, .Name z pz] kt pt] (.Tuple [a, b, e] k2 pt2) X.env = pure (some [x, y, z]) := by rfl) (hs : swapsWithSole [.Tuple [.Name x px, .Name y py, .Name z pz] kt pt] (.Tuple [a, b, e] k2 pt2) pos.line X.env = pure false := by rfl)
    (hs1 : starEach (a :: [b, e]) X.env = (false, eval a X.env) :: starEach [b, e] X.env := by rfl) (hs2 : starEach (b :: [e]) X.env = (false, eval b X.env) :: starEach [e] X.env := by rfl) (hs3 : starEach (e :: []) X.env = (false, eval e X.env) :: starEach [] X.env := by rfl) :
    DS m X C c (.Assign [.Tuple [.Name x px, .Name y py, .Name z pz] kt pt] (.Tuple [a, b, e] k2 pt2) pos) (sPar3O i j l fi fj fl) := by
  refine PS.imp (ps_par3 hc hN hxi hyj hzl hij hil hjl hx hy hz (pa_cons h1 (pa_cons h2 (pa_cons h3 pa_nil hs3) hs2) hs1) hw hs) fun Dn σ H ⟨z, F, env, fl, S, hg, e, k⟩ => ?_
  have e0 := e
  simp only [sPar3O, Option.bind_eq_some_iff] at e
  obtain ⟨⟨d1, e1⟩, q1, ⟨d2, e2⟩, q2, ⟨d3, e3⟩, q3, e⟩ := e
  cases e
  exact par3_core (R := fun v w u H' => ∃ v1 w1 u1, [v, w, u] = [v1, w1, u1] ∧ Dn.nx (((σ.set i (some v1)).set j (some w1)).set l (some u1)) H') S hij hi hni hj hnj hl hnl e0 fun v w u F' H' s' S' => ⟨v, w, u, rfl, k F' _ H' s' S'⟩
/-- .. where one of the names is a cell -/
theorem ds_par3C {oi oj : Bool} {fi fj fl : OF} (i j l : Nat) {x y z : Str} {px py pz pt : Pos} {kt k2 : Nat} {pt2 : Pos} (hN : X.N.Nodup) (hi : if oi = true then i ∈ c.O ∧ i ∉ c.io else i ∉ c.O) (hj : if oj = true then j ∈ c.O ∧ j ∉ c.io else j ∉ c.O) (h1 : DX oi X C c a fi) (h2 : DX oj X C c b fj) (h3 : DX false X C c e fl) (hl : l ∉ c.O := by decide)
    (hni : i < c.n := by decide) (hnj : j < c.n := by decide) (hnl : l < c.n := by decide) (hxi : X.N[i]? = some x := by rfl) (hyj : X.N[j]? = some y := by rfl) (hzl : X.N[l]? = some z := by rfl) (hij : i ≠ j := by decide)
    (hx : Loc X.env.scope x := by first | exact Or.inl rfl | exact Or.inr rfl) (hy : Loc X.env.scope y := by first | exact Or.inl rfl | exact Or.inr rfl) (hz : Loc X.env.scope z := by first | exact Or.inl rfl | exact Or.inr rfl)
    (hc : X.calm = true := by rfl) (hw : swappedStores [.Tuple [.Name x px, .Name y py, .Name z pz] kt pt] (.Tuple [a, b, e] k2 pt2) X.env = pure none := by rfl) (hs : swapsWithSole [.Tuple [.Name x px, .Name y py, .Name z pz] kt pt] (.Tuple [a, b, e] k2 pt2) pos.line X.env = pure false := by rfl)
    (hs1 : starEach (a :: [b, e]) X.env = (false, eval a X.env) :: starEach [b, e] X.env := by rfl) (hs2 : starEach (b :: [e]) X.env = (false, eval b X.env) :: starEach [e] X.env := by rfl) (hs3 : starEach (e :: []) X.env = (false, eval e X.env) :: starEach [] X.env := by rfl)
    (hfx : X.fn x = true ∨ X.env.scope.names.lookup x = some .local := by first | exact .inl rfl | exact .inr rfl | assumption) (hfy : X.fn y = true ∨ X.env.scope.names.lookup y = some .local := by first | exact .inl rfl | exact .inr rfl | assumption) (hfz : X.fn z = true ∨ X.env.scope.names.lookup z = some .local := by first | exact .inl rfl | exact .inr rfl | assumption)
    (t1 : (assignEach (.Name x px :: [.Name y py, .Name z pz]) X.env).map (·.2) = assign (.Name x px) X.env :: (assignEach [.Name y py, .Name z pz] X.env).map (·.2) := by rfl) (t2 : (assignEach (.Name y py :: [.Name z pz]) X.env).map (·.2) = assign (.Name y py) X.env :: (assignEach [.Name z pz] X.env).map (·.2) := by rfl) (t2' : (assignEach (.Name z pz :: []) X.env).map (·.2) = assign (.Name z pz) X.env :: (assignEach [] X.env).map (·.2) := by rfl)
    (t3 : (assignEach [.Name x px, .Name y py, .Name z pz] X.env).length = 3 := by rfl) (t4 : (assignEach [.Name x px, .Name y py, .Name z pz] X.env).findIdx? (·.1) = none := by rfl) (t5 : (assignEach [.Tuple [.Name x px, .Name y py, .Name z pz] kt pt] X.env).map (·.2) = [assign (.Tuple [.Name x px, .Name y py, .Name z pz] kt pt) X.env] := by rfl) :
    DS m X C c (.Assign [.Tuple [.Name x px, .Name y py, .Name z pz] kt pt] (.Tuple [a, b, e] k2 pt2) pos) (sPar3O i j l fi fj fl) := by
  refine PS.imp (ps_asg (pe_tup (pa_cons h1 (pa_cons h2 (pa_cons h3 pa_nil hs3) hs2) hs1)) (pg_tup hc (pgs_cons (pg_name hN hxi hx hfx) (pgs_cons (pg_name hN hyj hy hfy) (pgs_cons (pg_name hN hzl hz hfz) pgs_nil t2') t2) t1) t3 t4) hs hw t5) fun Dn σ H ⟨z, F, env, fl, S, hg, e, k⟩ => ?_
  have e0 := e
  simp only [sPar3O, Option.bind_eq_some_iff] at e
  obtain ⟨⟨d1, e1⟩, q1, ⟨d2, e2⟩, q2, ⟨d3, e3⟩, q3, e⟩ := e
  cases e
  refine par3_core (R := fun v w u H' => [v, w, u].length ≤ sizeLine ∧ ∀ p, H' p = none → gTup X.K 3 (gCons (gName i) (gCons (gName j) (gCons (gName l) gNil))) (.ref p) σ (upd H' p (.tup [v, w, u])) Dn.nx) S hij hi hni hj hnj hl hnl e0 fun v w u F' H' s' S' => ⟨by rw [sizeLine_eq]; show 3 ≤ 16777216; decide, fun p hp => ?_⟩
  refine ⟨p, [v, w, u], rfl, SqT.of upd_same, rfl, v, [w, u], rfl, w, [u], rfl, u, [], rfl, rfl, ?_⟩
  have ex : Ext F' H' (upd F' p (.tup [v, w, u])) (upd H' p (.tup [v, w, u])) := Ext.laid S'.sub hp
  exact k _ _ _ (s'.trans ex.sub) (S'.ext ex)
end
end DL

namespace DL
open PySem L2
/-! ### more steps -/
section
variable {env e1 e2 e3 : Env} {f g h : EF} {fa : AF} {i : Nat} {d x y : D} {b b1 b2 : B} {bs : List B} {ds xs : List D} {k : Bool}
theorem r_par3O {i j l : Nat} {fo go ho : OF} {d3 : D} {e4 : Env} (h1 : fo env = some (x, e1)) (h2 : go e1 = some (y, e2)) (h3 : ho e2 = some (d3, e3)) (hE : st (st (st e3 i (some x)) j (some y)) l (some d3) = e4) : sPar3O i j l fo go ho env = some (.nx e4) := by simp [sPar3O, h1, h2, h3, hE]
theorem r_forC {gg : GF} {s : SF} {fl : Option Fl} (h1 : gg d env = some e1) (h2 : s e1 = some (.nx e2)) (h3 : forD gg s ds e2 = fl) : forD gg s (d :: ds) env = fl := by
  simp only [forD, h1, Option.bind_some, h2, h3]
theorem r_forR {gg : GF} {s : SF} (h1 : gg d env = some e1) (h2 : s e1 = some (.rt x e2)) : forD gg s (d :: ds) env = some (.rt x e2) := by
  simp only [forD, h1, Option.bind_some, h2]
theorem r_lc2C {gg gg1 : GF} {fi1 : IF} {tt : TF} {own own1 : List Nat} {acc acc2 : List D} {r : List D × Env} {e4 e5 : Env} (h1 : gg d env = some e1) (h2 : fi1 e1 = some (xs, e2)) (h3 : lcD gg1 tt f own1 xs (wipeE e2 own1) acc = some (acc2, e4)) (h4 : wipeE e4 own = e5) (h5 : lc2D gg fi1 gg1 tt f own own1 ds e5 acc2 = some r) : lc2D gg fi1 gg1 tt f own own1 (d :: ds) env acc = some r := by
  simp only [lc2D, h1, Option.bind_some, h2, h3, h4, h5]
theorem r_Lc2 {it : IF} {gg gg1 : GF} {fi1 : IF} {tt : TF} {own own1 : List Nat} {acc2 : List D} (h1 : it env = some (xs, e1)) (h2 : lc2D gg fi1 gg1 tt f own own1 xs (wipeE e1 own) [] = some (acc2, e2)) (hl : acc2.length ≤ 16777216) (h3 : backE e1 own e2 = e3) : oLc2 it gg fi1 gg1 tt f own own1 env = some (.lst acc2, e3) := by
  unfold oLc2
  rw [h1]
  simp only [Option.bind_some]
  rw [h2]
  simp only [Option.bind_some, gd]
  rw [if_pos hl, h3]
theorem r_aS (h1 : f env = some (b, e1)) (h2 : rdB e1 b = some d) (h3 : itmsS d = some xs) (h4 : fa e1 = some (bs, e2)) : aS f fa env = some (xs.map B.val ++ bs, e2) := by
  simp [aS, h1, h2, h3, h4]
theorem vals_app : ∀ (xs : List D) {bs : List B} {ds : List D}, vals bs = some ds → vals (xs.map B.val ++ bs) = some (xs ++ ds)
  | [], _, _, h => h
  | x :: xs, bs, ds, h => by
    have ih := vals_app xs h
    simp only [List.map_cons, List.cons_append, vals, ih, Option.bind_some]
theorem r_Ext {ys : List D} (h0 : gt env i = some (.lst xs)) (h1 : f env = some (b, e1)) (h2 : rdB e1 b = some (.lst ys)) (h3 : gt e1 i = some (.lst xs)) (hl : xs.length + ys.length ≤ 16777216) (hE : st e1 i (some (.lst (xs ++ ys))) = e2) : fExt i f env = some (.val .non, e2) := by
  unfold fExt
  rw [h0]
  simp only [Option.bind_some, isLst, if_true]
  rw [h1]
  simp only [Option.bind_some]
  rw [h2, h3]
  simp only [Option.bind_some, gd]
  rw [if_pos hl, hE]
theorem r_Qc {s1 s2 : SF} (h1 : s1 env = some (.ct e1)) : sQ s1 s2 env = some (.ct e1) := by simp [sQ, h1]
theorem r_pI {j : Int} (h : f env = some (.val (.int j), e1)) : pI f env = some (some j, e1) := by simp [pI, h, rdB]
theorem vals_map : ∀ ds : List D, vals (ds.map B.val) = some ds
  | [] => rfl
  | d :: ds => by
    have ih := vals_map ds
    simp only [List.map_cons, vals, ih, Option.bind_some]
theorem r_C0e {ff : FF} {np : Nat} {outs : List D} (h1 : fa env = some (ds.map B.val, e1)) (h3 : ff ds = some (d, outs)) (hl : ds.length = np) : fC0 np ff [] fa env = some (.val d, e1) := by
  unfold fC0
  rw [h1]
  simp only [Option.bind_some]
  rw [vals_map]
  simp only [Option.bind_some, List.append_nil]
  rw [if_pos hl, h3]
  rfl
theorem r_RO {fo : OF} (h : fo env = some (d, e1)) : sRO fo env = some (.rt d e1) := by simp [sRO, h]
theorem r_sXL (h : f env = some (b, e1)) : sX f env = some (.nx e1) := by simp [sX, h]
theorem r_MtL {op : D → List D → Option (D × D)} {dc d2 : D} (h0 : gt env i = some (.lst xs)) (h1 : fa env = some (bs, e1)) (h2 : vals bs = some ds) (h3 : gt e1 i = some dc) (h4 : op dc ds = some (d, d2)) (hE : st e1 i (some d2) = e2) : fMt i op fa env = some (.val d, e2) := by
  simp [fMt, h0, h1, h2, h3, h4, hE, isLst]
theorem r_Z (h1 : fa env = some (bs, e1)) (h2 : vals bs = some ds) (h3 : zipD ds = some xs) : iZ fa env = some (xs, e1) := by simp [iZ, h1, h2, h3]
theorem r_slcT {l h : PF} {lo hi : Option Int} (h1 : f env = some (b, e1)) (h2 : l e1 = some (lo, e2)) (h3 : h e2 = some (hi, e3)) (h4 : rdB e3 b = some (.tup xs)) : fSlc f l h env = some (.val (.tup (cutD xs lo hi)), e3) := by
  unfold fSlc
  rw [h1]
  simp only [Option.bind_some]
  rw [h2]
  simp only [Option.bind_some]
  rw [h3]
  simp only [Option.bind_some]
  rw [h4]
  rfl
theorem r_slcL {l h : PF} {lo hi : Option Int} (h1 : f env = some (b, e1)) (h2 : l e1 = some (lo, e2)) (h3 : h e2 = some (hi, e3)) (h4 : rdB e3 b = some (.lst xs)) : fSlc f l h env = some (.val (.lst (cutD xs lo hi)), e3) := by
  unfold fSlc
  rw [h1]
  simp only [Option.bind_some]
  rw [h2]
  simp only [Option.bind_some]
  rw [h3]
  simp only [Option.bind_some]
  rw [h4]
  rfl
theorem r_ChT {o o' : D → D → Option D} {y' w d' : D} (h1 : f env = some (b, e1)) (h2 : g e1 = some (b1, e2)) (hx : rdB e2 b = some x) (hy : rdB e2 b1 = some y) (ho : o x y = some (.bl true)) (h3 : h e2 = some (b2, e3)) (hy' : rdB e3 b1 = some y') (hw : rdB e3 b2 = some w) (ho' : o' y' w = some d') : fCh o o' f g h env = some (.val d', e3) := by
  simp [fCh, h1, h2, hx, hy, ho, isB, h3, hy', hw, ho']
theorem r_ChF {o o' : D → D → Option D} (h1 : f env = some (b, e1)) (h2 : g e1 = some (b1, e2)) (hx : rdB e2 b = some x) (hy : rdB e2 b1 = some y) (ho : o x y = some (.bl false)) : fCh o o' f g h env = some (.val (.bl false), e2) := by
  simp [fCh, h1, h2, hx, hy, ho, isB]
theorem r_lcT {gg : GF} {tt : TF} {own : List Nat} {acc : List D} {r : List D × Env} {e4 : Env} (h1 : gg d env = some e1) (h2 : tt e1 = some (true, e2)) (h3 : f e2 = some (.val y, e3)) (h4 : wipeE e3 own = e4) (h5 : lcD gg tt f own ds e4 (acc ++ [y]) = some r) : lcD gg tt f own (d :: ds) env acc = some r := by
  simp only [lcD, h1, Option.bind_some, h2, if_true, h3, h4, h5]
theorem r_lcF {gg : GF} {tt : TF} {own : List Nat} {acc : List D} {r : List D × Env} (h1 : gg d env = some e1) (h2 : tt e1 = some (false, e2)) (h4 : wipeE e2 own = e3) (h5 : lcD gg tt f own ds e3 acc = some r) : lcD gg tt f own (d :: ds) env acc = some r := by
  simp only [lcD, h1, Option.bind_some, h2, h4, h5]
  rfl
theorem r_Me {kk : Nat} {nm : Str} {np : Nat} {ff : FF} {dd outs : List D} {fo : EF} {fs : List (Str × D)} (h0 : fo env = some (.val (.obj kk fs), e1)) (hn : fs.lookup nm = none) (h1 : fa e1 = some (bs, e2)) (h2 : vals bs = some ds) (h3 : ff (.obj kk fs :: (ds ++ dd)) = some (d, outs)) (hl : (D.obj kk fs :: (ds ++ dd)).length = np) : fMe kk nm np ff dd fo fa env = some (.val d, e2) := by
  unfold fMe
  rw [h0]
  simp only [Option.bind_some]
  rw [if_pos ⟨trivial, hn⟩, h1]
  simp only [Option.bind_some]
  rw [h2]
  simp only [Option.bind_some]
  rw [if_pos hl, h3]
  rfl
theorem r_At {kk : Nat} {nm : Str} (h1 : f env = some (b, e1)) (h2 : rdB e1 b = some x) (h3 : attrD kk nm x = some d) : fAt kk nm f env = some (.val d, e1) := by
  simp [fAt, h1, h2, h3]
/-! ### keys of ints -/
def ksD (ks : List Int) : List (Key × D) := ks.map fun k => ((.inl k : Key), D.bl true)
theorem has_ks (ks : List Int) (v : Int) : hasK (ksD ks) (.inl v) = decide (v ∈ ks) := by
  induction ks with
  | nil => rfl
  | cons k ks ih =>
    have e : hasK (ksD (k :: ks)) (.inl v) = (decide ((.inl k : Key) = .inl v) || hasK (ksD ks) (.inl v)) := rfl
    rw [e, ih]
    by_cases q : k = v
    · subst q; simp
    · have : v ≠ k := fun z => q z.symm
      simp [q, this]
theorem notIn_ks (ks : List Int) (v : Int) : notInD (.int v) (.dic (ksD ks)) = some (.bl (!decide (v ∈ ks))) := by
  show (((keyD (.int v)).bind fun k => some (hasK _ k)).bind fun b => some (D.bl (!b))) = _
  simp only [keyD, Option.bind_some, has_ks]
theorem in_ks (ks : List Int) (v : Int) : inD (.int v) (.dic (ksD ks)) = some (.bl (decide (v ∈ ks))) := by
  show (((keyD (.int v)).bind fun k => some (hasK _ k)).bind fun b => some (D.bl b)) = _
  simp only [keyD, Option.bind_some, has_ks]
def addK (ks : List Int) (v : Int) : List Int := if v ∈ ks then ks else ks ++ [v]
theorem mem_addK {ks : List Int} {v x : Int} : x ∈ addK ks v ↔ x ∈ ks ∨ x = v := by
  unfold addK
  split
  · next h => exact ⟨.inl, fun k => k.elim id fun e => e ▸ h⟩
  · simp
theorem addK_nd {ks : List Int} {v : Int} (h : ks.Nodup) : (addK ks v).Nodup := by
  unfold addK
  split
  · exact h
  · next k =>
    rw [List.nodup_append]
    exact ⟨h, by simp, fun a ha b hb => by simp at hb; subst hb; exact fun z => k (z ▸ ha)⟩
theorem put_addK (ks : List Int) (v : Int) : putD (ksD ks) (.inl v) (.bl true) = ksD (addK ks v) := by
  have e := has_ks ks v
  unfold hasK at e
  unfold putD addK
  rw [e]
  by_cases h : v ∈ ks
  · simp only [decide_eq_true h, if_true, if_pos h]
    unfold ksD
    rw [List.map_map]
    refine List.map_congr_left fun k _ => ?_
    by_cases q : k = v
    · subst q; simp
    · simp [q]
  · simp only [decide_eq_false h, if_neg h]
    simp [ksD]
theorem r_dcT {gg : GF} {tt : TF} {fk fv : EF} {own : List Nat} {acc : List (Key × D)} {r : List (Key × D) × Env} {kk : Key} {kd vd : D} {e4 e5 : Env} (h1 : gg d env = some e1) (h2 : tt e1 = some (true, e2)) (h3 : fk e2 = some (b, e3)) (h4 : fv e3 = some (.val vd, e4)) (h5 : rdB e4 b = some kd) (h6 : keyD kd = some kk) (h7 : wipeE e4 own = e5) (h8 : dcD gg tt fk fv own ds e5 (putD acc kk vd) = some r) : dcD gg tt fk fv own (d :: ds) env acc = some r := by
  simp only [dcD, h1, Option.bind_some, h2, if_true, h3, h4, h5, h6, h7, h8]
theorem r_dcF {gg : GF} {tt : TF} {fk fv : EF} {own : List Nat} {acc : List (Key × D)} {r : List (Key × D) × Env} (h1 : gg d env = some e1) (h2 : tt e1 = some (false, e2)) (h7 : wipeE e2 own = e3) (h8 : dcD gg tt fk fv own ds e3 acc = some r) : dcD gg tt fk fv own (d :: ds) env acc = some r := by
  simp only [dcD, h1, Option.bind_some, h2, h7, h8]
  rfl
theorem r_dc2 {gg gg1 : GF} {fi1 : IF} {tt : TF} {fk fv : EF} {own own1 : List Nat} {acc acc2 : List (Key × D)} {r : List (Key × D) × Env} {e4 e5 : Env} (h1 : gg d env = some e1) (h2 : fi1 e1 = some (xs, e2)) (h3 : dcD gg1 tt fk fv own1 xs (wipeE e2 own1) acc = some (acc2, e4)) (h4 : wipeE e4 own = e5) (h5 : dc2D gg fi1 gg1 tt fk fv own own1 ds e5 acc2 = some r) : dc2D gg fi1 gg1 tt fk fv own own1 (d :: ds) env acc = some r := by
  simp only [dc2D, h1, Option.bind_some, h2, h3, h4, h5]
theorem r_Dc2 {it : IF} {gg gg1 : GF} {fi1 : IF} {tt : TF} {fk fv : EF} {own own1 : List Nat} {acc2 : List (Key × D)} (h1 : it env = some (xs, e1)) (h2 : dc2D gg fi1 gg1 tt fk fv own own1 xs (wipeE e1 own) [] = some (acc2, e2)) (hl : acc2.length + 1 ≤ 16777216) (h3 : backE e1 own e2 = e3) : oDc2 it gg fi1 gg1 tt fk fv own own1 env = some (.dic acc2, e3) := by
  unfold oDc2
  rw [h1]
  simp only [Option.bind_some]
  rw [h2]
  simp only [Option.bind_some, gd]
  rw [if_pos hl, h3]
theorem app_of {d : D} (hl : xs.length < 16777216) : appD (.lst xs) [d] = some (.non, .lst (xs ++ [d])) := by
  simp only [appD, gd, List.length_append, List.length_singleton]
  first
    | rw [if_pos hl]
    | (have h : xs.length + 1 ≤ 16777216 := hl; simp [h])
end
/-! ### data of ints -/
theorem repr_sm {d : D} (h1 : smB d = true) (h2 : dp d ≤ 50) (h3 : cnt d ≤ 1000) : reprD [d] = some (.str (toPy d).shown) := by
  have e : reprB d = true := by
    unfold reprB
    rw [h1, decide_eq_true h2, decide_eq_true h3]
    rfl
  show (if reprB d = true then some (D.str (toPy d).shown) else none) = _
  rw [if_pos e]
theorem sm_int {q : Int} (h : q.natAbs < 1000000000000000000) : smB (.int q) = true := by
  show decide (q.natAbs.log2 < 100) = true
  refine decide_eq_true ?_
  by_cases z : q.natAbs = 0
  · rw [z]; decide
  · exact (Nat.log2_lt z).mpr (Nat.lt_trans h (by decide))
theorem filt_tt {α : Type} (xs : List α) : xs.filter (fun _ => true) = xs := by simp
/-- .. no test -/
theorem lcD_all {α : Type} {gg : GF} {f : EF} {own : List Nat} {env : Env} (φ ψ : α → D) (e1 : α → Env) (xs : List α) (h : ∀ x ∈ xs, gg (φ x) env = some (e1 x) ∧ f (e1 x) = some (.val (ψ x), e1 x) ∧ wipeE (e1 x) own = env) :
    lcD gg tYesF f own (xs.map φ) env [] = some (xs.map ψ, env) := by
  have := lcD_map0 (gg := gg) (tt := tYesF) (f := f) (own := own) (env := env) φ ψ (fun _ => true) e1 xs fun x hx => by
    obtain ⟨a, b, c⟩ := h x hx
    exact ⟨a, rfl, fun _ => b, c⟩
  rwa [filt_tt] at this
theorem bls_of {α : Type} (p : α → Bool) (xs : List α) : blsD (xs.map fun x => D.bl (p x)) = some (xs.map p) := by
  induction xs with
  | nil => rfl
  | cons x xs ih => simp [blsD, ih]
theorem all_of {α : Type} (p : α → Bool) (xs : List α) : allD [.lst (xs.map fun x => D.bl (p x))] = some (.bl (xs.all p)) := by
  simp [allD, bls_of, List.all_map]
theorem any_of {α : Type} (p : α → Bool) (xs : List α) : anyD [.lst (xs.map fun x => D.bl (p x))] = some (.bl (xs.any p)) := by
  simp [anyD, bls_of, List.any_map]
theorem intsD_of (l : List Int) : intsD (l.map D.int) = some l := by
  induction l with
  | nil => rfl
  | cons a l ih => simp [intsD, ih]
theorem min_of {l : List Int} (h : l ≠ []) : minD [.lst (l.map D.int)] = some (.int (minI l)) := by
  cases l with
  | nil => exact absurd rfl h
  | cons a l =>
    have e : intsNE ((a :: l).map D.int) = some (a :: l) := by
      unfold intsNE
      rw [intsD_of]
      rfl
    show (intsNE ((a :: l).map D.int)).bind (fun ns => some (D.int (minI ns))) = _
    rw [e]
    rfl
theorem sort_ints (l : List Int) : sortedD [.lst (l.map D.int)] = some (.lst ((sortI l).map D.int)) := by
  simp only [sortedD, intsD_of, Option.bind_some, Option.some_or]
theorem len_of {α : Type} (φ : α → D) (xs : List α) : lenD [.lst (xs.map φ)] = some (.int (xs.length : Nat)) := by
  show some (D.int ((xs.map φ).length : Nat)) = _
  rw [List.length_map]
theorem len_ofT {α : Type} (φ : α → D) (xs : List α) : lenD [.tup (xs.map φ)] = some (.int (xs.length : Nat)) := by
  show some (D.int ((xs.map φ).length : Nat)) = _
  rw [List.length_map]
theorem rng_of (n : Nat) : rngD 0 n = (List.range n).map fun (i : Nat) => D.int (i : Nat) := by simp [rngD]
theorem iR1_nat {fa : AF} {env e' : Env} {bs : List B} {n : Nat} (h : fa env = some (bs, e')) (h2 : rdAll e' bs = some [.int (n : Nat)]) (hn : n ≤ 1000000) : iR1 fa env = some ((List.range n).map (fun (i : Nat) => D.int (i : Nat)), e') := by
  have q := iR1_ok (j := (n : Nat)) h h2 (by omega) (by omega)
  rw [Int.toNat_natCast, rng_of] at q
  exact q
theorem zip_of {α β : Type} (φ : α → D) (ψ : β → D) : ∀ (xs : List α) (ys : List β), zipL (xs.map φ) (ys.map ψ) = (xs.zip ys).map fun p => .tup [φ p.1, ψ p.2]
  | [], ys => by cases ys <;> rfl
  | x :: xs, [] => rfl
  | x :: xs, y :: ys => by
    show D.tup [φ x, ψ y] :: zipL (xs.map φ) (ys.map ψ) = _
    rw [zip_of φ ψ xs ys]
    rfl
theorem cut_tail (xs : List D) : cutD xs (some 1) none = xs.tail := by
  cases xs with
  | nil => rfl
  | cons x xs =>
    have a : HT.sIx (x :: xs).length 0 (some 1) = 1 := by
      simp only [HT.sIx]
      first
        | rfl
        | (simp; try omega)
    have b : HT.sIx (x :: xs).length (x :: xs).length none = (x :: xs).length := rfl
    unfold cutD
    rw [a, b]
    simp
end DL

namespace DL
open PySem PySem.Spec PyProof.Rows L2
/-! ### distinct ones -/
def ddp {α : Type} [DecidableEq α] (xs : List α) : List α := xs.foldl (fun acc x => if x ∈ acc then acc else acc ++ [x]) []
section
variable {α : Type} [DecidableEq α]
theorem ddp_snoc (xs : List α) (x : α) : ddp (xs ++ [x]) = if x ∈ ddp xs then ddp xs else ddp xs ++ [x] := by
  unfold ddp
  rw [List.foldl_append]
  rfl
theorem ddp_all (xs : List α) : (∀ y, y ∈ ddp xs ↔ y ∈ xs) ∧ (ddp xs).Nodup := by
  obtain ⟨n, hn⟩ : ∃ n, n = xs.length := ⟨_, rfl⟩
  induction n generalizing xs with
  | zero =>
    have : xs = [] := List.length_eq_zero_iff.mp hn.symm
    subst this
    exact ⟨fun y => Iff.rfl, List.nodup_nil⟩
  | succ n ih =>
    rcases List.eq_nil_or_concat xs with e | ⟨ys, y, e⟩
    · subst e; simp at hn
    · rw [List.concat_eq_append] at e
      subst e
      obtain ⟨h1, h2⟩ := ih ys (by simp at hn; omega)
      rw [ddp_snoc]
      by_cases m : y ∈ ddp ys
      · rw [if_pos m]
        refine ⟨fun z => ?_, h2⟩
        rw [h1, List.mem_append]
        refine ⟨.inl, fun q => q.elim id fun q => ?_⟩
        rw [List.mem_singleton.mp q]
        exact (h1 y).mp m
      · rw [if_neg m]
        refine ⟨fun z => by rw [List.mem_append, List.mem_append, h1], List.nodup_append.mpr ⟨h2, by simp, fun a ha b hb => ?_⟩⟩
        rw [List.mem_singleton.mp hb]
        rintro rfl
        exact m ha
theorem mem_ddp {xs : List α} {y : α} : y ∈ ddp xs ↔ y ∈ xs := (ddp_all xs).1 y
theorem ddp_nodup (xs : List α) : (ddp xs).Nodup := (ddp_all xs).2
theorem ddp_le (xs : List α) : (ddp xs).length ≤ xs.length := by
  obtain ⟨n, hn⟩ : ∃ n, n = xs.length := ⟨_, rfl⟩
  induction n generalizing xs with
  | zero =>
    have : xs = [] := List.length_eq_zero_iff.mp hn.symm
    subst this
    exact Nat.le_refl _
  | succ n ih =>
    rcases List.eq_nil_or_concat xs with e | ⟨ys, y, e⟩
    · subst e; simp at hn
    · rw [List.concat_eq_append] at e
      subst e
      have := ih ys (by simp at hn; omega)
      rw [ddp_snoc]
      split <;> simp <;> omega
theorem len_nodup {xs ys : List α} (h1 : xs.Nodup) (h2 : ys.Nodup) (h : ∀ a, a ∈ xs ↔ a ∈ ys) : xs.length = ys.length := ((List.perm_ext_iff_of_nodup h1 h2).mpr h).length_eq
end
/-! ### texts fill a set -/
section
variable {P : Program} {w : World} {A : Around} {E : Value → Shared → Prop} {s : Shared}
theorem strs_fill {I : Addr} {fp wr : List Addr} {G : Array GenState → Array GenState → Prop} {n : Nat} {Pv : Nat → Value → Prop} {St : Nat → Shared → Prop} {R : Result → Shared → Prop}
    (W : WalksS P w A.in1 I fp wr G n Pv St) {S : Addr} (hS : S ∉ fp) (xs : List Str) (hn : n = xs.length) (hb : xs.length + 1 < scanBound) (hv : ∀ i v, Pv i v → ∃ k t, xs[i]? = some k ∧ v = .str k t) :
    ∀ (d i : Nat) (s : Shared), i + d = n → St i s → s.heap.SetOf (PySem.strKind P w) S (fun j => decide (j ∈ ddp (xs.take i))) (ddp (xs.take i)).length →
      (∀ t, Moved (S :: wr) G s t → t.heap.SetOf (PySem.strKind P w) S (fun j => decide (j ∈ ddp xs)) (ddp xs).length → R (.ok (.ret .none)) t) →
      codeAny (model P w) A (.builtin "set.update.loop" ⟨[.ref S, .ref I], []⟩) R s
  | 0, i, s, hd, st, so, k => by
    have e : xs.take i = xs := List.take_of_length_le (by omega)
    have hi : i = n := by omega
    refine codeAny_builtin F.entry_set_update_loop ?_
    rw [Around.under_plainId F.plain_set_update_loop _]
    refine show wpAny _ A.in1 (pyNext (.ref I) >>= _) _ _ s from wpAny_bind (W.done s _ _ (hi ▸ st) fun t m => ?_)
    rw [e] at so
    obtain ⟨o, es, ep, tb, ho, r⟩ := so
    refine show wpAny _ A.in1 (ret Value.none) _ _ t from wpAny_pure (k t ⟨fun b o h => m.heap b o fun z => h (.tail _ z), m.gens, m.drawn, m.os, m.toks⟩ ⟨o, es, ep, tb, m.heap S _ (fun z => hS (W.sub _ z)) ho, r⟩)
  | d + 1, i, s, hd, st, so, k => by
    have lt : i < n := by omega
    refine codeAny_builtin F.entry_set_update_loop ?_
    rw [Around.under_plainId F.plain_set_update_loop _]
    refine show wpAny _ A.in1 (pyNext (.ref I) >>= _) _ _ s from wpAny_bind (W.item i s _ _ lt st fun v t hp st2 m => ?_)
    obtain ⟨x, tk, hx, rfl⟩ := hv i v hp
    obtain ⟨o, es, ep, tb, ho, r⟩ := so
    have so2 : t.heap.SetOf (PySem.strKind P w) S (fun j => decide (j ∈ ddp (xs.take i))) (ddp (xs.take i)).length := ⟨o, es, ep, tb, m.heap S _ (fun z => hS (W.sub _ z)) ho, r⟩
    refine show wpAny _ A.in1 (holding [Value.str x tk] (setAdd S (.str x tk)) >>= _) _ _ t from wpAny_bind (wpAny_holding ?_)
    unfold setAdd
    refine wpAny_holding (wpAny_bind ((PySem.strKind P w).pyHash (k := x) (strKind_is _ _ _ _) ?_))
    have lb : (ddp (xs.take i)).length + 1 < scanBound := by
      have h1 := ddp_le (xs.take i)
      have h2 := List.length_take_le i xs
      have h3 : (xs.take i).length ≤ xs.length := by rw [List.length_take]; omega
      omega
    refine wpAny_setAddHashed_of (knd := PySem.strKind P w) (s := { t with toks := t.toks + 1 }) (strKind_is _ _ _ _) rfl so2 lb fun h2 sb so3 => ?_
    have e : xs.take (i + 1) = xs.take i ++ [x] := by rw [List.take_add_one, hx]; rfl
    have so4 : h2.SetOf (PySem.strKind P w) S (fun j => decide (j ∈ ddp (xs.take (i + 1)))) (ddp (xs.take (i + 1))).length := by
      refine SetOf_congr so3 (fun j => ?_) ?_
      · rw [e]
        simp only [mem_ddp, List.mem_append, List.mem_singleton, Bool.decide_or]
      · rw [e, ddp_snoc]
        by_cases q : x ∈ ddp (xs.take i)
        · simp [q]
        · simp [q]
    refine wpAny_pure ⟨plainId_quiet F.plain_set_update_loop _, strs_fill W hS xs hn hb hv d (i + 1) _ (by omega) (W.frame _ t _ _ st2 (Nat.le_succ _) fun b hb2 o q => ?_) so4 fun u m2 so5 => ?_⟩
    · rw [sb.2 b fun z => hS (z ▸ hb2)]; exact q
    · have m0 : Moved (S :: wr) G s t := ⟨fun b o h => m.heap b o fun z => h (.tail _ z), m.gens, m.drawn, m.os, m.toks⟩
      refine k u (Moved.trans W.gtrans (m0.then_heap (Nat.le_succ _) fun b o hb2 q => ?_) m2) so5
      · rw [sb.2 b fun z => hb2 (z ▸ List.mem_cons_self)]; exact q
theorem fills_strs {l : Addr} {items : Array Value} {xs : List Str} (hl : s.heap.IsList l items) (hi : StrsAre items.toList xs) (hb : xs.length + 1 < scanBound) :
    Fills P w E s l fun h2 => h2.SetOf (PySem.strKind P w) s.heap.objs.size (fun j => decide (j ∈ ddp xs)) (ddp xs).length := fun B R t hB ht k => by
  have hsz : items.size = xs.length := by
    have q := StrsAre.len_eq hi
    rwa [Array.length_toList] at q
  obtain ⟨o, ho, hc, nn, hd⟩ := hl
  have hlS : l < s.heap.objs.size := Heap.lt_size ho
  have l2 : (fillH w s.heap l).IsList l items := ⟨o, Heap.get?_push_of_some _ (Heap.get?_push_of_some _ ho), hc, nn, hd⟩
  have e1 : (s.heap.push (setO0 w)).objs.size = s.heap.objs.size + 1 := Heap.size_push ..
  have it : (fillH w s.heap l).get? (s.heap.objs.size + 1) = some { cls := .type "list_iterator", data := .fields #[.ref l, .int 0 0] } := by
    rw [← e1]; exact Heap.get?_push_size _ rfl
  have gS : (fillH w s.heap l).get? s.heap.objs.size = some (setO0 w) := Heap.get?_push_of_some _ (Heap.get?_push_size _ rfl)
  refine strs_fill (P := P) (w := w) ((Walks.list (A := B.in1) (by simp [hB]) (s.heap.objs.size + 1) l (Nat.ne_of_lt (Nat.lt_succ_of_lt hlS)) items).toS) (S := s.heap.objs.size) (by simp only [List.mem_cons, List.not_mem_nil, or_false, not_or]; exact ⟨Nat.ne_of_lt (Nat.lt_succ_self _), Nat.ne_of_gt hlS⟩) xs hsz hb (fun i v hv => ?_) items.size 0 t (by omega)
    (by rw [ht]; exact ⟨⟨_, it, rfl, rfl⟩, l2⟩) ?_ fun t' m so => ?_
  · obtain ⟨z, e⟩ := SS.strs_at hi i v (by rw [Array.getElem?_toList]; exact hv)
    have hi2 : i < xs.length := by rw [← hsz]; exact (Array.getElem?_eq_some_iff.mp hv).1
    exact ⟨xs[i], z, List.getElem?_eq_getElem hi2, by rw [e, List.getD_eq_getElem?_getD, List.getElem?_eq_getElem hi2] <;> rfl⟩
  · rw [ht]
    exact SetOf_congr ((setObjOf_fresh (knd := PySem.strKind P w) (!w.params.followText "set-order")).setOf gS (by unfold scanBound; omega)) (fun _ => rfl) rfl
  · exact k t' m.gens m.drawn m.os so fun b o h1 h2 q => m.heap b o (by simp only [List.mem_cons, List.not_mem_nil, or_false, not_or]; exact ⟨h1, h2⟩) q
end
/-! ### the rules -/
/-- the set of texts at a -/
def SetS (P : Program) (w : World) (a : Addr) (xs : List Str) : HO := .ext fun h => h.SetOf (PySem.strKind P w) a (fun j => decide (j ∈ ddp xs)) (ddp xs).length
theorem setS_new {w : World} {P : Program} {H : Hp} {h : Heap} {a : Addr} {xs : List Str} (so : h.SetOf (PySem.strKind P w) a (fun j => decide (j ∈ ddp xs)) (ddp xs).length) : ObjOk P w H h a (SetS P w a xs) := by
  obtain ⟨o, es, ep, t, ho, r⟩ := id so
  exact ⟨so, ⟨o, ho⟩, fun h1 h2 ⟨o1, es1, ep1, t1, q, r1⟩ kp => ⟨o1, es1, ep1, t1, kp _ q, r1⟩⟩
section
variable {X : Cx}
theorem ints_are : ∀ {ns : List Int} {us : List Value}, Vals (ns.map V.int) us → IntsAre us ns
  | [], _, .nil => .nil
  | n :: ns, _, .cons r t => by
    obtain ⟨k, rfl⟩ := r
    exact .cons n k (ints_are t)
def rSetI (w : World) (K : PySem.W.Frag) : List V → Hp → VK → Prop := fun vs H Q => ∃ a ns, vs = [V.ref a] ∧ SqL K H a (ns.map V.int) ∧ ns.length < 4000 ∧ ∀ p, H p = none → Q (.ref p) (upd H p (SetO w p (fun j => decide (j ∈ ns)) (ddp ns).length))
theorem cr_setI (hc : X.calm = true) : CallR X (.type "set") (rSetI X.w X.K) := by
  intro pins s σ H vs us Q I r h
  obtain ⟨a, ns, rfl, hl, hb, q⟩ := h
  cases r with
  | cons r1 r2 =>
    cases r2
    cases r1
    obtain ⟨its, rv, pl, _⟩ := I.list hl
    have hi : IntsAre its.toArray.toList ns := by simpa using ints_are rv
    refine set_filled (I.ok.hd hc) pl.isList (fills_ints (ns := ns) pl.isList hi (by unfold scanBound; omega)) fun h2 tk cR kp => ?_
    obtain ⟨c, hc2, R⟩ := cR
    have ce : c = (ddp ns).length := by
      obtain ⟨o, es, ep, t, ho, hx, hd, g, nd, hm, hsz, hf, hn, _⟩ := id R
      rw [← hn, ← Array.length_toList, ← List.length_map (f := keyOf)]
      refine len_nodup nd (ddp_nodup ns) fun z => ?_
      rw [← hm z, mem_ddp]
      simp
    subst ce
    exact ⟨.ref _, _, I.laid (t' := tk) kp (Nat.le_refl _) (setO_new R), rfl, q _ (I.hok.fresh (Nat.le_refl _))⟩
def rSetS (P : Program) (w : World) (K : PySem.W.Frag) : List V → Hp → VK → Prop := fun vs H Q => ∃ a xs, vs = [V.ref a] ∧ SqL K H a (xs.map V.str) ∧ xs.length < 4000 ∧ ∀ p, H p = none → Q (.ref p) (upd H p (SetS P w p xs))
theorem cr_setS (hc : X.calm = true) : CallR X (.type "set") (rSetS X.prog X.w X.K) := by
  intro pins s σ H vs us Q I r h
  obtain ⟨a, xs, rfl, hl, hb, q⟩ := h
  cases r with
  | cons r1 r2 =>
    cases r2
    cases r1
    obtain ⟨its, rv, pl, _⟩ := I.list hl
    exact set_filled (I.ok.hd hc) pl.isList (fills_strs pl.isList (by simpa using strsAre_of rv) (by unfold scanBound; omega)) fun h2 tk R kp =>
      ⟨.ref _, _, I.laid (t' := tk) kp (Nat.le_refl _) (setS_new R), rfl, q _ (I.hok.fresh (Nat.le_refl _))⟩
/-- len of a set -/
def rLenSt (P : Program) (w : World) : List V → Hp → VK → Prop := fun vs H Q => ∃ a n, vs = [V.ref a] ∧ ((∃ S, H a = some (SetO w a S n)) ∨ ∃ xs, H a = some (SetS P w a xs) ∧ n = (ddp xs).length) ∧ Q (.int (n : Nat)) H
theorem cr_lenSt : CallR X (.builtin "len") (rLenSt X.prog X.w) := by
  intro pins s σ H vs us Q I r h
  obtain ⟨a, n, rfl, hq, q⟩ := h
  cases r with
  | cons r1 r2 =>
    cases r2
    cases r1
    have fin : ∀ {K : Type} [DecidableEq K] {knd : PySem.KeyKind X.prog X.w K} {S : K → Bool}, s.heap.SetOf knd a S n → wpAny (model X.prog X.w) X.A (call (.builtin "len") [.ref a]) (EP X pins σ Q) X.xe s := fun so => by
      obtain ⟨o, es, ep, t, ho, hx, hd, _, _, hb, hf, hn⟩ := so
      unfold scanBound at hb
      exact call_len_set ho hx hd hf (by omega) ⟨.int (n : Nat), H, (I.tok _), ⟨_, by rw [hn]⟩, q⟩
    rcases hq with ⟨S, ha⟩ | ⟨xs, ha, e⟩
    · exact fin (setO_get I ha).setOf
    · subst e
      exact fin (I.hok a _ ha).1
end
section
variable {X : Cx} {C : CA} {c : Cs} {e : Expr} {fa : AF} {pos p p2 q : Pos}
def strsD : List D → Option (List Str)
  | [] => some []
  | .str x :: ds => (strsD ds).bind fun xs => some (x :: xs)
  | _ => none
theorem strsD_rp {K : PySem.W.Frag} {F : Hp} : ∀ {vs : List V} {ds : List D} {xs : List Str}, RpAll K C F vs ds → strsD ds = some xs → vs = xs.map V.str
  | _, _, _, .nil, e => by cases e; rfl
  | _, _, _, .cons (d := d) h t, e => by
    obtain ⟨x, rfl⟩ : ∃ x, d = .str x := by cases d <;> first | exact ⟨_, rfl⟩ | (exfalso; simp [strsD] at e; done)
    obtain ⟨ys, h1, e⟩ := Option.bind_eq_some_iff.mp e
    cases e
    cases h
    rw [strsD_rp t h1]
    rfl
theorem strsD_map (xs : List Str) : strsD (xs.map D.str) = some xs := by
  induction xs with
  | nil => rfl
  | cons x xs ih => simp [strsD, ih]
/-- len(set(xs)) -/
def lenSetD : List D → Option D
  | [.lst ds] => match intsD ds with
    | some ns => if ns.length < 4000 then some (.int ((ddp ns).length : Nat)) else none
    | none => match strsD ds with
      | some xs => if xs.length < 4000 then some (.int ((ddp xs).length : Nat)) else none
      | none => none
  | _ => none
theorem PE.orE {X : Cx} {e : Expr} {t t' : TE} (h : PE X e t) (h' : PE X e t') : PE X e (fun σ H Q => t σ H Q ∨ t' σ H Q) := PE.or h h'
theorem de_lenSet (hc : X.calm = true) (hm1 : X.mg "len" = none) (hm2 : X.mg "set" = none) (ha : DA X C c [e] fa) (hg1 : Gl X "len" := by rfl) (hg2 : Gl X "set" := by rfl)
    (he : starEach [e] X.env = (false, eval e X.env) :: starEach [] X.env := by rfl) (hpl : (backTo q (starEach [] X.env)).any (·.1) = false := by rfl)
    (he2 : starEach [.Call (.Name "set" p2) [e] [] q] X.env = (false, eval (.Call (.Name "set" p2) [e] [] q) X.env) :: starEach [] X.env := by rfl) (hpl2 : (backTo pos (starEach [] X.env)).any (·.1) = false := by rfl) :
    DE X C c (.Call (.Name "len" p) [.Call (.Name "set" p2) [e] [] q] [] pos) (fB lenSetD fa) := by
  have pI := pe_callTy (p := p2) (pos := q) (cr_setI hc) hg2 hm2 boot_set ha (he := he) (hpl := hpl)
  have pS := pe_callTy (p := p2) (pos := q) (cr_setS hc) hg2 hm2 boot_set ha (he := he) (hpl := hpl)
  have LI := pe_callB (p := p) (pos := pos) cr_lenSt hg1 hm1 boot_len (pa_cons pI pa_nil he2) (he := he2) (hpl := hpl2)
  have LS := pe_callB (p := p) (pos := pos) cr_lenSt hg1 hm1 boot_len (pa_cons pS pa_nil he2) (he := he2) (hpl := hpl2)
  refine PE.imp (PE.or LI LS) fun σ H Q ⟨z, F, env, b, env', S, e, k⟩ => ?_
  simp only [fB, Option.bind_eq_some_iff] at e
  obtain ⟨⟨bs, e1⟩, h1, ds, h2, d, h3, e⟩ := e
  cases e
  unfold lenSetD at h3
  split at h3
  · next xs =>
    split at h3
    · next ns hn =>
      split at h3
      · next lt =>
        cases h3
        refine .inl ⟨z, F, env, bs, e1, S, h1, fun vs F1 H1 s1 S1 r1 => ?_⟩
        have r := r1.rb S1 h2
        cases r with
        | cons ra rb =>
          cases rb
          obtain ⟨a, us, rfl, qa, ql, rr⟩ := ra.lst S1.sub
          have eu := intsD_rp rr hn
          subst eu
          refine ⟨a, ns, rfl, SqL.of qa, lt, fun p hp => ⟨p, _, rfl, .inl ⟨_, upd_same⟩, ?_⟩⟩
          have ex : Ext F1 H1 F1 (upd H1 p (SetO X.w p (fun j => decide (j ∈ ns)) (ddp ns).length)) := ⟨Same.refl _, S1.sub.trans (same_upd hp), same_upd hp, fun _ _ h => .inl h⟩
          exact k _ F1 _ s1 (S1.ext ex) (.int _)
      · cases h3
    · split at h3
      · next xs hx =>
        split at h3
        · next lt =>
          cases h3
          refine .inr ⟨z, F, env, bs, e1, S, h1, fun vs F1 H1 s1 S1 r1 => ?_⟩
          have r := r1.rb S1 h2
          cases r with
          | cons ra rb =>
            cases rb
            obtain ⟨a, us, rfl, qa, ql, rr⟩ := ra.lst S1.sub
            have eu := strsD_rp rr hx
            subst eu
            refine ⟨a, xs, rfl, SqL.of qa, lt, fun p hp => ⟨p, _, rfl, .inr ⟨_, upd_same, rfl⟩, ?_⟩⟩
            have ex : Ext F1 H1 F1 (upd H1 p (SetS X.prog X.w p xs)) := ⟨Same.refl _, S1.sub.trans (same_upd hp), same_upd hp, fun _ _ h => .inl h⟩
            exact k _ F1 _ s1 (S1.ext ex) (.int _)
        · cases h3
      · cases h3
  · cases h3
/-- sorted(set(xs)) -/
def sortSetD : List D → Option D
  | [.lst ds] => (intsD ds).bind fun ns => if ns.length < 4000 ∧ (ddp ns).length < 64 then some (.lst ((sortI (ddp ns)).map D.int)) else none
  | _ => none
theorem sort_of {ns ms : List Int} (h1 : ms.Pairwise (· < ·)) (h2 : ∀ k, k ∈ ms ↔ decide (k ∈ ns) = true) : ms = sortI (ddp ns) := by
  have nd : ms.Nodup := h1.imp fun h => Int.ne_of_lt h
  refine sorted_unique ?_ (h1.imp fun h => Int.le_of_lt h) (sortI_sorted _)
  refine ((List.perm_ext_iff_of_nodup nd (ddp_nodup ns)).mpr fun a => ?_).trans (sortI_perm _).symm
  rw [h2, mem_ddp, decide_eq_true_eq]
theorem do_sortSet (hc : X.calm = true) (hm1 : X.mg "sorted" = none) (hm2 : X.mg "set" = none) (ha : DA X C c [e] fa) (hg1 : Gl X "sorted" := by rfl) (hg2 : Gl X "set" := by rfl)
    (he : starEach [e] X.env = (false, eval e X.env) :: starEach [] X.env := by rfl) (hpl : (backTo q (starEach [] X.env)).any (·.1) = false := by rfl)
    (he2 : starEach [.Call (.Name "set" p2) [e] [] q] X.env = (false, eval (.Call (.Name "set" p2) [e] [] q) X.env) :: starEach [] X.env := by rfl) (hpl2 : (backTo pos (starEach [] X.env)).any (·.1) = false := by rfl) :
    DO X C c (.Call (.Name "sorted" p) [.Call (.Name "set" p2) [e] [] q] [] pos) (oB sortSetD fa) := by
  have pI := pe_callTy (p := p2) (pos := q) (cr_setI hc) hg2 hm2 boot_set ha (he := he) (hpl := hpl)
  have LI := pe_callB (p := p) (pos := pos) (cr_sortedSet hc) hg1 hm1 (show bootBuiltins "sorted" = some (.builtin "sorted") by decide +kernel) (pa_cons pI pa_nil he2) (he := he2) (hpl := hpl2)
  refine PE.imp LI fun σ H Q ⟨z, F, env, b, env', S, e, k⟩ => ?_
  simp only [oB, Option.bind_eq_some_iff] at e
  obtain ⟨⟨bs, e1⟩, h1, ds, h2, d, h3, e⟩ := e
  cases e
  unfold sortSetD at h3
  split at h3
  · obtain ⟨ns, hn, h3⟩ := Option.bind_eq_some_iff.mp h3
    split at h3
    · next lt =>
      cases h3
      refine ⟨z, F, env, bs, e1, S, h1, fun vs F1 H1 s1 S1 r1 => ?_⟩
      have r := r1.rb S1 h2
      cases r with
      | cons ra rb =>
        cases rb
        obtain ⟨a, us, rfl, qa, ql, rr⟩ := ra.lst S1.sub
        have eu := intsD_rp rr hn
        subst eu
        refine ⟨a, ns, rfl, SqL.of qa, lt.1, fun p hp => ⟨p, _, _, rfl, upd_same, lt.2, fun ms p3 o1 o2 o3 hp3 => ?_⟩⟩
        have em := sort_of o1 o2
        subst em
        have ex : Ext F1 H1 F1 (upd H1 p (SetO X.w p (fun j => decide (j ∈ ns)) (ddp ns).length)) := ⟨Same.refl _, S1.sub.trans (same_upd hp), same_upd hp, fun _ _ h => .inl h⟩
        have S2 := S1.ext ex
        obtain ⟨S3, fp, zp, ap, ng⟩ := S2.newO (o := .lst ((sortI (ddp ns)).map V.int)) hp3
        exact k p3 F1 _ s1 S3 fp zp ⟨_, upd_same, by rw [List.length_map, o3]; exact Nat.le_of_lt (Nat.lt_of_lt_of_le lt.2 (by decide)), rp_ints _⟩ ap ng
    · cases h3
  · cases h3
end
end DL

namespace DL
open PySem PySem.Spec PyProof.Rows L2
/-! ### x = {k: v for ..} where x is a plain local -/
section
variable {kx vx tg iter tg1 iter1 : Expr} {ifs ifs1 : List Expr} {scope : Scope} {pos : Pos}
theorem dc2_core {X : Cx} {pins : List (Addr × Obj)} {s : Shared} {σ : L2.St} {H : Hp} {Q : VK} {pos' : Pos} {use : Option (Value → Sem Unit)} {Qf : Value → Shared → Prop} {own : List (Str × Nat)} {wi wi1 : TI} {g g1 : TG} {tt1 : TT} {tk tv : TE} {vs1 : List Nat} (hc : X.calm = true) (hN : X.N.Nodup) (I : Inv X pins σ H s) (hi : PI X tg iter wi) (ok : BlkOk X.N X.env.scope scope own) (hv : ∀ i ∈ vs1, i ∈ own.map (·.2))
    (hg : Blks X scope fun Y => PG Y tg g) (hi1 : Blks X scope fun Y => PI Y tg1 iter1 wi1) (hg1 : Blks X scope fun Y => PG Y tg1 g1) (ht1 : Blks X scope fun Y => PTs Y ifs1 tt1) (hk : Blks X scope fun Y => PE Y kx tk) (he : Blks X scope fun Y => PE Y vx tv)
    (hs : ∀ x, foldedSetIterable iter X.env x = pure x) (hs1 : ∀ env x, foldedSetIterable iter1 env x = pure x) (h : tDc2 wi g wi1 g1 tt1 tk tv (own.map (·.2)) vs1 σ H Q)
    (hRR : ∀ D C s' m H', Inv X pins σ H' s' → Q (.ref D) H' → s'.heap.Ns C m → FpOk X pins H' C → compPost (model X.prog X.w) X.A X.xe use Qf (.ref D) C (.ok .next) s') :
    wpAny (model X.prog X.w) X.A (comprehension (.DictComp kx vx [⟨tg, iter, [], 0⟩, ⟨tg1, iter1, ifs1, 0⟩] scope pos) scope X.env pos' newDict false (eval iter X.env) use) Qf X.xe s := by
  have clo := closure_ok (env := X.env) (scope := scope) fun y hy e => (ok.free y hy e).elim (fun k => I.ok.has _ (.inl k)) fun k => I.ok.has _ (.inr k)
  have first := thn (hi.run pins s σ H _ I h) fun xv s1 hx => hx
  refine wpAny_comprehension_free (use := use) rfl hs clo ok.kind (fun y hy e => by rw [ok.uniq y hy, e]) (thn first fun xv s1 h1 => thn h1 fun itv s2 h2 => ?_)
  obtain ⟨it, fp, tn, J, H2, e, I2, T, st2, f2, q⟩ := h2
  subst e
  refine wpAny_newObj_type (newEnv_comp ?_)
  have lt : ∀ b ∈ fp, b < s2.heap.objs.size := fun b hb => let ⟨_, e, _⟩ := T.obj _ _ st2 b hb; Heap.lt_size e
  have dn : H2 s2.heap.objs.size = none := I2.hok.fresh (Nat.le_refl _)
  have q := q _ dn
  have I3 : Inv X pins σ (upd H2 s2.heap.objs.size (.dK [])) { s2 with heap := s2.heap.push { cls := .type "dict", data := .dict #[] } } := I2.laid (t' := s2.toks) (fun b o e => Heap.get?_push_of_some _ e) (Nat.le_refl _) (dk_empty s2.heap I2.big)
  have f3 : ∀ b ∈ fp, FpOk X pins (upd H2 s2.heap.objs.size (.dK [])) b ∧ b < (s2.heap.push { cls := .type "dict", data := .dict #[] }).objs.size := fun b hb => by
    refine ⟨⟨?_, (f2 b hb).2⟩, by rw [Heap.size_push]; exact Nat.lt_succ_of_lt (lt b hb)⟩
    rw [upd_ne (Nat.ne_of_lt (lt b hb))]
    exact (f2 b hb).1
  have st3 := T.keep _ _ (s2.heap.push { cls := .type "dict", data := .dict #[] }) st2 fun b _ o e => Heap.get?_push_of_some _ e
  generalize (upd H2 s2.heap.objs.size (.dK []) : Hp) = H3 at I3 f3 q
  generalize hs3 : ({ s2 with heap := s2.heap.push { cls := .type "dict", data := .dict #[] } } : Shared) = s3 at I3 ⊢
  have e3 : s2.heap.push { cls := .type "dict", data := .dict #[] } = s3.heap := by rw [← hs3]
  rw [e3] at f3 st3
  have I4 := block_start I3 ok hN f3
  have st4 := T.keep _ _ (pushCells (s3.heap.push { cls := .type "dict", data := .dict #[] }) scope.names) st3 fun b _ o e => pushCells_keeps _ _ _ _ (Heap.get?_push_of_some _ e)
  have bI := body_inner (Y := (X.blk s3 H3 scope (compEnvC scope (cellsFrom (s3.heap.objs.size + 1) scope.names (cloFrom X.env.cells scope.names [])) s3.heap.objs.size X.env) fp)) (kx := kx) (vx := vx) (tg := tg) (iter := iter) (ifs := []) (scope := scope) (pos := pos) (D := s2.heap.objs.size) (vs := own.map (·.2)) hc rfl hv (hi1 s3 H3 s3.heap.objs.size (cellsFrom (s3.heap.objs.size + 1) scope.names (cloFrom X.env.cells scope.names [])) fp) (hg1 _ _ _ _ _) (ht1 _ _ _ _ _) (hk _ _ _ _ _) (he _ _ _ _ _) (hs1 _)
  have nf : ∀ b ∈ fp, FpOk (X.blk s3 H3 scope (compEnvC scope (cellsFrom (s3.heap.objs.size + 1) scope.names (cloFrom X.env.cells scope.names [])) s3.heap.objs.size X.env) fp) [] H3 b := fun b hb =>
    ⟨(f3 b hb).1.1, (I4.ok.exf b hb).1, I4.ok.exfs b hb, .inl hb, (I4.ok.exf b hb).2, fun p hp => (nomatch hp)⟩
  obtain ⟨W, w0, turn⟩ := q
  have run := clause_run (Y := (X.blk s3 H3 scope (compEnvC scope (cellsFrom (s3.heap.objs.size + 1) scope.names (cloFrom X.env.cells scope.names [])) s3.heap.objs.size X.env) fp)) (σ := wipe σ (own.map (·.2))) (tt := tYes) (c := .compLoop (.DictComp kx vx [⟨tg, iter, [], 0⟩, ⟨tg1, iter1, ifs1, 0⟩] scope pos) 0 (.ref it) (.ref s2.heap.objs.size) (compEnvC scope (cellsFrom (s3.heap.objs.size + 1) scope.names (cloFrom X.env.cells scope.names [])) s3.heap.objs.size X.env)) (src := iter) rfl rfl rfl hc rfl T (hg s3 H3 _ _ fp) pts_nil bI I4 st4 nf ⟨W, w0, fun i m H w => by rw [wipe_idem]; exact turn i m H w⟩
  have run := codeAny_compStart_dict run (T.self X.A 0 _ _ _ st4 run)
  refine codeAny_mono run fun r s5 ⟨hr, H5, I5, q5⟩ => ?_
  subst hr
  have I6 : Inv X pins σ H5 s5 := I3.call' (ch := fp) I5.os I5.base I5.hok I5.bare fun b hb => ⟨(f3 b hb).1.2.2.2.1, (f3 b hb).1.2.1, (f3 b hb).1.2.2.2.2.1, (f3 b hb).1.2.2.2.2.2⟩
  obtain ⟨m, hn, _⟩ := I5.loc
  exact hRR _ _ _ m _ I6 q5 hn (I3.fpOk (Nat.le_refl s3.heap.objs.size) (show H5 s3.heap.objs.size = none from I5.free))

theorem swd_true {kx vx : Expr} {gs : List Comprehension} {scope : Scope} {pos py : Pos} {y : Str} {l : Nat} {env : PySem.Env} (hk : env.scope.kind = .function) (hy : env.scope.names.lookup y = some .local) (hl : (py.line == pos.line) = true)
    (ha : (scope.names.any fun (n, k) => n == y && (k == .local || k == .cell)) = false) : swapsWith (.DictComp kx vx gs scope pos) (some (.Name y py)) l env = pure true := by
  have a : env.kindOf y = some .local := hy
  have b : env.blockKind = .function := by unfold Env.blockKind; rw [hk]; rfl
  unfold swapsWith
  simp only [a, b, ha, Expr.pos, hl]
  rfl
/-- the store behind the dict's comprehension -/
theorem store_comp {X : Cx} {pins : List (Addr × Obj)} {σ : L2.St} {D : Ends} {i : Nat} {y : Str} {py : Pos} {L C : Addr} {s' : Shared} {m : Str → Option Value} {H' : Hp} (hN : X.N.Nodup) (hy : X.N[i]? = some y) (hyl : X.env.scope.names.lookup y = some .local)
    (I' : Inv X pins σ H' s') (q : gName i (.ref L) σ H' D.nx) (hn : s'.heap.Ns C m) (f : FpOk X pins H' C) : compPost (model X.prog X.w) X.A X.xe (some (assign (.Name y py) X.env)) (fun _ t => SP X pins D .next t) (.ref L) C (.ok .next) s' := by
  refine show wpAny _ _ (assign (.Name y py) X.env (.ref L)) _ _ _ from wpAny_assign_Name (store_ok2 (v := V.ref L) I' hN hy (.inl hyl) rfl (fun t I2 ⟨a, sb, ha⟩ => ?_) (.inr hyl))
  obtain ⟨a0, a1, a2, a3, a4, a5⟩ := f
  have ne : C ≠ a := ha.elim (fun z => z ▸ a1) fun z e => a4 y a z e.symm
  exact ⟨m, hn.sameBut sb ne, fun h3 sb3 => ⟨_, H', I2.turned (t' := t.toks) (fun b o hb e => (sb3.2 b hb).trans e) a0 a1 a3 a4 a5, q⟩⟩
theorem ps_setDc {X : Cx} {i : Nat} {y : Str} {py spos : Pos} {own : List (Str × Nat)} {wi : TI} {g : TG} {tt : TT} {tk tv : TE} (hc : X.calm = true) (hN : X.N.Nodup) (hy : X.N[i]? = some y) (hyl : X.env.scope.names.lookup y = some .local)
    (hsw : swapsWith (.DictComp kx vx [⟨tg, iter, ifs, 0⟩] scope pos) (some (.Name y py)) spos.line X.env = pure true) (hi : PI X tg iter wi) (ok : BlkOk X.N X.env.scope scope own)
    (hg : Blks X scope fun Y => PG Y tg g) (ht : Blks X scope fun Y => PTs Y ifs tt) (hk : Blks X scope fun Y => PE Y kx tk) (he : Blks X scope fun Y => PE Y vx tv) (hs : ∀ x, foldedSetIterable iter X.env x = pure x) :
    PS X (.Assign [.Name y py] (.DictComp kx vx [⟨tg, iter, ifs, 0⟩] scope pos) spos) (tAsg (tDc wi g tt tk tv (own.map (·.2))) (gName i)) := by
  refine ⟨fun pins s σ H D I h => ?_⟩
  rw [exec_Assign_Name_used _ _ _ _ hsw]
  refine wpAny_bind (wpAny_standAt (wpAny_bind ?_))
  show wpAny _ X.A (do let _ ← comprehension (.DictComp kx vx [⟨tg, iter, ifs, 0⟩] scope pos) scope X.env (firstIterPos [⟨tg, iter, ifs, 0⟩] pos) newDict false (eval iter X.env) (some (assign (.Name y py) X.env))) _ _ s
  have h : tDc wi g tt tk tv (own.map (·.2)) σ H (fun x H1 => gName i x σ H1 D.nx) := h
  exact wpAny_bind (thn (dc_core (Qf := fun _ s' => SP X pins D .next s') hc hN I hi ok hg ht hk he hs h fun L C s' m H' I' q hn f => store_comp hN hy hyl I' q hn f) fun _ s' hq => wpAny_pure (wpAny_pure hq))
theorem ps_setDc2 {X : Cx} {i : Nat} {y : Str} {py spos : Pos} {own : List (Str × Nat)} {wi wi1 : TI} {g g1 : TG} {tt1 : TT} {tk tv : TE} {vs1 : List Nat} (hc : X.calm = true) (hN : X.N.Nodup) (hy : X.N[i]? = some y) (hyl : X.env.scope.names.lookup y = some .local)
    (hsw : swapsWith (.DictComp kx vx [⟨tg, iter, [], 0⟩, ⟨tg1, iter1, ifs1, 0⟩] scope pos) (some (.Name y py)) spos.line X.env = pure true) (hi : PI X tg iter wi) (ok : BlkOk X.N X.env.scope scope own) (hv : ∀ i ∈ vs1, i ∈ own.map (·.2))
    (hg : Blks X scope fun Y => PG Y tg g) (hi1 : Blks X scope fun Y => PI Y tg1 iter1 wi1) (hg1 : Blks X scope fun Y => PG Y tg1 g1) (ht1 : Blks X scope fun Y => PTs Y ifs1 tt1) (hk : Blks X scope fun Y => PE Y kx tk) (he : Blks X scope fun Y => PE Y vx tv)
    (hs : ∀ x, foldedSetIterable iter X.env x = pure x) (hs1 : ∀ env x, foldedSetIterable iter1 env x = pure x) :
    PS X (.Assign [.Name y py] (.DictComp kx vx [⟨tg, iter, [], 0⟩, ⟨tg1, iter1, ifs1, 0⟩] scope pos) spos) (tAsg (tDc2 wi g wi1 g1 tt1 tk tv (own.map (·.2)) vs1) (gName i)) := by
  refine ⟨fun pins s σ H D I h => ?_⟩
  rw [exec_Assign_Name_used _ _ _ _ hsw]
  refine wpAny_bind (wpAny_standAt (wpAny_bind ?_))
  show wpAny _ X.A (do let _ ← comprehension (.DictComp kx vx [⟨tg, iter, [], 0⟩, ⟨tg1, iter1, ifs1, 0⟩] scope pos) scope X.env (firstIterPos [⟨tg, iter, [], 0⟩, ⟨tg1, iter1, ifs1, 0⟩] pos) newDict false (eval iter X.env) (some (assign (.Name y py) X.env))) _ _ s
  have h : tDc2 wi g wi1 g1 tt1 tk tv (own.map (·.2)) vs1 σ H (fun x H1 => gName i x σ H1 D.nx) := h
  exact wpAny_bind (thn (dc2_core (Qf := fun _ s' => SP X pins D .next s') hc hN I hi ok hv hg hi1 hg1 ht1 hk he hs hs1 h fun L C s' m H' I' q hn f => store_comp hN hy hyl I' q hn f) fun _ s' hq => wpAny_pure (wpAny_pure hq))
end
/-- once the statement is through, an object may be locked -/
theorem PS.fz {X : Cx} {st : Stmt} {t : TS} (h : PS X st t) : PS X st (fun Dn σ H => t { Dn with nx := fun σ1 H1 => ∃ a u, H1 a = some u ∧ ∀ u', Fz u u' → Dn.nx σ1 (upd H1 a u') } σ H) :=
  ⟨fun pins s σ H Dn I q => thn (h.run pins s σ H _ I q) fun f s1 z => by
    cases f with
    | next =>
      obtain ⟨σ1, H1, I1, a, u, hu, q1⟩ := z
      obtain ⟨u', fz, I2⟩ := Inv_fz I1 hu
      exact ⟨σ1, _, I2, q1 u' fz⟩
    | brk => exact z
    | cont => exact z
    | ret v => exact z⟩
theorem SR.freezeD {K : PySem.W.Frag} {C : CA} {c : Cs} {z : Zn} {F : Hp} {env : Env} {σ : L2.St} {H : Hp} {d : D} {a : Addr} (S : SR K C c z F env σ H) (fa : F a = none) (za : z.H0 a = none) (ow : Own K C F H a d) (ap : Apt C c env σ a) (ng : ∀ e, (a, e) ∉ z.gh) :
    ∃ u, H a = some u ∧ ∀ u', Fz u u' → SR K C c z (upd F a u') env σ (upd H a u') ∧ Same F (upd F a u') ∧ Rp K C (upd F a u') (.ref a) d := by
  obtain ⟨u, hu⟩ := ow.some
  exact ⟨u, hu, fun u' fz => S.freezeN fa za ow hu fz ap ng⟩
section
variable {m : Bool} {X : Cx} {C : CA} {c : Cs}
theorem ds_setDcP (i : Nat) {y : Str} {py pos spos : Pos} {kx vx tg iter : Expr} {ifs : List Expr} {scope : Scope} {fi : IF} {gg : GF} {tt : TF} {fk fv : EF} {ts : List Nat} (own : List (Str × Nat)) (hN : X.N.Nodup) (hi : DI X C c tg iter fi) (ok : BlkOk X.N X.env.scope scope own)
    (hg : Blks X scope fun Y => DG Y C c tg ts gg) (ht : Blks X scope fun Y => DTs Y C c ifs tt) (hk : Blks X scope fun Y => DE Y C c kx fk) (he : Blks X scope fun Y => DE Y C c vx fv) (hsw : swapsWith (.DictComp kx vx [⟨tg, iter, ifs, 0⟩] scope pos) (some (.Name y py)) spos.line X.env = pure true)
    (ho : ∀ j ∈ own.map (·.2), j ∉ c.O ∧ j < c.n := by decide) (hts : ∀ t ∈ ts, t ∈ own.map (·.2) := by decide) (hO : i ∉ c.O := by decide) (hn : i < c.n := by decide) (hy : X.N[i]? = some y := by rfl) (hyl : X.env.scope.names.lookup y = some .local := by rfl) (hc : X.calm = true := by rfl) (hs : ∀ x, foldedSetIterable iter X.env x = pure x := by intro _; rfl) :
    DS m X C c (.Assign [.Name y py] (.DictComp kx vx [⟨tg, iter, ifs, 0⟩] scope pos) spos) (sSet i (fO (oDc fi gg tt fk fv (own.map (·.2))))) := by
  refine PS.imp (PS.fz (ps_setDc (wi := tI X.K C c fi) (g := tG X.K C c ts gg) (tt := tT X.K C c tt) (tk := tE X.K C c fk) (tv := tE X.K C c fv) hc hN hy hyl hsw hi ok hg ht hk he hs)) fun Dn σ H ⟨z, F, env, fl, S, hgh, e, k⟩ => ?_
  simp only [sSet, fO, Option.bind_eq_some_iff] at e
  obtain ⟨r, ⟨⟨d, e1⟩, h1, e0⟩, e⟩ := e
  cases e0
  cases e
  exact dc_read ho hts S h1 fun a F1 H1 s1 S1 fa za ow ap ng => by
    obtain ⟨u, hu, fr⟩ := S1.freezeD fa za ow ap ng
    refine ⟨a, u, hu, fun u' fz => ?_⟩
    obtain ⟨S2, s2, r⟩ := fr u' fz
    exact k _ _ _ (s1.trans s2) (S2.setP hO hn r)
theorem ds_setDcP2 (i : Nat) {y : Str} {py pos spos : Pos} {kx vx tg iter tg1 iter1 : Expr} {ifs1 : List Expr} {scope : Scope} {fi fi1 : IF} {gg gg1 : GF} {tt : TF} {fk fv : EF} {ts ts1 : List Nat} (own : List (Str × Nat)) (own1 : List Nat) (hN : X.N.Nodup) (hi : DI X C c tg iter fi) (ok : BlkOk X.N X.env.scope scope own)
    (hg : Blks X scope fun Y => DG Y C c tg ts gg) (hi1 : Blks X scope fun Y => DI Y C c tg1 iter1 fi1) (hg1 : Blks X scope fun Y => DG Y C c tg1 ts1 gg1) (ht : Blks X scope fun Y => DTs Y C c ifs1 tt) (hk : Blks X scope fun Y => DE Y C c kx fk) (he : Blks X scope fun Y => DE Y C c vx fv)
    (hsw : swapsWith (.DictComp kx vx [⟨tg, iter, [], 0⟩, ⟨tg1, iter1, ifs1, 0⟩] scope pos) (some (.Name y py)) spos.line X.env = pure true)
    (ho : ∀ j ∈ own.map (·.2), j ∉ c.O ∧ j < c.n := by decide) (hts : ∀ t ∈ ts, t ∈ own.map (·.2) := by decide) (hts1 : ∀ t ∈ ts1, t ∈ own1 := by decide) (how : ∀ j ∈ own1, j ∈ own.map (·.2) := by decide) (hO : i ∉ c.O := by decide) (hn : i < c.n := by decide) (hy : X.N[i]? = some y := by rfl) (hyl : X.env.scope.names.lookup y = some .local := by rfl) (hc : X.calm = true := by rfl) (hs : ∀ x, foldedSetIterable iter X.env x = pure x := by intro _; rfl) (hs1 : ∀ env x, foldedSetIterable iter1 env x = pure x := by intro _ _; rfl) :
    DS m X C c (.Assign [.Name y py] (.DictComp kx vx [⟨tg, iter, [], 0⟩, ⟨tg1, iter1, ifs1, 0⟩] scope pos) spos) (sSet i (fO (oDc2 fi gg fi1 gg1 tt fk fv (own.map (·.2)) own1))) := by
  refine PS.imp (PS.fz (ps_setDc2 (wi := tI X.K C c fi) (g := tG X.K C c ts gg) (wi1 := tI X.K C c fi1) (g1 := tG X.K C c ts1 gg1) (tt1 := tT X.K C c tt) (tk := tE X.K C c fk) (tv := tE X.K C c fv) (vs1 := own1) hc hN hy hyl hsw hi ok how hg hi1 hg1 ht hk he hs hs1)) fun Dn σ H ⟨z, F, env, fl, S, hgh, e, k⟩ => ?_
  simp only [sSet, fO, Option.bind_eq_some_iff] at e
  obtain ⟨r, ⟨⟨d, e1⟩, h1, e0⟩, e⟩ := e
  cases e0
  cases e
  exact dc2_read ho hts hts1 how S h1 fun a F1 H1 s1 S1 fa za ow ap ng => by
    obtain ⟨u, hu, fr⟩ := S1.freezeD fa za ow ap ng
    refine ⟨a, u, hu, fun u' fz => ?_⟩
    obtain ⟨S2, s2, r⟩ := fr u' fz
    exact k _ _ _ (s1.trans s2) (S2.setP hO hn r)
end
end DL

namespace DL
open PySem PySem.Spec PyProof.Rows L2
/-! ### lists of unlike lengths, whatever is in them -/
section
variable {X : Cx} {C : CA}
def rLenNe (K : PySem.W.Frag) (b : Bool) : R2 := fun x y H Q => ∃ a1 a2 xs ys, x = .ref a1 ∧ y = .ref a2 ∧ SqL K H a1 xs ∧ SqL K H a2 ys ∧ xs.length ≠ ys.length ∧ Q (.bl b) H
theorem vals_sz {xs : List V} {its : List Value} (r : Vals xs its) : its.toArray.size = xs.length := by rw [List.size_toArray, ← r.length]
theorem op_neLen (hu : X.A.units + 64 < cLine) : OpR X (compareOp .NotEq) (rLenNe X.K true) := by
  intro pins s σ H x y v u Q I rx ry h
  obtain ⟨a1, a2, xs, ys, rfl, rfl, h1, h2, ne, q⟩ := h
  cases rx
  cases ry
  obtain ⟨i1, r1, p1, _⟩ := I.list h1
  obtain ⟨i2, r2, p2, _⟩ := I.list h2
  exact PySem.SeqAt.RcNeAt.lists_lengths p1.isList p2.isList (by rw [vals_sz r1, vals_sz r2]; simpa using ne) (by omega) _ _ _ _ ⟨.bl true, H, I, rfl, q⟩
def neLD (x y : D) : Option D := match x, y with
  | .lst xs, .lst ys => if xs.length ≠ ys.length then some (.bl true) else none
  | _, _ => none
def neX (x y : D) : Option D := (neD x y).or (neLD x y)
theorem od_neL (hu : X.A.units + 64 < cLine) : OpD X C (compareOp .NotEq) neLD := by
  refine ⟨_, op_neLen hu, fun F H x y dx dy d Q s rx ry e k => ?_⟩
  unfold neLD at e
  split at e
  · next xs ys =>
    split at e
    · next ne =>
      cases e
      obtain ⟨a1, vs, rfl, q1, _, r1⟩ := rx.lst s
      obtain ⟨a2, ws, rfl, q2, _, r2⟩ := ry.lst s
      exact ⟨a1, a2, vs, ws, rfl, rfl, SqL.of q1, SqL.of q2, by rw [r1.length, r2.length]; exact ne, k _ F H (Ext.rfl' s) (.bl _)⟩
    · cases e
  · cases e
theorem od_neX (hu : X.A.units + 64 < cLine) : OpD X C (compareOp .NotEq) neX := (od_ne hu).or (od_neL hu)
theorem neX_nil (xs : List D) : neX (.lst xs) (.lst []) = some (.bl (!xs.isEmpty)) := by
  cases xs with
  | nil => rfl
  | cons x xs =>
    show (neD (.lst (x :: xs)) (.lst [])).or (some (.bl true)) = _
    unfold neD
    split
    · rfl
    · rfl
end
/-! ### str(i) of a whole number -/
section
variable {X : Cx} {C : CA}
def strI : List D → Option D
  | [.int i] => if i.natAbs.log2 < 1920 then some (.str (toString i)) else none
  | _ => none
theorem cd_strI : CallD X C (.type "str") strI := by
  refine ⟨_, call_str_int, fun F H vs ds d Q s r e k => ?_⟩
  unfold strI at e
  split at e
  · next i =>
    split at e
    · next h =>
      cases e
      cases r with
      | cons r1 r2 =>
        cases r2
        rw [r1.int]
        exact ⟨i, rfl, h, k _ F H (Ext.rfl' s) (.str _)⟩
    · cases e
  · cases e
theorem str_inj {i j : Int} (hi : 0 ≤ i) (hj : 0 ≤ j) (h : (Str.ofString (toString i)) = Str.ofString (toString j)) : i = j := by
  obtain ⟨m, rfl⟩ : ∃ m : Nat, i = m := ⟨i.toNat, by omega⟩
  obtain ⟨n, rfl⟩ : ∃ n : Nat, j = n := ⟨j.toNat, by omega⟩
  have e := congrArg TL.tl h
  rw [TL.tl_num, TL.tl_num] at e
  rw [TL.numL_inj e]
theorem strI_small {i : Int} (h : i.natAbs < 1000000000000000000) : strI [.int i] = some (.str (Str.ofString (toString i))) := by
  refine if_pos ?_
  by_cases e : i.natAbs = 0
  · rw [e]; decide
  · rw [Nat.log2_lt e]
    exact Nat.lt_of_lt_of_le h (by decide)
/-! ### [..] * n: a new list -/
variable {c : Cs} {a b : Expr} {f g : EF} {pos : Pos}
def oMulL (f g : EF) : OF := fun env => (f env).bind fun p => (g p.2).bind fun q => (rdB q.2 p.1).bind fun x => (rdB q.2 q.1).bind fun y => (mulL x y).bind fun d => some (d, q.2)
theorem do_mulL (ha : DE X C c a f) (hb : DE X C c b g) : DO X C c (.BinOp a .Mult b pos) (oMulL f g) := by
  refine PE.imp (pe_op op_rep ha hb) fun σ H Q ⟨z, F, env, b, env', S, e, k⟩ => ?_
  simp only [oMulL, Option.bind_eq_some_iff] at e
  obtain ⟨⟨b1, e1⟩, h1, ⟨b2, e2⟩, h2, x, hx, y, hy, d, hd, e⟩ := e
  cases e
  refine ⟨z, F, env, b1, e1, S, h1, fun v F1 H1 s1 S1 r1 => ⟨z, F1, e1, b2, _, S1, h2, fun w F2 H2 s2 S2 r2 => ?_⟩⟩
  have rx := (r1.mono s2).rb S2 hx
  have ry := r2.rb S2 hy
  cases x <;> simp only [mulL] at hd <;> try (cases hd; done)
  cases y <;> try (cases hd; done)
  dsimp only at hd
  split at hd
  case isFalse => cases hd
  next hb =>
  simp only [Bool.and_eq_true, decide_eq_true_eq] at hb
  obtain ⟨hl, hd⟩ := gd_some hd
  cases hd
  obtain ⟨a, vs, rfl, q1, l1, w1⟩ := rx.lst S2.sub
  rename_i i
  have hl' : vs.length * i.toNat ≤ sizeLine := by rw [w1.length]; exact hl
  refine ⟨a, i, vs, rfl, ry.int, q1, hb.1, hb.2, hl', fun p hp => ?_⟩
  obtain ⟨S3, fp, zp, ap, ng⟩ := S2.newO (o := .lst (List.replicate i.toNat vs).flatten) hp
  exact k p F2 _ (s1.trans s2) S3 fp zp ⟨_, upd_same, by rw [rep_len, Nat.mul_comm]; exact hl', rep_rp w1 _⟩ ap ng
theorem r_MulL {env e1 e2 : Env} {b1 b2 : B} {x y d : D} (h1 : f env = some (b1, e1)) (h2 : g e1 = some (b2, e2)) (hx : rdB e2 b1 = some x) (hy : rdB e2 b2 = some y) (h : mulL x y = some d) : oMulL f g env = some (d, e2) := by simp [oMulL, h1, h2, hx, hy, h]
end
end DL

namespace DL
open PySem L2
/-! ### steps for the reader (walk_at "rd" in the laws' texts) -/
section
variable {env e e1 e2 e3 e4 : Env} {f g h : EF} {fa : AF} {ff : FF} {op : D → D → Option D} {i j np : Nat} {d d1 d2 x y w r : D} {b b1 b2 : B} {bs : List B} {ds dd outs xs ys : List D} {k k1 k2 k3 : Bool} {t t1 t2 : TF} {s s1 s2 : SF} {fl : Fl}
theorem q_run {c : Cs} {fb : SF} {e0 : Env} {rr : D × List D} (he : env0 c.n ds = e0) (h1 : fb e0 = some fl) (h2 : endF c.io fl = some rr) : runF c fb ds = some rr := by
  obtain ⟨d, os⟩ := rr
  subst he
  exact r_run h1 h2
/-! slots -/
theorem st0 {o o2 : Option D} : st (o :: e) 0 o2 = o2 :: e := rfl
theorem stS {o o2 : Option D} (h : st e i o2 = e1) : st (o :: e) (i + 1) o2 = o :: e1 := by subst h; rfl
theorem wp0 : wipeE e [] = e := rfl
theorem wpS {own : List Nat} (h : wipeE e own = e1) (h2 : st e1 i none = e2) : wipeE e (i :: own) = e2 := by subst h h2; rfl
theorem bk0 : backE env [] e = e := rfl
theorem bkS {own : List Nat} {o : Option D} (h : backE env own e = e1) (h1 : gt env i = o) (h2 : st e1 i o = e2) : backE env (i :: own) e = e2 := by subst h h1 h2; rfl
theorem gt0 {o : Option D} : gt (o :: e) 0 = o := rfl
theorem gtS {o o2 : Option D} (h : gt e i = o2) : gt (o :: e) (i + 1) = o2 := h
/-! arguments -/
/-- arguments that are data -/
def AV (fa : AF) (env : Env) (ds : List D) (e : Env) : Prop := fa env = some (ds.map B.val, e)
theorem av_N : AV aN env [] env := rfl
theorem av_C (h1 : f env = some (.val d, e1)) (h2 : AV fa e1 ds e2) : AV (aC f fa) env (d :: ds) e2 := by
  show aC f fa env = some (B.val d :: ds.map B.val, e2)
  unfold AV at h2
  simp [aC, h1, h2]
/-- arguments that are read -/
def AR (fa : AF) (env : Env) (ds : List D) (e : Env) : Prop := ∃ bs, fa env = some (bs, e) ∧ rdAll e bs = some ds
theorem ar_N : AR aN env [] env := ⟨[], rfl, rfl⟩
/-- what an expression gives is data d behind it -/
def RDB (e : Env) (b : B) (d : D) : Prop := rdB e b = some d
theorem rdb_v : RDB e (.val d) d := rfl
theorem rdb_s (h : gt e i = some d) : RDB e (.slot i) d := h
theorem rdAll_mono {bs : List B} : rdAll e2 bs = some ds → rdAll e2 bs = some ds := id
def ARs (fa : AF) (env : Env) (bs : List B) (e : Env) : Prop := fa env = some (bs, e)
theorem as_N : ARs aN env [] env := rfl
theorem as_C (h1 : f env = some (b, e1)) (h2 : ARs fa e1 bs e2) : ARs (aC f fa) env (b :: bs) e2 := by
  unfold ARs at h2
  show aC f fa env = _
  simp [aC, h1, h2]
def RDs (e : Env) (bs : List B) (ds : List D) : Prop := rdAll e bs = some ds
theorem rds_N : RDs e [] [] := rfl
theorem rds_C (h1 : RDB e b d) (h2 : RDs e bs ds) : RDs e (b :: bs) (d :: ds) := by
  unfold RDB at h1
  unfold RDs at h2
  show rdAll e (b :: bs) = _
  simp [rdAll, h1, h2]
theorem q_B {o : List D → Option D} (h1 : ARs fa env bs e1) (h2 : RDs e1 bs ds) (ho : o ds = some d) : fB o fa env = some (.val d, e1) := r_B h1 h2 ho
theorem q_OB {o : List D → Option D} (h1 : ARs fa env bs e1) (h2 : RDs e1 bs ds) (ho : o ds = some d) : oB o fa env = some (d, e1) := r_OB h1 h2 ho
theorem q_2 (h1 : f env = some (b1, e1)) (h2 : g e1 = some (b2, e2)) (hx : RDB e2 b1 x) (hy : RDB e2 b2 y) (ho : op x y = some d) : f2 op f g env = some (.val d, e2) := r_2 h1 h2 hx hy ho
theorem q_C0 (h1 : AV fa env ds e1) (h2 : ff ds = some (d, outs)) (hl : ds.length = np) : fC0 np ff [] fa env = some (.val d, e1) := r_C0e h1 h2 hl
theorem q_OC0 (h1 : AV fa env ds e1) (h2 : ff ds = some (d, outs)) (hl : ds.length = np) : oC0 np ff [] fa env = some (d, e1) :=
  r_OC0 (dd := []) h1 (vals_map ds) (by rw [List.append_nil]; exact h2) (by rw [List.append_nil]; exact hl)
/-- appended -/
def APP (xs ys zs : List D) : Prop := xs ++ ys = zs
theorem app_N : APP [] ys ys := rfl
theorem app_C (h : APP xs ys ds) : APP (d :: xs) ys (d :: ds) := by
  unfold APP at h
  show d :: xs ++ ys = _
  rw [List.cons_append, h]
theorem q_C0d (h1 : AV fa env ds e1) (h0 : APP ds dd xs) (h2 : ff xs = some (d, outs)) (hl : xs.length = np) : fC0 np ff dd fa env = some (.val d, e1) := by
  unfold APP at h0
  subst h0
  exact r_C0 h1 (vals_map ds) h2 hl
theorem ioArgs_v (hg : gt e i = some d) : ioArgs e (.slot i :: ds.map B.val) = some (i, d :: ds) := by
  simp [ioArgs, hg, vals_map]
theorem q_C1 (h1 : AV fa env ds e1) (h0 : gt env i = some d1) (hg : gt e1 i = some d2) (h2 : ff (d2 :: ds) = some (d, [x])) (hl : (d2 :: ds).length = np) (hE : st e1 i (some x) = e2) : fC1 np ff (aC (fS i) fa) env = some (.val d, e2) :=
  r_C1 (r_aC (r_S h0) h1) (ioArgs_v hg) h2 hl hE
theorem q_OC1 (h1 : AV fa env ds e1) (h0 : gt env i = some d1) (hg : gt e1 i = some d2) (h2 : ff (d2 :: ds) = some (d, [x])) (hl : (d2 :: ds).length = np) (hE : st e1 i (some x) = e2) : oC1 np ff (aC (fS i) fa) env = some (d, e2) :=
  r_OC1 (r_aC (r_S h0) h1) (ioArgs_v hg) h2 hl hE
theorem q_Mk {kk : Nat} (h1 : AV fa env ds e1) (h0 : APP (.obj kk [] :: ds) dd xs) (h2 : ff xs = some (.non, [d])) (hl : xs.length = np) : oMk kk np ff dd fa env = some (d, e1) := by
  unfold APP at h0
  rw [List.cons_append] at h0
  subst h0
  exact r_Mk h1 (vals_map ds) h2 hl
theorem q_tup (h1 : AV fa env ds e1) (hl : ds.length ≤ 16777216) : fTup fa env = some (.val (.tup ds), e1) := r_tup h1 (vals_map ds) hl
theorem q_lst (h1 : AV fa env ds e1) (hl : ds.length ≤ 16777216) : oLst fa env = some (.lst ds, e1) := r_lst h1 (vals_map ds) hl
theorem q_Me {kk : Nat} {nm : Str} {fo : EF} (h0 : fo env = some (.val (.obj kk fs), e1)) (hn : fs.lookup nm = none) (h1 : AV fa e1 ds e2) (hd : APP (.obj kk fs :: ds) dd xs) (h3 : ff xs = some (d, outs)) (hl : xs.length = np) : fMe kk nm np ff dd fo fa env = some (.val d, e2) := by
  unfold APP at hd
  rw [List.cons_append] at hd
  subst hd
  exact r_Me h0 hn h1 (vals_map ds) h3 hl
/-! tests: the answer decides what is read next -/
def tK (k : Bool) (t1 t2 : TF) : TF := if k then t1 else t2
def tFl : TF := fun e => some (false, e)
def tTr : TF := fun e => some (true, e)
theorem q_and (h1 : t1 env = some (k, e1)) (h2 : tK k t2 tFl e1 = some (k2, e2)) : fAnd t1 t2 env = some (k2, e2) := by
  cases k
  · cases h2; exact r_andF h1
  · exact r_andT h1 h2
theorem q_or (h1 : t1 env = some (k, e1)) (h2 : tK k tTr t2 e1 = some (k2, e2)) : fOr t1 t2 env = some (k2, e2) := by
  cases k
  · exact r_orF h1 h2
  · cases h2; exact r_orT h1
theorem tk_T (h : t1 e = some (k, e1)) : tK true t1 t2 e = some (k, e1) := h
theorem tk_F (h : t2 e = some (k, e1)) : tK false t1 t2 e = some (k, e1) := h
theorem tfl_ok : tFl e = some (false, e) := rfl
theorem ttr_ok : tTr e = some (true, e) := rfl
/-- k2 is the contrary of k1 -/
def NT (k1 k2 : Bool) : Prop := k2 = !k1
theorem nt_T : NT true false := rfl
theorem nt_F : NT false true := rfl
theorem nt_x : NT k (!k) := rfl
theorem q_not (h1 : t env = some (k, e1)) (h2 : NT k k2) : fNot t env = some (k2, e1) := by rw [h2]; exact r_not h1
theorem q_notV (h1 : f env = some (.val (.bl k), e1)) (h2 : NT k k2) : fNotV f env = some (.val (.bl k2), e1) := by rw [h2]; exact r_notV h1
def eK (k : Bool) (f g : EF) : EF := if k then f else g
theorem ek_T (h : f e = some (b, e1)) : eK true f g e = some (b, e1) := h
theorem ek_F (h : g e = some (b, e1)) : eK false f g e = some (b, e1) := h
theorem q_andV (h1 : f env = some (.val (.bl k), e1)) (h2 : eK k g (fC (.bl false)) e1 = some (b, e2)) : fAndV f g env = some (b, e2) := by
  cases k
  · cases h2; exact r_andVF h1
  · exact r_andVT h1 h2
theorem q_orV (h1 : f env = some (.val (.bl k), e1)) (h2 : eK k (fC (.bl true)) g e1 = some (b, e2)) : fOrV f g env = some (b, e2) := by
  cases k
  · exact r_orVF h1 h2
  · cases h2; exact r_orVT h1
theorem q_if (h1 : t env = some (k, e1)) (h2 : eK k f g e1 = some (b, e2)) : fIf t f g env = some (b, e2) := by
  cases k
  · exact r_ifF h1 h2
  · exact r_ifT h1 h2
def sK (k : Bool) (s1 s2 : SF) : SF := if k then s1 else s2
theorem sk_T (h : s1 e = some fl) : sK true s1 s2 e = some fl := h
theorem sk_F (h : s2 e = some fl) : sK false s1 s2 e = some fl := h
theorem q_sIf (h1 : t env = some (k, e1)) (h2 : sK k s1 s2 e1 = some fl) : sIf t s1 s2 env = some fl := by
  cases k
  · exact r_sF h1 h2
  · exact r_sT h1 h2
/-! a sequence: what the first says decides -/
def sThen (fl : Fl) (s : SF) : Option Fl := match fl with
  | .nx e => s e
  | f => some f
theorem q_Q {fl1 : Fl} (h1 : s1 env = some fl1) (h2 : sThen fl1 s2 = some fl) : sQ s1 s2 env = some fl := by
  cases fl1 <;> simp only [sQ, h1, Option.bind_some] <;> exact h2
theorem th_nx (h : s e = some fl) : sThen (.nx e) s = some fl := h
theorem th_rt : sThen (.rt d e) s = some (.rt d e) := rfl
theorem th_bk : sThen (.bk e) s = some (.bk e) := rfl
theorem th_ct : sThen (.ct e) s = some (.ct e) := rfl
theorem q_frz (h1 : s env = some fl) {fl2 : Fl} (h2 : fl.wipe i = fl2) : sFrz i s env = some fl2 := by rw [← h2]; exact r_frz h1
theorem wp_nx (h : st e i none = e1) : (Fl.nx e).wipe i = .nx e1 := by subst h; rfl
theorem wp_bk (h : st e i none = e1) : (Fl.bk e).wipe i = .bk e1 := by subst h; rfl
theorem wp_ct (h : st e i none = e1) : (Fl.ct e).wipe i = .ct e1 := by subst h; rfl
theorem wp_rt : (Fl.rt d e).wipe i = .rt d e := rfl
theorem q_par {fo go : OF} (h1 : fo env = some (x, e1)) (h2 : go e1 = some (y, e2)) (hE : st e2 i (some x) = e3) (hE2 : st e3 j (some y) = e4) : sPar i j fo go env = some (.nx e4) := by subst hE; exact r_par h1 h2 hE2
theorem q_par3 {l : Nat} {d1 d2 d3 : D} {e5 : Env} (h1 : AV fa env [d1, d2, d3] e1) (hE : st e1 i (some d1) = e2) (hE2 : st e2 j (some d2) = e3) (hE3 : st e3 l (some d3) = e4) : sPar3 i j l fa env = some (.nx e4) := by subst hE hE2; exact r_par3 h1 (vals_map _) hE3
theorem q_par3O {l : Nat} {fo go ho : OF} {d3 : D} {e5 e6 : Env} (h1 : fo env = some (x, e1)) (h2 : go e1 = some (y, e2)) (h3 : ho e2 = some (d3, e3)) (hE : st e3 i (some x) = e4) (hE2 : st e4 j (some y) = e5) (hE3 : st e5 l (some d3) = e6) : sPar3O i j l fo go ho env = some (.nx e6) := by subst hE hE2; exact r_par3O h1 h2 h3 hE3
theorem q_X (h1 : f env = some (b, e1)) (hb : RDB e1 b d) (hv : b = .val d) (h2 : itms d = some xs) : iX f env = some (xs, e1) := by subst hv; exact r_X h1 h2
theorem q_Xv (h1 : f env = some (.val d, e1)) (h2 : itms d = some xs) : iX f env = some (xs, e1) := r_X h1 h2
theorem q_aug (h0 : gt env i = some x) (h1 : f env = some (b, e1)) (h2 : RDB e1 b y) (ho : op x y = some d) (hE : st e1 i (some d) = e2) : sAug i op f env = some (.nx e2) := by
  unfold RDB at h2
  simp [sAug, h0, h1, h2, ho, hE]
theorem q_neg {z : Int} (h1 : f env = some (b, e1)) (h2 : RDB e1 b (.int z)) : fNeg f env = some (.val (.int (-z)), e1) := by
  unfold RDB at h2
  simp [fNeg, h1, h2]
theorem q_At {kk : Nat} {nm : Str} (h1 : f env = some (b, e1)) (h2 : RDB e1 b x) (h3 : attrD kk nm x = some d) : fAt kk nm f env = some (.val d, e1) := r_At h1 h2 h3
theorem q_Is {T : String} (h1 : f env = some (b, e1)) (h2 : RDB e1 b d) (h3 : instB T d = some k) : fIs T f env = some (.val (.bl k), e1) := r_Is h1 h2 h3
theorem q_Ch {o o' : D → D → Option D} {bb : D} (h1 : f env = some (b, e1)) (h2 : g e1 = some (b1, e2)) (hx : RDB e2 b x) (hy : RDB e2 b1 y) (ho : o x y = some (.bl k)) (h3 : eK k (f2 o' (fun e => some (b1, e)) h) (fC (.bl false)) e2 = some (.val bb, e3)) : fCh o o' f g h env = some (.val bb, e3) := by
  cases k
  · cases h3; exact r_ChF h1 h2 hx hy ho
  · have h4 : f2 o' (fun e => some (b1, e)) h e2 = some (.val bb, e3) := h3
    unfold f2 at h4
    simp only [Option.bind_eq_some_iff] at h4
    obtain ⟨⟨z1, z2⟩, a1, ⟨z3, z4⟩, a2, v1, a3, v2, a4, v3, a5, a6⟩ := h4
    cases a1
    cases a6
    exact r_ChT h1 h2 hx hy ho a2 a3 a4 a5
theorem q_thru : (fun e => some (b, e) : EF) env = some (b, env) := rfl
/-! whole numbers compared -/
theorem lt_T {i j : Int} (h : i < j) : ltD (.int i) (.int j) = some (.bl true) := by show some (D.bl (decide (i < j))) = _; rw [decide_eq_true h]
theorem lt_F {i j : Int} (h : ¬ i < j) : ltD (.int i) (.int j) = some (.bl false) := by show some (D.bl (decide (i < j))) = _; rw [decide_eq_false h]
theorem le_T {i j : Int} (h : i ≤ j) : leD (.int i) (.int j) = some (.bl true) := by show some (D.bl (decide (i ≤ j))) = _; rw [decide_eq_true h]
theorem le_F {i j : Int} (h : ¬ i ≤ j) : leD (.int i) (.int j) = some (.bl false) := by show some (D.bl (decide (i ≤ j))) = _; rw [decide_eq_false h]
theorem gt_T {i j : Int} (h : j < i) : gtD (.int i) (.int j) = some (.bl true) := by show some (D.bl (decide (j < i))) = _; rw [decide_eq_true h]
theorem gt_F {i j : Int} (h : ¬ j < i) : gtD (.int i) (.int j) = some (.bl false) := by show some (D.bl (decide (j < i))) = _; rw [decide_eq_false h]
theorem ge_T {i j : Int} (h : j ≤ i) : geD (.int i) (.int j) = some (.bl true) := by show some (D.bl (decide (j ≤ i))) = _; rw [decide_eq_true h]
theorem ge_F {i j : Int} (h : ¬ j ≤ i) : geD (.int i) (.int j) = some (.bl false) := by show some (D.bl (decide (j ≤ i))) = _; rw [decide_eq_false h]
theorem eq_T {i j : Int} (h : i = j) : eqD (.int i) (.int j) = some (.bl true) := by subst h; rw [eqD_int]; simp
theorem eq_F {i j : Int} (h : ¬ i = j) : eqD (.int i) (.int j) = some (.bl false) := by rw [eqD_int]; simp [h]
theorem ne_T {i j : Int} (h : ¬ i = j) : neD (.int i) (.int j) = some (.bl true) := by rw [neD_int]; simp [h]
theorem ne_F {i j : Int} (h : i = j) : neD (.int i) (.int j) = some (.bl false) := by subst h; rw [neD_int]; simp
/-! comprehensions -/
theorem q_Lc {it : IF} {gg : GF} {tt : TF} {own : List Nat} {xs ys : List D} {e0 : Env} (h1 : it env = some (xs, e1)) (hw : wipeE e1 own = e0) (h2 : lcD gg tt f own xs e0 [] = some (ys, e2)) (h3 : backE e1 own e2 = e3) : oLc it gg tt f own env = some (.lst ys, e3) := by
  subst hw; exact r_Lc h1 h2 h3
theorem q_C00 (h : ff [] = some (d, outs)) : fC00 ff env = some (.val d, env) := by simp [fC00, h]
theorem q_fC : fC d env = some (.val d, env) := rfl
theorem q_P (h1 : f env = some (.val d, e1)) : oP f env = some (d, e1) := r_P h1
theorem q_V (hh : gt env i = some d) : fV i env = some (.val d, env) := r_V hh
theorem q_S (hh : gt env i = some d) : fS i env = some (.slot i, env) := r_S hh
theorem q_M (hh : gt env i = some d) (h2 : st env i none = e1) : fM i env = some (.val d, e1) := by simp [fM, hh, h2]
theorem q_oSl (hh : gt env i = some d) (h2 : st env i none = e1) : oSl i env = some (d, e1) := by simp [oSl, hh, h2]
theorem q_fT {gs : GFs} {n : Nat} (h : n = xs.length) (h2 : gs xs env = some e1) : gT n gs (.tup xs) env = some e1 := by subst h; simp [gT, h2]
theorem q_gUT {gs : GFs} {n : Nat} (h : n = xs.length) (h2 : gs xs env = some e1) : gU n gs (.tup xs) env = some e1 := by subst h; simp [gU, h2]
theorem q_gUL {gs : GFs} {n : Nat} (h : n = xs.length) (h2 : gs xs env = some e1) : gU n gs (.lst xs) env = some e1 := by subst h; simp [gU, h2]
theorem q_gN (hE : st env i (some d) = e1) : gN i d env = some e1 := by subst hE; rfl
theorem q_gC {g : GF} {gs : GFs} (h : g d env = some e1) (h2 : gs ds e1 = some e2) : gC g gs (d :: ds) env = some e2 := by simp [gC, h, h2]
theorem q_rev {gp : PF} (h1 : f env = some (b, e1)) (h2 : gp e1 = some (some (-1), e2)) (h3 : RDB e2 b (.tup xs)) : fRev f gp env = some (.val (.tup xs.reverse), e2) := by
  unfold RDB at h3
  simp [fRev, h1, h2, h3]
theorem q_Di0 : oDi0 env = some (.dic [], env) := rfl
theorem q_YesF : tYesF env = some (true, env) := rfl
theorem q_R1 {z : Int} (h1 : ARs fa env bs e1) (h2 : RDs e1 bs [.int z]) (h3 : -1000000 ≤ z) (h4 : z ≤ 1000000) : iR1 fa env = some (rngD 0 z.toNat, e1) := iR1_ok h1 h2 h3 h4
theorem q_MulL (h1 : f env = some (b1, e1)) (h2 : g e1 = some (b2, e2)) (hx : RDB e2 b1 x) (hy : RDB e2 b2 y) (h : mulL x y = some d) : oMulL f g env = some (d, e2) := r_MulL h1 h2 hx hy h
theorem q_pN : pN env = some (none, env) := rfl
theorem q_slT {l h : PF} {lo hi : Option Int} (h1 : f env = some (b, e1)) (h2 : l e1 = some (lo, e2)) (h3 : h e2 = some (hi, e3)) (h4 : RDB e3 b (.tup xs)) : fSlc f l h env = some (.val (.tup (cutD xs lo hi)), e3) := r_slcT h1 h2 h3 h4
theorem q_slL {l h : PF} {lo hi : Option Int} (h1 : f env = some (b, e1)) (h2 : l e1 = some (lo, e2)) (h3 : h e2 = some (hi, e3)) (h4 : RDB e3 b (.lst xs)) : fSlc f l h env = some (.val (.lst (cutD xs lo hi)), e3) := r_slcL h1 h2 h3 h4
theorem q_pI {z : Int} (h1 : f env = some (b, e1)) (h2 : RDB e1 b (.int z)) : pI f env = some (some z, e1) := by
  unfold RDB at h2
  simp [pI, h1, h2]
theorem q_En (h1 : f env = some (.val d, e1)) (h2 : itmsS d = some xs) : iEn f env = some (enumL xs, e1) := r_En h1 h2
theorem q_Z (h1 : AV fa env ds e1) (h2 : zipD ds = some xs) : iZ fa env = some (xs, e1) := r_Z h1 (vals_map ds) h2
theorem q_gN0 : gN0 [] env = some env := rfl
theorem q_MtL {op : D → List D → Option (D × D)} {dc d2 : D} (h0 : gt env i = some (.lst xs)) (h1 : AV fa env ds e1) (h3 : gt e1 i = some dc) (h4 : op dc ds = some (d, d2)) (hE : st e1 i (some d2) = e2) : fMt i op fa env = some (.val d, e2) := r_MtL h0 h1 (vals_map ds) h3 h4 hE
theorem q_ap (h : xs.length < 16777216) : appD (.lst xs) [d] = some (.non, .lst (xs ++ [d])) := by
  have : xs.length + 1 ≤ 16777216 := h
  simp [appD, gd, this]
theorem q_Ext {ys : List D} (h0 : gt env i = some (.lst xs)) (h1 : f env = some (b, e1)) (h2 : RDB e1 b (.lst ys)) (h3 : gt e1 i = some (.lst xs)) (hl : xs.length + ys.length ≤ 16777216) (hE : st e1 i (some (.lst (xs ++ ys))) = e2) : fExt i f env = some (.val .non, e2) := r_Ext h0 h1 h2 h3 hl hE
/-! an item stored -/
theorem q_setIx {fk fe : EF} {d0 dk dc d2 : D} (h1 : fe env = some (.val d, e1)) (h0 : gt e1 i = some d0) (h2 : fk e1 = some (b, e2)) (h3 : RDB e2 b dk) (h4 : gt e2 i = some dc) (h5 : setD dc dk d = some d2) (hE : st e2 i (some d2) = e3) : sSetIx i fk fe env = some (.nx e3) := by
  unfold RDB at h3
  simp [sSetIx, h1, h0, h2, h3, h4, h5, hE]
/-! len of a net -/
theorem q_LenO {fs : List (Str × D)} {nn : Int} (h1 : f env = some (.val d, e1)) (hd : d = .obj 0 fs) (h2 : ff [d] = some (.int nn, outs)) (h3 : 0 ≤ nn) (h4 : nn ≤ 9000000000000000000) : fLenO 0 ff f env = some (.val (.int nn), e1) := by
  subst hd
  have h5 : nn < 2 ^ 63 := by omega
  simp [fLenO, h1, h2, h3]
  exact h5
/-! lists -/
theorem len_L : lenD [.lst xs] = some (.int (xs.length : Nat)) := rfl
theorem len_T : lenD [.tup xs] = some (.int (xs.length : Nat)) := rfl
end
end DL

namespace DL
open PySem L2
/-! ### a cell is made: a list that one object's field and the def both hold -/
def CA.at (C : CA) (b : Addr) : CA := ⟨C.cls, fun j => if j = 0 then some b else C.cel j⟩
section
variable {K : PySem.W.Frag} {C : CA} {F H : Hp} {b : Addr}
theorem cel_at {a : Addr} {j : Nat} (h0 : C.cel 0 = none) (h : C.cel j = some a) : (C.at b).cel j = some a := by
  have hj : j ≠ 0 := by rintro rfl; rw [h0] at h; cases h
  show (if j = 0 then some b else C.cel j) = some a
  rw [if_neg hj]; exact h
mutual
theorem Rp.inn (h0 : C.cel 0 = none) {v : V} {d : D} (h : Rp K C F v d) : Rp K (C.at b) F v d := match h with
  | .non => .non
  | .bl b => .bl b
  | .int i => .int i
  | .str x => .str x
  | .lst h1 hl h2 => .lst h1 hl (h2.inn h0)
  | .scr h1 => .scr h1
  | .tup h1 hl h2 => .tup h1 hl (h2.inn h0)
  | .dic h1 h2 => .dic h1 (h2.inn h0)
  | .obj h1 h2 => .obj h1 (h2.inn h0)
  | .cel j h => .cel j (cel_at h0 h)
  | .dtu h1 h2 => .dtu h1 (h2.inn h0)
  | .btu h1 h2 h3 h4 => .btu h1 h2 h3 (h4.inn h0)
theorem RpAll.inn (h0 : C.cel 0 = none) {vs : List V} {ds : List D} (h : RpAll K C F vs ds) : RpAll K (C.at b) F vs ds := match h with
  | .nil => .nil
  | .cons h1 h2 => .cons (h1.inn h0) (h2.inn h0)
theorem RpKV.inn (h0 : C.cel 0 = none) {vs : List (Key × V)} {ds : List (Key × D)} (h : RpKV K C F vs ds) : RpKV K (C.at b) F vs ds := match h with
  | .nil => .nil
  | .cons h1 h2 => .cons (h1.inn h0) (h2.inn h0)
theorem RpFs.inn (h0 : C.cel 0 = none) {vs : List (Str × V)} {ds : List (Str × D)} (h : RpFs K C F vs ds) : RpFs K (C.at b) F vs ds := match h with
  | .nil => .nil
  | .cons h1 h2 => .cons (h1.inn h0) (h2.inn h0)
theorem RpTV.inn (h0 : C.cel 0 = none) {vs : List (List Key × V)} {ds : List (List Key × D)} (h : RpTV K C F vs ds) : RpTV K (C.at b) F vs ds := match h with
  | .nil => .nil
  | .cons h1 h2 => .cons (h1.inn h0) (h2.inn h0)
end
mutual
def noCel : D → Bool
  | .lst xs => noCels xs
  | .tup xs => noCels xs
  | .dic ks => noCelK ks
  | .obj _ fs => noCelF fs
  | .cel _ => false
  | .dtu _ => false
  | .btu xs => noCels xs
  | _ => true
def noCels : List D → Bool
  | [] => true
  | d :: ds => noCel d && noCels ds
def noCelK : List (Key × D) → Bool
  | [] => true
  | (_, d) :: ds => noCel d && noCelK ds
def noCelF : List (Str × D) → Bool
  | [] => true
  | (_, d) :: ds => noCel d && noCelF ds
end
mutual
theorem Rp.off {v : V} {d : D} (h : Rp K (C.at b) F v d) (n : noCel d = true) : Rp K C F v d := match h with
  | .non => .non
  | .bl b => .bl b
  | .int i => .int i
  | .str x => .str x
  | .lst h1 hl h2 => .lst h1 hl (h2.off n)
  | .scr h1 => .scr h1
  | .tup h1 hl h2 => .tup h1 hl (h2.off n)
  | .dic h1 h2 => .dic h1 (h2.off n)
  | .obj h1 h2 => .obj h1 (h2.off n)
  | .cel j h => by cases n
  | .dtu h1 h2 => by cases n
  | .btu h1 h2 h3 h4 => .btu h1 h2 h3 (h4.off n)
theorem RpAll.off {vs : List V} {ds : List D} (h : RpAll K (C.at b) F vs ds) (n : noCels ds = true) : RpAll K C F vs ds := match h with
  | .nil => .nil
  | .cons h1 h2 => by
    obtain ⟨n1, n2⟩ := Bool.and_eq_true_iff.mp (show (noCel _ && noCels _) = true from n)
    exact .cons (h1.off n1) (h2.off n2)
theorem RpKV.off {vs : List (Key × V)} {ds : List (Key × D)} (h : RpKV K (C.at b) F vs ds) (n : noCelK ds = true) : RpKV K C F vs ds := match h with
  | .nil => .nil
  | .cons h1 h2 => by
    obtain ⟨n1, n2⟩ := Bool.and_eq_true_iff.mp (show (noCel _ && noCelK _) = true from n)
    exact .cons (h1.off n1) (h2.off n2)
theorem RpFs.off {vs : List (Str × V)} {ds : List (Str × D)} (h : RpFs K (C.at b) F vs ds) (n : noCelF ds = true) : RpFs K C F vs ds := match h with
  | .nil => .nil
  | .cons h1 h2 => by
    obtain ⟨n1, n2⟩ := Bool.and_eq_true_iff.mp (show (noCel _ && noCelF _) = true from n)
    exact .cons (h1.off n1) (h2.off n2)
end
theorem Own.off {a : Addr} {d : D} (h : Own K (C.at b) F H a d) (n : noCel d = true) : Own K C F H a d := by
  cases d <;> simp only [Own] at h ⊢
  · obtain ⟨vs, q, l, r⟩ := h; exact ⟨vs, q, l, r.off n⟩
  · obtain ⟨vs, q, r⟩ := h; exact ⟨vs, q, r.off n⟩
  · obtain ⟨dx, vs, q, r⟩ := h; exact ⟨dx, vs, q, r.off n⟩
  · cases n
end
/-! ### defs that are handed a cell -/
def spFc (K : PySem.W.Frag) (C : CA) (io : List Nat) (m : Bool) (np : Nat) (f : FF) : Sp := fun vs H Q E => ∃ b, C.cel 0 = some b ∧ vs.length = np ∧ spF K C (io ++ [np]) m (np + 1) f (vs ++ [.ref b]) H Q E
def envC (n np : Nat) (ds : List D) : Env := env0 n (ds.take np) ++ [ds[np]?]
def runFc (c : Cs) (np : Nat) (fb : SF) : FF := fun ds => (fb (envC c.n np ds)).bind fun fl => endF (c.io ++ [c.n]) fl
theorem gt_app {l r : Env} {i : Nat} (h : i < l.length) : gt (l ++ r) i = gt l i := by
  induction l generalizing i with
  | nil => simp at h
  | cons x xs ih => cases i with
    | zero => rfl
    | succ i => exact ih (by simpa using h)
theorem gt_app_len {l : Env} {y : Option D} : gt (l ++ [y]) l.length = y := by
  induction l with
  | nil => rfl
  | cons x xs ih => exact ih
theorem x_one {c : Cs} (h1 : c.ci = [0]) (h2 : c.cn = []) : c.x = ⟨c.n + 1, c.O ++ [c.n], c.io ++ [c.n], [], []⟩ := by
  cases c
  cases h1
  cases h2
  simp [Cs.x, Cs.cs, Cs.ixs, Cs.ixi, List.range_succ]
theorem cells_one {C : CA} {c : Cs} {b : Addr} (h1 : c.ci = [0]) (h2 : c.cn = []) (hb : C.cel 0 = some b) : cells C c = [some (.ref b)] := by
  unfold cells Cs.cs
  rw [h1, h2]
  simp [hb]
section
variable {P : Program} {w : World} {K : PySem.W.Frag} {mg : Str → Option Value} {base : Heap} {x qual : Str} {params : Arguments} {body : List Stmt} {scope : Scope} {dvs : List V} {kws : List (Str × V)} {fa : Addr} {fd : FuncData}
theorem fun_okC {N ps : List Str} {k : Nat} {C : CA} {m : Bool} (c : Cs) (Fn : FunD K x qual params body scope dvs kws fa fd) (Sc : FnScope N ps scope) (fb : SF) (hn : c.n = N.length) (hio : ∀ i ∈ c.io, i < ps.length ∧ i ∈ c.O) (hO : ∀ i ∈ c.O, i < ps.length → i ∈ c.io) (hnx : m = true → ∀ env env', fb env ≠ some (.nx env'))
    (hbody : ∀ (cdv : Value) (A : Around) (outer : List PySem.Env) (s : Shared) (H : Hp) (E : XK), Room k (A.deeper (PyProof.Rows.envOfC qual scope s.heap.objs.size fa cdv)) → DSs m (cxOf CX0 P w K mg base N qual scope fa cdv A outer s H E).nox C c body fb)
    (hci : c.ci = [0] := by rfl) (hcn : c.cn = [] := by rfl) (hOn : ∀ i ∈ c.O, i < c.n := by decide) : FnOk P w K mg base CX0 (k + 1) fa fd ps (spFc K C c.io m ps.length (runFc c ps.length fb)) := by
  refine Fn.ok Sc (fun vs H Q E ⟨b, _, hl, _⟩ => hl) fun cdv A outer s H vs Q E hr ⟨b, hb, hl, F, ds, r, outs, sb, hl1, ar, e, kk⟩ => ?_
  refine ⟨_, PSs.nox (hbody cdv A outer s H E hr), ?_⟩
  obtain ⟨fl, e1, e2⟩ := Option.bind_eq_some_iff.mp e
  have hps : ps.length ≤ N.length := by have := congrArg List.length Sc.pre; rw [List.length_take] at this; omega
  have hdl : ds.length = ps.length + 1 := by rw [← ar.len]; exact hl1
  have hsl : (L2.start N vs).length = c.n := by
    unfold L2.start
    rw [List.length_append, List.length_map, List.length_replicate]
    omega
  have el0 : (env0 c.n (ds.take ps.length)).length = c.n := by
    unfold env0
    rw [List.length_append, List.length_map, List.length_replicate, List.length_take]
    omega
  have ec : cells C c = [some (V.ref b)] := cells_one hci hcn hb
  have ex : c.x = ⟨c.n + 1, c.O ++ [c.n], c.io ++ [c.n], [], []⟩ := x_one hci hcn
  -- which argument a slot holds
  have arg : ∀ i d, gt (envC c.n ps.length ds) i = some d → ∃ q, (i = q ∧ i < ps.length ∨ i = c.n ∧ q = ps.length) ∧ ds[q]? = some d := fun i d h => by
    unfold envC at h
    rcases Nat.lt_trichotomy i c.n with lt | eq | g
    · rw [gt_app (by rw [el0]; exact lt)] at h
      have hd := gt_env0.mp h
      have lt2 := (List.getElem?_eq_some_iff.mp hd).1
      rw [List.length_take] at lt2
      rw [List.getElem?_take_of_lt (by omega)] at hd
      exact ⟨i, .inl ⟨rfl, by omega⟩, hd⟩
    · have h2 := gt_app_len (l := env0 c.n (ds.take ps.length)) (y := ds[ps.length]?)
      rw [el0, ← eq] at h2
      rw [← eq, h2] at h
      exact ⟨ps.length, .inr ⟨eq, rfl⟩, h⟩
    · have := gt_lt h
      rw [List.length_append, el0] at this
      simp at this
      omega
  have hst : ∀ (i q : Nat) v, (i = q ∧ i < ps.length ∨ i = c.n ∧ q = ps.length) → (vs ++ [V.ref b])[q]? = some v → (L2.start N vs ++ [some (V.ref b)])[i]? = some (some v) := fun i q v h hv => by
    rcases h with ⟨rfl, lt⟩ | ⟨rfl, rfl⟩
    · rw [List.getElem?_append_left (by omega)] at hv
      rw [List.getElem?_append_left (by omega)]
      unfold L2.start
      rw [List.getElem?_append_left (by rw [List.length_map]; omega), List.getElem?_map, hv]
      rfl
    · rw [← hl, List.getElem?_append_right (Nat.le_refl _)] at hv
      rw [← hsl, List.getElem?_append_right (Nat.le_refl _)]
      simp only [Nat.sub_self] at hv ⊢
      cases hv
      rfl
  have inIo : ∀ i q, (i = q ∧ i < ps.length ∨ i = c.n ∧ q = ps.length) → i ∈ c.O ++ [c.n] → q ∈ c.io ++ [ps.length] := fun i q h hi => by
    rcases h with ⟨rfl, lt⟩ | ⟨rfl, rfl⟩
    · rcases List.mem_append.mp hi with h | h
      · exact List.mem_append_left _ (hO i h lt)
      · have : i = c.n := by simpa using h
        omega
    · exact List.mem_append_right _ (List.mem_cons_self ..)
  have fromIo : ∀ k i', (c.io ++ [ps.length])[k]? = some i' → ∃ i, (c.io ++ [c.n])[k]? = some i ∧ i ∈ c.O ++ [c.n] ∧ (i = i' ∧ i < ps.length ∨ i = c.n ∧ i' = ps.length) := fun k i' h => by
    by_cases lt : k < c.io.length
    · rw [List.getElem?_append_left lt] at h
      have := hio i' (List.mem_of_getElem? h)
      exact ⟨i', by rw [List.getElem?_append_left lt]; exact h, List.mem_append_left _ this.2, .inl ⟨rfl, this.1⟩⟩
    · rw [List.getElem?_append_right (by omega)] at h
      cases hk : k - c.io.length with
      | zero => rw [hk] at h; simp at h; exact ⟨c.n, by rw [List.getElem?_append_right (by omega), hk]; rfl, List.mem_append_right _ (List.mem_cons_self ..), .inr ⟨rfl, h.symm⟩⟩
      | succ j => rw [hk] at h; simp at h
  have toIo : ∀ (k i : Nat), (c.io ++ [c.n])[k]? = some i → ∃ i', (c.io ++ [ps.length])[k]? = some i' ∧ i ∈ c.O ++ [c.n] ∧ (i = i' ∧ i < ps.length ∨ i = c.n ∧ i' = ps.length) := fun k i h => by
    by_cases lt : k < c.io.length
    · rw [List.getElem?_append_left lt] at h
      have := hio i (List.mem_of_getElem? h)
      exact ⟨i, by rw [List.getElem?_append_left lt]; exact h, List.mem_append_left _ this.2, .inl ⟨rfl, this.1⟩⟩
    · rw [List.getElem?_append_right (by omega)] at h
      cases hk : k - c.io.length with
      | zero => rw [hk] at h; simp at h; subst h; exact ⟨ps.length, by rw [List.getElem?_append_right (by omega), hk]; rfl, List.mem_append_right _ (List.mem_cons_self ..), .inr ⟨rfl, rfl⟩⟩
      | succ j => rw [hk] at h; simp at h
  have back : ∀ (i q : Nat) d, (i = q ∧ i < ps.length ∨ i = c.n ∧ q = ps.length) → ds[q]? = some d → gt (envC c.n ps.length ds) i = some d := fun i q d h hd => by
    unfold envC
    rcases h with ⟨rfl, lt⟩ | ⟨rfl, rfl⟩
    · rw [gt_app (by rw [el0]; omega)]
      exact gt_env0.mpr (by rw [List.getElem?_take_of_lt (by omega)]; exact hd)
    · have := gt_app_len (l := env0 c.n (ds.take ps.length)) (y := ds[ps.length]?)
      rw [el0] at this
      rw [this]; exact hd
  have S : SR K C c ⟨F, H, ioAs (c.io ++ [ps.length]) (vs ++ [.ref b]), []⟩ F (envC c.n ps.length ds) (L2.start N vs) H := by
    refine ⟨?_, hsl, hOn, fun i hi => (hio i hi).2⟩
    rw [ex, ec]
    refine ⟨sb, Same.refl _, fun b o h => .inl h, fun b o h _ => h, ?_, ?_, fun i d h hi => ?_, fun i d h hi => ?_, fun i j di dj a hi hj hij ei ej si sj => ?_, by simp [ioAs], fun a d h => (nomatch h), fun a d i e h => (nomatch h), List.nodup_nil, fun k i h => ?_⟩
    · unfold envC
      rw [List.length_append, List.length_append, el0, hsl]; rfl
    · unfold envC
      rw [List.length_append, el0]; rfl
    · obtain ⟨q, hq, hd⟩ := arg i d h
      have lt : q < (vs ++ [V.ref b]).length := by rw [hl1, ← hdl]; exact (List.getElem?_eq_some_iff.mp hd).1
      have hv := List.getElem?_eq_getElem lt
      refine ⟨_, hst i q _ hq hv, ar.pur q _ d hv hd fun hm => hi ?_⟩
      rcases hq with ⟨rfl, lq⟩ | ⟨rfl, rfl⟩
      · rcases List.mem_append.mp hm with h1 | h1
        · exact List.mem_append_left _ (hio i h1).2
        · have : i = ps.length := by simpa using h1
          omega
      · exact List.mem_append_right _ (List.mem_cons_self ..)
    · obtain ⟨q, hq, hd⟩ := arg i d h
      have hm := inIo i q hq hi
      obtain ⟨a, d', h1, h2, h3, h4⟩ := ar.own q hm
      rw [hd] at h2; cases h2
      obtain ⟨kq, hk⟩ := List.getElem?_of_mem hm
      refine ⟨a, hst i q _ hq h1, h3, h4, .inr ⟨?_, List.mem_of_getElem? (ioAs_get hk h1)⟩⟩
      rcases hq with ⟨rfl, lq⟩ | ⟨rfl, rfl⟩
      · rcases List.mem_append.mp hm with h1 | h1
        · exact List.mem_append_left _ h1
        · have : i = ps.length := by simpa using h1
          omega
      · exact List.mem_append_right _ (List.mem_cons_self ..)
    · obtain ⟨q1, hq1, hd1⟩ := arg i di ei
      obtain ⟨q2, hq2, hd2⟩ := arg j dj ej
      obtain ⟨a1, _, w1, _⟩ := ar.own q1 (inIo i q1 hq1 hi)
      obtain ⟨a2, _, w2, _⟩ := ar.own q2 (inIo j q2 hq2 hj)
      have g1 := hst i q1 _ hq1 w1
      have g2 := hst j q2 _ hq2 w2
      rw [si] at g1; cases g1
      rw [sj] at g2; cases g2
      refine ar.dist q1 q2 a (inIo i q1 hq1 hi) (inIo j q2 hq2 hj) (fun hh => ?_) w1 w2
      rcases hq1 with ⟨h1, h2⟩ | ⟨h1, h2⟩ <;> rcases hq2 with ⟨h3, h4⟩ | ⟨h3, h4⟩ <;> omega
    · obtain ⟨i', hk, hi, hq⟩ := toIo k i h
      obtain ⟨a, d, h1, h2, h3, h4⟩ := ar.own i' (List.mem_of_getElem? hk)
      exact ⟨hi, a, d, ioAs_get hk h1, hst i i' _ hq h1, back i i' d hq h2⟩
  have fin : ∀ v F' H' env', RetOk m K C c ⟨F, H, ioAs (c.io ++ [ps.length]) (vs ++ [.ref b]), []⟩ F' env' H' v r → outsOf env' (c.io ++ [c.n]) = some outs → Q v H' := fun v F' H' env' R ho => by
    refine kk v F' H' ⟨R.f0, R.sub, R.new, fun b o h hb => R.keep b o h fun hm => ?_, fun k i' a hk ha => ?_, ?_⟩
    · obtain ⟨i, hi, q⟩ := List.mem_map.mp hm
      obtain ⟨a, _, h1, _⟩ := ar.own i hi
      rw [h1] at q
      have q' : a = b := q
      subst q'
      exact hb i hi h1
    · obtain ⟨i, hki, _, _⟩ := fromIo k i' hk
      obtain ⟨a', d, h1, h2, h3, h4⟩ := R.ios k i (by rw [ex]; exact hki)
      have h1' := ioAs_get hk ha
      have h1'' : (ioAs (c.io ++ [ps.length]) (vs ++ [.ref b]))[k]? = some a' := h1
      rw [h1'] at h1''; cases h1''
      obtain ⟨d', q1, q2⟩ := outs_get ho k i hki
      rw [h2] at q2; cases q2
      exact ⟨d, q1, h3, h4⟩
    · have := R.val
      cases m with
      | false => exact this
      | true =>
        obtain ⟨a, h1, h2, h3, h4⟩ := this
        exact ⟨a, h1, h3, h2, h4⟩
  refine ⟨_, F, _, fl, S, rfl, e1, ?_⟩
  cases fl with
  | nx env' =>
    obtain ⟨os, h1, h2⟩ := Option.bind_eq_some_iff.mp e2
    cases h2
    intro F' σ' H' s' S'
    cases m with
    | true => exact absurd e1 (hnx rfl _ _)
    | false => exact fin .non F' H' env' (S'.ret (m := false) .non) h1
  | rt d env' =>
    obtain ⟨os, h1, h2⟩ := Option.bind_eq_some_iff.mp e2
    cases h2
    intro v F' H' s' R
    exact fin v F' H' env' R h1
  | bk _ => cases e2
  | ct _ => cases e2
end
end DL

namespace DL
open PySem L2
section
variable {m : Bool} {X : Cx} {C : CA} {c : Cs} {e a b o : Expr} {es : List Expr} {fa : AF} {f g fo : EF} {pos p apos cpos : Pos} {x : Str} {k np : Nat} {fad : Addr} {fd : FuncData} {ps : List Str} {dv : List V} {ds0 : List Value} {ff : FF}
theorem cell_mem (h1 : c.ci = [0]) (h2 : c.cn = []) : c.n ∈ c.x.O := by
  rw [x_one h1 h2]
  exact List.mem_append_right _ (List.mem_cons_self ..)
theorem SR.cellA {K : PySem.W.Frag} {z : Zn} {F H : Hp} {env : Env} {σ : St} (S : SR K C c z F env σ H) (h1 : c.ci = [0]) (h2 : c.cn = []) {a : Addr} : (σ ++ cells C c)[c.n]? = some (some (.ref a)) ↔ C.cel 0 = some a := by
  rw [← S.ln, List.getElem?_append_right (Nat.le_refl _), Nat.sub_self]
  unfold cells Cs.cs
  rw [h1, h2]
  constructor
  · intro h
    cases q : C.cel 0 with
    | none => simp [q] at h
    | some b => simpa [q] using h
  · intro h
    simp [h]
/-! ### the cell by its object's attribute -/
def fCel (n kk : Nat) (nm : Str) (f : EF) : EF := fun env => (f env).bind fun p => (rdB p.2 p.1).bind fun x => (attrD kk nm x).bind fun d => match d with
  | .cel 0 => some (.slot n, p.2)
  | _ => none
theorem de_cel (kk : Nat) {nm : Str} (he : DE X C c e f) (cl : Cls X.K (C kk)) (na : NoAttr X.K (C kk) nm) (h1 : c.ci = [0] := by rfl) (h2 : c.cn = [] := by rfl) (hb : attributeBase e nm X.env (eval e X.env) = eval e X.env := by rfl) : DE X C c (.Attribute e nm pos) (fCel c.n kk nm f) := by
  refine PE.imp (pe_fld he hb) fun σ H Q ⟨z, F, env, b, env', S, e, k⟩ => ?_
  simp only [fCel, Option.bind_eq_some_iff] at e
  obtain ⟨⟨b1, e1⟩, q1, x, q2, d, q3, e⟩ := e
  split at e
  case h_2 => cases e
  cases e
  refine ⟨z, F, env, b1, e1, S, q1, fun v F1 H1 s1 S1 r1 => ?_⟩
  cases x <;> simp only [attrD] at q3 <;> try (cases q3; done)
  split at q3
  case isFalse => cases q3
  next hk =>
  subst hk
  obtain ⟨a, dx, vs, rfl, w1, w2⟩ := (r1.rb S1 q2).obj S1.sub
  obtain ⟨u, w3, w4⟩ := w2.look q3
  cases w4 with
  | cel j hc => exact ⟨a, _, dx, vs, _, rfl, w1, cl, na, w3, k _ F1 H1 s1 S1 ⟨cell_mem h1 h2, (S1.cellA h1 h2).mpr hc⟩⟩
/-! ### o[k] = e, o an expression that gives a list of one's own -/
theorem SR.writeX {K : PySem.W.Frag} {z : Zn} {F H : Hp} {env : Env} {σ : St} (S : SR K C c z F env σ H) {i : Nat} {d d' : D} {a : Addr} {o : HO} (hi : i ∈ c.x.O) (hd : gt env i = some d) (ha : (σ ++ cells C c)[i]? = some (some (.ref a))) (ho : Own K C F (upd H a o) a d') :
    SR K C c z F (st env i (some d')) σ (upd H a o) := ⟨S.b.write hi hd ha ho, S.ln, S.hO, S.hio⟩
def sSetIxE (fo fk fe : EF) : SF := fun env => (fe env).bind fun p => match p.1 with
  | .val d => (fo p.2).bind fun o => (match o.1 with
    | .slot i => (fk o.2).bind fun q => (rdB q.2 q.1).bind fun k => (gt q.2 i).bind fun dc => (match dc with
      | .lst _ => (setD dc k d).bind fun dc' => some (.nx (st q.2 i (some dc')))
      | _ => none)
    | .val _ => none)
  | .slot _ => none
theorem ds_setIxE {k : Expr} {pos' : Pos} (ho : DE X C c o fo) (hk : DE X C c k g) (he : DE X C c e f)
    (hs1 : swapsWithSole [.Subscript o k pos'] e pos.line X.env = pure false := by rfl) (hw : swappedStores [.Subscript o k pos'] e X.env = pure none := by rfl) (h1 : (assignEach [.Subscript o k pos'] X.env).map (·.2) = [assign (.Subscript o k pos') X.env] := by rfl)
    (has : ∀ v, assign (.Subscript o k pos') X.env v = (do let ov ← holding [v] (eval o X.env); let iv ← holding [v, ov] (eval k X.env); standAt pos'; holding [v, ov, iv] (setItem ov iv v); release [v, ov, iv] []) := by intro _; rfl) : DS m X C c (.Assign [.Subscript o k pos'] e pos) (sSetIxE fo g f) := by
  refine PS.imp (ps_asg he (pg_sub ho hk set_list has) hs1 hw h1) fun Dn σ H ⟨z, F, env, fl, S, hg, e, kk⟩ => ?_
  obtain ⟨⟨b, e1⟩, h1, e⟩ := Option.bind_eq_some_iff.mp e
  cases b with
  | slot _ => cases e
  | val d =>
    obtain ⟨⟨b2, e2⟩, h2, e⟩ := Option.bind_eq_some_iff.mp e
    cases b2 with
    | val _ => cases e
    | slot i =>
      simp only [Option.bind_eq_some_iff] at e
      obtain ⟨⟨b3, e3⟩, h3, dk, h4, dc, h5, e⟩ := e
      split at e
      case h_2 => cases e
      next ds =>
      obtain ⟨dc', h6, e⟩ := Option.bind_eq_some_iff.mp e
      cases e
      refine ⟨z, F, env, _, e1, S, h1, fun v F1 H1 s1 S1 r1 => ⟨z, F1, e1, _, e2, S1, h2, fun ov F2 H2 s2 S2 r2 => ⟨z, F2, e2, b3, e3, S2, h3, fun w F3 H3 s3 S3 r3 => ?_⟩⟩⟩
      obtain ⟨hO, hv⟩ := r2
      obtain ⟨a', ha', _, ow, _⟩ := S3.b.own i _ h5 hO
      rw [hv] at ha'; cases ha'
      cases dk <;> simp only [setD] at h6 <;> try (cases h6; done)
      obtain ⟨j, q3, q4⟩ := Option.bind_eq_some_iff.mp h6
      cases q4
      obtain ⟨xs, q1, q5, q2⟩ := id ow
      exact ⟨_, xs, _, j, rfl, (r3.rb S3 h4).int, q1, by rw [q2.length]; exact q3, kk F3 σ _ (s1.trans (s2.trans s3)) (S3.writeX hO h5 hv ⟨_, upd_same, by rw [List.length_set]; exact q5, q2.set (Rp.mono (s2.trans s3) r1) j⟩)⟩
/-! ### o.m(..), o data with the cell -/
def fMeC (kk : Nat) (nm : Str) (np n : Nat) (ff : FF) (fo : EF) (fa : AF) : EF := fun env => (fo env).bind fun p => match p.1 with
  | .val (.obj k fs) => if k = kk ∧ fs.lookup nm = none then (fa p.2).bind fun q => (vals q.1).bind fun ds => (gt q.2 n).bind fun dc => if (D.obj k fs :: ds).length = np then (ff (.obj k fs :: ds ++ [dc])).bind fun r => (match r.2 with
    | [o] => some (.val r.1, st q.2 n (some o))
    | _ => none) else none else none
  | _ => none
def oMeC (kk : Nat) (nm : Str) (np n : Nat) (ff : FF) (fo : EF) (fa : AF) : OF := fun env => (fo env).bind fun p => match p.1 with
  | .val (.obj k fs) => if k = kk ∧ fs.lookup nm = none then (fa p.2).bind fun q => (vals q.1).bind fun ds => (gt q.2 n).bind fun dc => if (D.obj k fs :: ds).length = np then (ff (.obj k fs :: ds ++ [dc])).bind fun r => (match r.2 with
    | [o] => some (r.1, st q.2 n (some o))
    | _ => none) else none else none
  | _ => none
theorem cell_call {z : Zn} {F H : Hp} {env : Env} {σ : St} {vs : List V} {ds : List D} {dc r o : D} {Q : VK} (h1 : c.ci = [0]) (h2 : c.cn = []) (S : SR X.K C c z F env σ H) (rp : RpAll X.K C F vs ds) (hc : gt env c.n = some dc) (hl : ds.length = np) (e : ff (ds ++ [dc]) = some (r, [o]))
    (k : ∀ v F' H', Same F F' → SR X.K C c z F' (st env c.n (some o)) σ H' → (if m = true then ∃ a, v = .ref a ∧ H a = none ∧ F' a = none ∧ Own X.K C F' H' a r else Rp X.K C F' v r) → Q v H') : spFc X.K C [] m np ff vs H Q E0 := by
  obtain ⟨a, ha, fa1, ow, za⟩ := S.b.own c.n dc hc (cell_mem h1 h2)
  have hl' : vs.length = np := by rw [rp.length]; exact hl
  refine ⟨a, (S.cellA h1 h2).mp ha, hl', F, ds ++ [dc], r, [o], S.sub, by rw [List.length_append, hl']; rfl, ⟨by simp [rp.length], fun i v d w1 w2 hi => ?_, fun i hi => ?_, fun i j a hi hj hij => ?_⟩, e, fun v F' H' dn => ?_⟩
  · have hne : i ≠ np := fun q => hi (by rw [q]; exact List.mem_cons_self ..)
    have lt : i < np := by
      have := (List.getElem?_eq_some_iff.mp w1).1
      rw [List.length_append, hl'] at this
      simp at this
      omega
    rw [List.getElem?_append_left (by omega)] at w1 w2
    obtain ⟨d', q1, q2⟩ := rp.get w1
    rw [w2] at q1; cases q1
    exact q2
  · have : i = np := by simpa using hi
    subst this
    refine ⟨a, dc, ?_, ?_, fa1, ow⟩
    · rw [← hl', List.getElem?_append_right (Nat.le_refl _), Nat.sub_self]; rfl
    · rw [← hl, List.getElem?_append_right (Nat.le_refl _), Nat.sub_self]; rfl
  · have w1 : i = np := by simpa using hi
    have w2 : j = np := by simpa using hj
    exact absurd (w1.trans w2.symm) hij
  · have hva : (vs ++ [V.ref a])[np]? = some (.ref a) := by rw [← hl', List.getElem?_append_right (Nat.le_refl _), Nat.sub_self]; rfl
    obtain ⟨d', q1, q2, q3⟩ := dn.ios 0 np a rfl hva
    have q1' : o = d' := Option.some.inj q1
    subst q1'
    refine k v F' H' dn.sub (S.calledX (cell_mem h1 h2) hc ha dn.sub dn.inn dn.new (fun b u hu hne => dn.keep b u hu fun i hi hb => ?_) q2 q3) dn.val
    have hi0 : i = np := by simpa using hi
    subst hi0
    rw [hva] at hb
    cases hb
    exact hne rfl
/-- what the call of a method hands on -/
theorem meC_core {z : Zn} {F : Hp} {env env' : Env} {σ : St} {H : Hp} {Q : VK} {kk : Nat} {nm : Str} {d : D} {t : TA} (h1 : c.ci = [0]) (h2 : c.cn = []) (ht : ∀ σ H Q, tAr X.K C c fa σ H Q → t σ H Q) (S : SR X.K C c z F env σ H) (q0 : oMeC kk nm np c.n ff fo fa env = some (d, env'))
    (k : ∀ v F1 H1 e1 F' H', Same F F' → SR X.K C c z F1 e1 σ H1 → (∃ x, env' = st e1 c.n x) ∧ (∃ d0, gt e1 c.n = some d0) → SR X.K C c z F' env' σ H' → (if m = true then ∃ a, v = .ref a ∧ H1 a = none ∧ F' a = none ∧ Own X.K C F' H' a d else Rp X.K C F' v d) → Q v H') :
    tMeth (C kk) nm (spFc X.K C [] m np ff) [] E0 (tE X.K C c fo) t σ H Q := by
  obtain ⟨⟨b, e1⟩, q1, q2⟩ := Option.bind_eq_some_iff.mp q0
  clear q0
  cases b with
  | slot _ => cases q2
  | val dx =>
    cases dx <;> simp only at q2 <;> try (cases q2; done)
    split at q2
    case isFalse => cases q2
    next hk =>
    obtain ⟨hk, hl⟩ := hk
    subst hk
    obtain ⟨⟨bs, e2⟩, w2, q3⟩ := Option.bind_eq_some_iff.mp q2
    obtain ⟨ds, w3, q4⟩ := Option.bind_eq_some_iff.mp q3
    obtain ⟨dc, w4, q5⟩ := Option.bind_eq_some_iff.mp q4
    clear q2 q3 q4
    split at q5
    case isFalse => cases q5
    next hnp =>
    obtain ⟨⟨r, os⟩, w5, q6⟩ := Option.bind_eq_some_iff.mp q5
    dsimp only at q6
    split at q6
    case h_2 => cases q6
    next o =>
    cases q6
    refine ⟨z, F, env, _, e1, S, q1, fun v F1 H1 s1 S1 r1 => ?_⟩
    cases r1 with
    | obj u1 u2 =>
      refine ⟨_, _, _, rfl, S1.sub _ _ u1, u2.look_none hl, ht _ _ _ ⟨z, F1, e1, bs, e2, S1, w2, fun vs F2 H2 s2 S2 r2 => ?_⟩⟩
      have rp : RpAll X.K C F2 (.ref _ :: vs) (.obj _ _ :: ds) := .cons (Rp.mono s2 (.obj u1 u2)) (vals_rp r2 w3)
      show spFc X.K C [] m np ff (V.ref _ :: (vs ++ [])) H2 Q E0
      rw [List.append_nil]
      exact cell_call (m := m) h1 h2 S2 rp w4 hnp w5 fun v F' H' s' S' rv => k v F2 H2 e2 F' H' (s1.trans (s2.trans s')) S2 ⟨⟨_, rfl⟩, _, w4⟩ S' rv
theorem fMeC_o {kk : Nat} {nm : Str} {n : Nat} {env env' : Env} {b : B} (h : fMeC kk nm np n ff fo fa env = some (b, env')) : ∃ d, b = .val d ∧ oMeC kk nm np n ff fo fa env = some (d, env') := by
  unfold fMeC at h
  unfold oMeC
  obtain ⟨⟨b1, e1⟩, q1, h⟩ := Option.bind_eq_some_iff.mp h
  rw [q1]
  cases b1 with
  | slot _ => cases h
  | val dx =>
    cases dx <;> simp only at h <;> try (cases h; done)
    split at h
    case isFalse => cases h
    next hk =>
    obtain ⟨⟨bs, e2⟩, w2, h⟩ := Option.bind_eq_some_iff.mp h
    obtain ⟨ds, w3, h⟩ := Option.bind_eq_some_iff.mp h
    obtain ⟨dc, w4, h⟩ := Option.bind_eq_some_iff.mp h
    split at h
    case isFalse => cases h
    next hnp =>
    obtain ⟨⟨r, os⟩, w5, h⟩ := Option.bind_eq_some_iff.mp h
    dsimp only at h
    split at h
    case h_2 => cases h
    cases h
    refine ⟨r, rfl, ?_⟩
    simp only [Option.bind_some, if_pos hk, w2, w3, w4, if_pos hnp, w5]
theorem tNil_of : ∀ σ H Q, tAr X.K C c aN σ H Q → tNil σ H Q := fun σ H Q ⟨z, F, env, b, env', S, e, k⟩ => by
  cases e
  exact k [] F H (Same.refl _) S .nil
/-- a new object's address is nobody's -/
theorem nobody {z : Zn} {F1 F' H1 H' : Hp} {e1 : Env} {n : Nat} {y : Option D} {σ : St} {a : Addr} (S1 : SR X.K C c z F1 e1 σ H1) (S' : SR X.K C c z F' (st e1 n y) σ H') (hn : H1 a = none) (hy : ∃ d0, gt e1 n = some d0) : Apt C c (st e1 n y) σ a ∧ ∀ e, (a, e) ∉ z.gh := by
  refine ⟨fun i d hi ei hs => ?_, fun d hgd => ?_⟩
  · have old : ∃ d', gt e1 i = some d' := by
      by_cases hij : n = i
      · subst hij; exact hy
      · rw [gt_st_ne hij] at ei; exact ⟨d, ei⟩
    obtain ⟨d', hd'⟩ := old
    obtain ⟨a', q1, _, q3, _⟩ := S1.b.own i d' hd' hi
    rw [hs] at q1; cases q1
    obtain ⟨u, hu⟩ := q3.some
    rw [hn] at hu; cases hu
  · obtain ⟨_, q3, _⟩ := S1.gho a d hgd
    obtain ⟨u, hu⟩ := q3.some
    rw [hn] at hu; cases hu
theorem de_meC (kk : Nat) {nm : Str} {pl : Sem Bool} (ho : DE X C c o fo) (cl : Cls X.K (C kk)) (hmt : Meth X.K (C kk) nm fad) (Fk : FnOk X.prog X.w X.K X.mg X.base CX0 k fad fd ps (spFc X.K C [] false np ff)) (hr : Room k X.A) (hb : Binds X.K fd ps []) (ha : DA X C c (e :: es) fa) (h1 : c.ci = [0] := by rfl) (h2 : c.cn = [] := by rfl)
    (hst : starEach (e :: es) X.env = (false, eval e X.env) :: starEach es X.env := by rfl) (hpl : (backTo pos (starEach es X.env)).any (·.1) = false := by rfl)
    (ht : eval (.Call (.Attribute o nm apos) (e :: es) [] pos) X.env = (do
      let ov ← eval o X.env
      standAt apos.atName
      let (f, first) ← holding [ov] (getMethod ov nm pl)
      callWith pos f first (backTo pos (starEach (e :: es) X.env)) (backToKw pos (keywordEach [] X.env))) := by rfl) :
    DE X C c (.Call (.Attribute o nm apos) (e :: es) [] pos) (fMeC kk nm np c.n ff fo fa) :=
  PE.imp (pe_meth ho cl hmt Fk hr hb .nil pass0 ha hst hpl ht) fun σ H Q ⟨z, F, env, b, env', S, e, kk⟩ => by
    obtain ⟨d, rfl, e0⟩ := fMeC_o e
    exact meC_core (m := false) h1 h2 (fun _ _ _ h => h) S e0 fun v F1 H1 e1 F' H' s' _ _ S' rv => kk v F' H' s' S' rv
theorem do_meC (kk : Nat) {nm : Str} {pl : Sem Bool} (ho : DE X C c o fo) (cl : Cls X.K (C kk)) (hmt : Meth X.K (C kk) nm fad) (Fk : FnOk X.prog X.w X.K X.mg X.base CX0 k fad fd ps (spFc X.K C [] true np ff)) (hr : Room k X.A) (hb : Binds X.K fd ps []) (ha : DA X C c (e :: es) fa) (h1 : c.ci = [0] := by rfl) (h2 : c.cn = [] := by rfl)
    (hst : starEach (e :: es) X.env = (false, eval e X.env) :: starEach es X.env := by rfl) (hpl : (backTo pos (starEach es X.env)).any (·.1) = false := by rfl)
    (ht : eval (.Call (.Attribute o nm apos) (e :: es) [] pos) X.env = (do
      let ov ← eval o X.env
      standAt apos.atName
      let (f, first) ← holding [ov] (getMethod ov nm pl)
      callWith pos f first (backTo pos (starEach (e :: es) X.env)) (backToKw pos (keywordEach [] X.env))) := by rfl) :
    DO X C c (.Call (.Attribute o nm apos) (e :: es) [] pos) (oMeC kk nm np c.n ff fo fa) :=
  PE.imp (pe_meth ho cl hmt Fk hr hb .nil pass0 ha hst hpl ht) fun σ H Q ⟨z, F, env, b, env', S, e, kk⟩ => by
    exact meC_core (m := true) h1 h2 (fun _ _ _ h => h) S e fun v F1 H1 e1 F' H' s' S1 w S' rv => by
      obtain ⟨⟨x, rfl⟩, d0, hd0⟩ := w
      obtain ⟨a, rfl, hn, fa', ow⟩ := rv
      obtain ⟨ap, ng⟩ := nobody S1 S' hn ⟨d0, hd0⟩
      exact kk a F' H' s' S' fa' (S1.free0 hn) ow ap ng
theorem de_meC0 (kk : Nat) {nm : Str} {pl : Sem Bool} (ho : DE X C c o fo) (cl : Cls X.K (C kk)) (hmt : Meth X.K (C kk) nm fad) (Fk : FnOk X.prog X.w X.K X.mg X.base CX0 k fad fd ps (spFc X.K C [] false np ff)) (hr : Room k X.A) (hb : Binds X.K fd ps []) (h1 : c.ci = [0] := by rfl) (h2 : c.cn = [] := by rfl)
    (ht : eval (.Call (.Attribute o nm apos) [] [] pos) X.env = (do
      let ov ← eval o X.env
      standAt apos.atName
      let (f, first) ← holding [ov] (getMethod ov nm pl)
      callWith pos f first (backTo pos (starEach [] X.env)) (backToKw pos (keywordEach [] X.env))) := by rfl) :
    DE X C c (.Call (.Attribute o nm apos) [] [] pos) (fMeC kk nm np c.n ff fo aN) :=
  PE.imp (pe_meth0 ho cl hmt Fk hr hb .nil pass0 ht) fun σ H Q ⟨z, F, env, b, env', S, e, kk⟩ => by
    obtain ⟨d, rfl, e0⟩ := fMeC_o e
    exact meC_core (m := false) h1 h2 tNil_of S e0 fun v F1 H1 e1 F' H' s' _ _ S' rv => kk v F' H' s' S' rv
theorem do_meC0 (kk : Nat) {nm : Str} {pl : Sem Bool} (ho : DE X C c o fo) (cl : Cls X.K (C kk)) (hmt : Meth X.K (C kk) nm fad) (Fk : FnOk X.prog X.w X.K X.mg X.base CX0 k fad fd ps (spFc X.K C [] true np ff)) (hr : Room k X.A) (hb : Binds X.K fd ps []) (h1 : c.ci = [0] := by rfl) (h2 : c.cn = [] := by rfl)
    (ht : eval (.Call (.Attribute o nm apos) [] [] pos) X.env = (do
      let ov ← eval o X.env
      standAt apos.atName
      let (f, first) ← holding [ov] (getMethod ov nm pl)
      callWith pos f first (backTo pos (starEach [] X.env)) (backToKw pos (keywordEach [] X.env))) := by rfl) :
    DO X C c (.Call (.Attribute o nm apos) [] [] pos) (oMeC kk nm np c.n ff fo aN) :=
  PE.imp (pe_meth0 ho cl hmt Fk hr hb .nil pass0 ht) fun σ H Q ⟨z, F, env, b, env', S, e, kk⟩ => by
    exact meC_core (m := true) h1 h2 tNil_of S e fun v F1 H1 e1 F' H' s' S1 w S' rv => by
      obtain ⟨⟨x, rfl⟩, d0, hd0⟩ := w
      obtain ⟨a, rfl, hn, fa', ow⟩ := rv
      obtain ⟨ap, ng⟩ := nobody S1 S' hn ⟨d0, hd0⟩
      exact kk a F' H' s' S' fa' (S1.free0 hn) ow ap ng
/-! ### o.m(l, ..), l a list of one's own that is changed -/
def oMeI (kk : Nat) (nm : Str) (np : Nat) (ff : FF) (fo : EF) (fa : AF) : OF := fun env => (fo env).bind fun p => match p.1 with
  | .val (.obj k fs) => if k = kk ∧ fs.lookup nm = none then (fa p.2).bind fun q => (ioArgs q.2 q.1).bind fun a => if (D.obj k fs :: a.2).length = np then (ff (.obj k fs :: a.2)).bind fun r => (match r.2 with
    | [o] => some (r.1, st q.2 a.1 (some o))
    | _ => none) else none else none
  | _ => none
def fMeI (kk : Nat) (nm : Str) (np : Nat) (ff : FF) (fo : EF) (fa : AF) : EF := fun env => (oMeI kk nm np ff fo fa env).bind fun r => some (.val r.1, r.2)
theorem callI_read {z : Zn} {F H : Hp} {env : Env} {σ : St} {v0 : V} {d0 : D} {vs : List V} {bs : List B} {j : Nat} {ds : List D} {Q : VK} {r o : D} (S : SR X.K C c z F env σ H) (r0 : Rp X.K C F v0 d0) (rb : RBs X.K C c F σ vs bs) (ea : ioArgs env bs = some (j, ds)) (hl : (d0 :: ds).length = np) (e : ff (d0 :: ds) = some (r, [o])) (k : ∀ v F' H', Same F F' → SR X.K C c z F' (st env j (some o)) σ H' → (∃ d, gt env j = some d) → (if m = true then ∃ a, v = .ref a ∧ H a = none ∧ F' a = none ∧ Own X.K C F' H' a r else Rp X.K C F' v r) → Q v H') :
    spF X.K C [1] m np ff (v0 :: vs) H Q E0 := by
  cases rb with
  | nil => cases ea
  | @cons v vs b bs r1 r2 =>
    cases b with
    | val _ => cases ea
    | slot i =>
      simp only [ioArgs, Option.bind_eq_some_iff] at ea
      obtain ⟨d, h1, ds', h2, ea⟩ := ea
      cases ea
      obtain ⟨hO, hv⟩ := r1
      obtain ⟨a, ha, fa1, ow, za⟩ := S.b.own j d h1 hO
      rw [hv] at ha; cases ha
      have rp := vals_rp r2 h2
      refine ⟨F, d0 :: d :: ds', r, [o], S.sub, by rw [List.length_cons, List.length_cons, rp.length]; exact hl, ⟨by simp [rp.length], fun i v d h1 h2 hi => ?_, fun i hi => ?_, fun i j a hi hj hij => ?_⟩, e, fun v F' H' dn => ?_⟩
      · cases i with
        | zero =>
          cases h1
          cases h2
          exact r0
        | succ i => cases i with
          | zero => exact absurd (List.mem_cons_self ..) hi
          | succ i =>
            obtain ⟨d', q1, q2⟩ := rp.get (by simpa using h1)
            have h2' : ds'[i]? = some d := by simpa using h2
            rw [h2'] at q1; cases q1
            exact q2
      · have : i = 1 := by simpa using hi
        subst this
        exact ⟨a, d, rfl, rfl, fa1, ow⟩
      · have h1 : i = 1 := by simpa using hi
        have h2 : j = 1 := by simpa using hj
        exact absurd (h1.trans h2.symm) hij
      · obtain ⟨d', q1, q2, q3⟩ := dn.ios 0 1 a rfl rfl
        have q1' : o = d' := Option.some.inj q1
        subst q1'
        refine k v F' H' dn.sub (S.calledX hO h1 hv dn.sub dn.inn dn.new (fun b u hu hne => dn.keep b u hu fun i hi hb => ?_) q2 q3) ⟨_, h1⟩ dn.val
        have hi0 : i = 1 := by simpa using hi
        subst hi0
        have hb' : V.ref a = V.ref b := Option.some.inj hb
        cases hb'
        exact hne rfl
theorem meI_core {z : Zn} {F : Hp} {env env' : Env} {σ : St} {H : Hp} {Q : VK} {kk : Nat} {nm : Str} {d : D} (S : SR X.K C c z F env σ H) (q0 : oMeI kk nm np ff fo fa env = some (d, env'))
    (k : ∀ v F1 H1 e1 j F' H', Same F F' → SR X.K C c z F1 e1 σ H1 → (∃ x, env' = st e1 j x) ∧ (∃ d0, gt e1 j = some d0) → SR X.K C c z F' env' σ H' → (if m = true then ∃ a, v = .ref a ∧ H1 a = none ∧ F' a = none ∧ Own X.K C F' H' a d else Rp X.K C F' v d) → Q v H') :
    tMeth (C kk) nm (spF X.K C [1] m np ff) [] E0 (tE X.K C c fo) (tAr X.K C c fa) σ H Q := by
  obtain ⟨⟨b, e1⟩, q1, q2⟩ := Option.bind_eq_some_iff.mp q0
  clear q0
  cases b with
  | slot _ => cases q2
  | val dx =>
    cases dx <;> simp only at q2 <;> try (cases q2; done)
    split at q2
    case isFalse => cases q2
    next hk =>
    obtain ⟨hk, hl⟩ := hk
    subst hk
    obtain ⟨⟨bs, e2⟩, w2, q3⟩ := Option.bind_eq_some_iff.mp q2
    obtain ⟨⟨j, ds⟩, w3, q5⟩ := Option.bind_eq_some_iff.mp q3
    clear q2 q3
    split at q5
    case isFalse => cases q5
    next hnp =>
    obtain ⟨⟨r, os⟩, w5, q6⟩ := Option.bind_eq_some_iff.mp q5
    dsimp only at q6
    split at q6
    case h_2 => cases q6
    next o =>
    cases q6
    refine ⟨z, F, env, _, e1, S, q1, fun v F1 H1 s1 S1 r1 => ?_⟩
    cases r1 with
    | obj u1 u2 =>
      refine ⟨_, _, _, rfl, S1.sub _ _ u1, u2.look_none hl, z, F1, e1, bs, e2, S1, w2, fun vs F2 H2 s2 S2 r2 => ?_⟩
      show spF X.K C [1] m np ff (V.ref _ :: (vs ++ [])) H2 Q E0
      rw [List.append_nil]
      exact callI_read (m := m) S2 (Rp.mono s2 (.obj u1 u2)) r2 w3 hnp w5 fun v F' H' s' S' hg rv => k v F2 H2 e2 _ F' H' (s1.trans (s2.trans s')) S2 ⟨⟨_, rfl⟩, hg⟩ S' rv
theorem de_meI (kk : Nat) {nm : Str} {pl : Sem Bool} (ho : DE X C c o fo) (cl : Cls X.K (C kk)) (hmt : Meth X.K (C kk) nm fad) (Fk : FnOk X.prog X.w X.K X.mg X.base CX0 k fad fd ps (spF X.K C [1] false np ff)) (hr : Room k X.A) (hb : Binds X.K fd ps []) (ha : DA X C c (e :: es) fa)
    (hst : starEach (e :: es) X.env = (false, eval e X.env) :: starEach es X.env := by rfl) (hpl : (backTo pos (starEach es X.env)).any (·.1) = false := by rfl)
    (ht : eval (.Call (.Attribute o nm apos) (e :: es) [] pos) X.env = (do
      let ov ← eval o X.env
      standAt apos.atName
      let (f, first) ← holding [ov] (getMethod ov nm pl)
      callWith pos f first (backTo pos (starEach (e :: es) X.env)) (backToKw pos (keywordEach [] X.env))) := by rfl) :
    DE X C c (.Call (.Attribute o nm apos) (e :: es) [] pos) (fMeI kk nm np ff fo fa) :=
  PE.imp (pe_meth ho cl hmt Fk hr hb .nil pass0 ha hst hpl ht) fun σ H Q ⟨z, F, env, b, env', S, e, kk⟩ => by
    obtain ⟨⟨d, e1⟩, e0, e'⟩ := Option.bind_eq_some_iff.mp e
    cases e'
    exact meI_core (m := false) S e0 fun v F1 H1 e1 j F' H' s' _ _ S' rv => kk v F' H' s' S' rv
theorem do_meI (kk : Nat) {nm : Str} {pl : Sem Bool} (ho : DE X C c o fo) (cl : Cls X.K (C kk)) (hmt : Meth X.K (C kk) nm fad) (Fk : FnOk X.prog X.w X.K X.mg X.base CX0 k fad fd ps (spF X.K C [1] true np ff)) (hr : Room k X.A) (hb : Binds X.K fd ps []) (ha : DA X C c (e :: es) fa)
    (hst : starEach (e :: es) X.env = (false, eval e X.env) :: starEach es X.env := by rfl) (hpl : (backTo pos (starEach es X.env)).any (·.1) = false := by rfl)
    (ht : eval (.Call (.Attribute o nm apos) (e :: es) [] pos) X.env = (do
      let ov ← eval o X.env
      standAt apos.atName
      let (f, first) ← holding [ov] (getMethod ov nm pl)
      callWith pos f first (backTo pos (starEach (e :: es) X.env)) (backToKw pos (keywordEach [] X.env))) := by rfl) :
    DO X C c (.Call (.Attribute o nm apos) (e :: es) [] pos) (oMeI kk nm np ff fo fa) :=
  PE.imp (pe_meth ho cl hmt Fk hr hb .nil pass0 ha hst hpl ht) fun σ H Q ⟨z, F, env, b, env', S, e, kk⟩ => by
    exact meI_core (m := true) S e fun v F1 H1 e1 j F' H' s' S1 w S' rv => by
      obtain ⟨⟨x, rfl⟩, d0, hd0⟩ := w
      obtain ⟨a, rfl, hn, fa', ow⟩ := rv
      obtain ⟨ap, ng⟩ := nobody S1 S' hn ⟨d0, hd0⟩
      exact kk a F' H' s' S' fa' (S1.free0 hn) ow ap ng
end
end DL

namespace DL
open PySem L2
/-! ### an object is made whose last field is a new list: a cell -/
section
variable {K : PySem.W.Frag} {C : CA} {F F' H H' : Hp} {b : Addr}
theorem Own.inn {a : Addr} {d : D} (h0 : C.cel 0 = none) (h : Own K C F H a d) : Own K (C.at b) F H a d := by
  cases d <;> simp only [Own] at h ⊢
  · obtain ⟨vs, q, l, r⟩ := h; exact ⟨vs, q, l, r.inn h0⟩
  · obtain ⟨vs, q, r⟩ := h; exact ⟨vs, q, r.inn h0⟩
  · obtain ⟨dx, vs, q, r⟩ := h; exact ⟨dx, vs, q, r.inn h0⟩
  · obtain ⟨vs, q, r⟩ := h; exact ⟨vs, q, r.inn h0⟩
end
theorem FnOk.ex {P : Program} {w : World} {K : PySem.W.Frag} {mg : Str → Option Value} {base : Heap} {CX : CXT} {k : Nat} {f : Addr} {fd : FuncData} {ps : List Str} {sp : Addr → Sp} (F : ∀ b, FnOk P w K mg base CX k f fd ps (sp b)) : FnOk P w K mg base CX k f fd ps (fun vs H Q E => ∃ b, sp b vs H Q E) :=
  ⟨fun vs H Q E ⟨b, h⟩ => (F b).len vs H Q E h, fun A outer s H args us vs Q E hr e bt r ⟨b, h⟩ => (F b).run A outer s H args us vs Q E hr e bt r h⟩
/-- the promise of an __init__ that ends with a new list put into the field g -/
def spMk (K : PySem.W.Frag) (C : CA) (kk : Nat) (np : Nat) (g : Str) (f : List D → Option (List (Str × D) × D)) : Sp := fun vs H Q _ => ∃ F x dx ws ds fs dc, Same F H ∧ vs = V.ref x :: ws ∧ vs.length = np ∧ H x = some (.ins (C kk) dx []) ∧ F x = none ∧ RpAll K C F ws ds ∧ f ds = some (fs, dc) ∧
  ∀ F' H' b dx' vs', Same F F' → Same F' H' → (∀ a o, F' a = some o → F a = some o ∨ H a = none) → (∀ a o, H a = some o → a ≠ x → H' a = some o) → F' x = none → H b = none → F' b = none → b ≠ x → Own K C F' H' b dc → H' x = some (.ins (C kk) dx' (putF g (.ref b) vs')) → RpFs K C F' vs' fs → Q .non H'
/-- the last two parts: statements, then self.g = a new list -/
def tMk (K : PySem.W.Frag) (C : CA) (c : Cs) (i kk : Nat) (g : Str) (fb : SF) (oe : OF) : TS := fun Dn σ H => ∃ z F env env1 fs dc e2, SR K C c z F env σ H ∧ z.gh = [] ∧ fb env = some (.nx env1) ∧ oe env1 = some (dc, e2) ∧ gt e2 i = some (.obj kk fs) ∧ fs.length < 1000 ∧
  ∀ F1 σ1 H1 b a dx vs, Same F F1 → SR K C c z F1 e2 σ1 H1 → F1 b = none → z.H0 b = none → Own K C F1 H1 b dc → Apt C c e2 σ1 b → σ1[i]? = some (some (.ref a)) → H1 a = some (.ins (C kk) dx vs) → RpFs K C F1 vs fs → Dn.nx σ1 (upd H1 a (.ins (C kk) dx (putF g (.ref b) vs)))
section
variable {X : Cx} {C : CA} {c : Cs} {e : Expr} {s : Stmt} {ss : List Stmt} {pos : Pos} {x : Str} {f1 fb : SF} {oe : OF}
theorem pss_mk1 (i kk : Nat) {nm : Str} {pos' p' : Pos} (cl : Cls X.K (C kk)) (na : NoAttr X.K (C kk) nm) (he : DO X C c e oe) (hO : i ∈ c.O := by decide) (hN : X.N[i]? = some x := by rfl) (hv : Vis X.env.scope x := by first | exact Or.inl rfl | exact Or.inr (Or.inl rfl) | exact Or.inr (Or.inr rfl)) (hd : (x == ("__debug__" : Str)) = false := by decide) (hcd : (x == ("__classdict__" : Str)) = false := by decide)
    (hs : swapsWith e (some (.Attribute (.Name x p') nm pos')) pos.line X.env = pure false := by rfl) : PSs X [.Assign [.Attribute (.Name x p') nm pos'] e pos] (tMk X.K C c i kk nm sN oe) := by
  refine PSs.imp (pss_cons (ps_fld (pe_var hN hv hd hcd) he hs) pss_nil) fun Dn σ H ⟨z, F, env, env1, fs, dc, e2, S, hg, q1, q2, q3, q4, k⟩ => ?_
  cases q1
  refine ⟨z, F, env, dc, e2, S, q2, fun b F1 H1 s1 S1 fb zb ow ap ng => ?_⟩
  obtain ⟨a, ha, fa', ow', za⟩ := S1.own i _ q3 hO
  obtain ⟨dx, vs, w1, w2⟩ := ow'
  exact ⟨_, ha, a, _, dx, vs, rfl, w1, cl, na, by rw [w2.length]; exact q4, k F1 σ H1 b a dx vs s1 S1 fb zb ow ap ha w1 w2⟩
theorem pss_mkc {i kk : Nat} {nm : Str} (h1 : DS false X C c s f1) (h2 : PSs X ss (tMk X.K C c i kk nm fb oe)) : PSs X (s :: ss) (tMk X.K C c i kk nm (sQ f1 fb) oe) := by
  refine PSs.imp (pss_cons h1 h2) fun Dn σ H ⟨z, F, env, env1, fs, dc, e2, S, hg, q1, q2, q3, q4, k⟩ => ?_
  obtain ⟨fl1, e1, q1⟩ := Option.bind_eq_some_iff.mp q1
  refine ⟨z, F, env, fl1, S, hg, e1, ?_⟩
  cases fl1 with
  | nx env0 => exact fun F1 σ1 H1 s1 S1 => ⟨z, F1, env0, env1, fs, dc, e2, S1, hg, q1, q2, q3, q4, fun F2 σ2 H2 b a dx vs s2 => k F2 σ2 H2 b a dx vs (s1.trans s2)⟩
  | rt _ _ => cases q1
  | bk _ => cases q1
  | ct _ => cases q1
end
/-- the reading of such an __init__: its arguments (without self) to the object's other fields and the new list -/
def mkF (c : Cs) (kk : Nat) (fb : SF) (oe : OF) : List D → Option (List (Str × D) × D) := fun ds => (fb (env0 c.n (.obj kk [] :: ds))).bind fun fl => match fl with
  | .nx e1 => (oe e1).bind fun r => (gt r.2 0).bind fun o => (match o with
    | .obj k fs => if k = kk ∧ fs.length < 1000 then some (fs, r.1) else none
    | _ => none)
  | _ => none
section
variable {P : Program} {w : World} {K : PySem.W.Frag} {mg : Str → Option Value} {base : Heap} {x qual : Str} {params : Arguments} {body : List Stmt} {scope : Scope} {dvs : List V} {kws : List (Str × V)} {fa : Addr} {fd : FuncData}
theorem fun_okM {N ps : List Str} {k : Nat} {C : CA} (c : Cs) (kk : Nat) (g : Str) (Fn : FunD K x qual params body scope dvs kws fa fd) (Sc : FnScope N ps scope) (fb : SF) (oe : OF) (hn : c.n = N.length) (hio : c.io = [0]) (h0p : 0 < ps.length) (h0 : 0 ∈ c.O) (hO : ∀ i ∈ c.O, i < ps.length → i = 0)
    (hbody : ∀ (cdv : Value) (A : Around) (outer : List PySem.Env) (s : Shared) (H : Hp) (E : XK), Room k (A.deeper (PyProof.Rows.envOfC qual scope s.heap.objs.size fa cdv)) → PSs (cxOf CX0 P w K mg base N qual scope fa cdv A outer s H E).nox body (tMk K C c 0 kk g fb oe))
    (hci : c.ci = [] := by rfl) (hcn : c.cn = [] := by rfl) (hOn : ∀ i ∈ c.O, i < c.n := by decide) : FnOk P w K mg base CX0 (k + 1) fa fd ps (spMk K C kk ps.length g (mkF c kk fb oe)) := by
  refine Fn.ok Sc (fun vs H Q E ⟨F, x, dx, ws, ds, fs, dc, _, _, hl, _⟩ => hl) fun cdv A outer s H vs Q E hr ⟨F, x, dx, ws, ds, fs, dc, sb, hvs, hl, hx, hfx, rp, e, kk'⟩ => ?_
  refine ⟨_, PSs.nox (hbody cdv A outer s H E hr), ?_⟩
  obtain ⟨fl, e1, e2⟩ := Option.bind_eq_some_iff.mp e
  cases fl with
  | rt _ _ => cases e2
  | bk _ => cases e2
  | ct _ => cases e2
  | nx env1 =>
  obtain ⟨⟨dc', e3⟩, e4, e5⟩ := Option.bind_eq_some_iff.mp e2
  obtain ⟨o, e6, e7⟩ := Option.bind_eq_some_iff.mp e5
  cases o <;> simp only at e7 <;> try (cases e7; done)
  rename_i k1 fs1
  split at e7
  case isFalse => cases e7
  next hk =>
  obtain ⟨hk, hlen⟩ := hk
  subst hk
  cases e7
  have hps : ps.length ≤ N.length := by have := congrArg List.length Sc.pre; rw [List.length_take] at this; omega
  have hdl : (D.obj k1 [] :: ds).length = ps.length := by rw [← hl, hvs, List.length_cons, List.length_cons, rp.length]
  have hst : ∀ (i : Nat) v, vs[i]? = some v → (L2.start N vs)[i]? = some (some v) := fun i v h => by
    unfold L2.start
    have lt : i < vs.length := (List.getElem?_eq_some_iff.mp h).1
    rw [List.getElem?_append_left (by simpa using lt), List.getElem?_map, h]
    rfl
  have el : (env0 c.n (D.obj k1 [] :: ds)).length = c.n := by
    unfold env0
    rw [List.length_append, List.length_map, List.length_replicate]
    omega
  have h0v : vs[0]? = some (.ref x) := by rw [hvs]; rfl
  have S : SR K C c ⟨F, H, [x], []⟩ F (env0 c.n (D.obj k1 [] :: ds)) (L2.start N vs) H := by
    refine SRo.up ?_ hci hcn hOn
    refine ⟨sb, Same.refl _, fun b o h => .inl h, fun b o h _ => h, ?_, el, fun i d h hi => ?_, fun i d h hi => ?_, fun i j di dj a hi hj hij ei ej si sj => ?_, by rw [hio]; rfl, fun a d h => (nomatch h), fun a d i e h => (nomatch h), List.nodup_nil, fun k i h => ?_⟩
    · rw [el, hn]
      unfold L2.start
      rw [List.length_append, List.length_map, List.length_replicate]
      omega
    · have hd := gt_env0.mp h
      cases i with
      | zero => exact absurd h0 hi
      | succ i =>
        obtain ⟨v, w1, w2⟩ := rp.get' (i := i) (by simpa using hd)
        exact ⟨v, hst (i + 1) v (by rw [hvs]; simpa using w1), w2⟩
    · have hd := gt_env0.mp h
      have lt : i < ps.length := by rw [← hdl]; exact (List.getElem?_eq_some_iff.mp hd).1
      have := hO i hi lt
      subst this
      cases hd
      exact ⟨x, hst 0 _ h0v, hfx, ⟨dx, [], hx, .nil⟩, .inr ⟨by rw [hio]; exact List.mem_cons_self .., List.mem_cons_self ..⟩⟩
    · have h1 := gt_env0.mp ei
      have h2 := gt_env0.mp ej
      have l1 : i < ps.length := by rw [← hdl]; exact (List.getElem?_eq_some_iff.mp h1).1
      have l2 : j < ps.length := by rw [← hdl]; exact (List.getElem?_eq_some_iff.mp h2).1
      exact hij ((hO i hi l1).trans (hO j hj l2).symm)
    · rw [hio] at h
      cases k with
      | succ k => simp at h
      | zero =>
        simp at h
        subst h
        exact ⟨h0, x, _, rfl, hst 0 _ h0v, gt_env0.mpr rfl⟩
  refine ⟨_, F, _, env1, _, _, e3, S, rfl, e1, e4, e6, hlen, fun F1 σ1 H1 b a dx1 vs1 s1 S1 fb1 zb ow ap ha w1 w2 => ?_⟩
  have xio : c.x.io = c.io := by rw [x_nil hci hcn]
  have hax : a = x := by
    obtain ⟨_, a', d', q1, q2, q3⟩ := S1.b.ios 0 0 (by rw [xio, hio]; rfl)
    have := S1.b.own 0 d' q3 (x_mem h0)
    have q2' := q2
    rw [S1.at (hOn 0 h0), ha] at q2'
    cases q2'
    cases q1
    rfl
  subst hax
  obtain ⟨a2, ha2, hfa, _, _⟩ := S1.own 0 _ e6 h0
  rw [ha] at ha2; cases ha2
  have hbx : b ≠ a := fun q => by
    subst q
    exact ap 0 _ (x_mem h0) e6 (by rw [S1.at (hOn 0 h0)]; exact ha)
  refine kk' F1 _ b dx1 vs1 S1.f0 ?_ S1.new (fun u o hu hne => ?_) hfa zb fb1 hbx ?_ upd_same w2
  · intro u o hu
    have hne : u ≠ a := fun q => by subst q; rw [hfa] at hu; cases hu
    rw [upd_ne hne]
    exact S1.sub u o hu
  · rw [upd_ne hne]
    refine S1.keep u o hu fun hm => hne ?_
    simpa using hm
  · exact ow.mono (Same.refl _) (upd_ne hbx)
end
/-! ### Maker(..).m1().m2(): the object lives in this expression alone -/
def fRun (kk npm : Nat) (g nm1 nm2 : Str) (mk : List D → Option (List (Str × D) × D)) (f1 f2 : FF) (fa : AF) : OF := fun env => (fa env).bind fun q => (vals q.1).bind fun ds => if (D.obj kk [] :: ds).length = npm then (mk ds).bind fun r => if (putFD g (.cel 0) r.1).lookup nm1 = none then (f1 [.obj kk (putFD g (.cel 0) r.1), r.2]).bind fun r1 => (match r1.1, r1.2 with
  | .obj k fs, [l1] => if k = kk ∧ fs.lookup nm2 = none then (f2 [.obj kk fs, l1]).bind fun r2 => (match r2.2 with
    | [_] => if noCel r2.1 = true then some (r2.1, q.2) else none
    | _ => none) else none
  | _, _ => none) else none else none
section
variable {m : Bool} {X : Cx} {C : CA} {c : Cs} {e : Expr} {es : List Expr} {fa : AF} {pos pos1 pos2 p apos1 apos2 : Pos} {x : Str} {k k1 k2 npm : Nat} {fad fad1 fad2 : Addr} {fd fd1 fd2 : FuncData} {ps ps1 ps2 : List Str} {mk : List D → Option (List (Str × D) × D)} {f1 f2 : FF}
theorem cell1 {K : PySem.W.Frag} {F H : Hp} {b : Addr} {v : V} {o dc r : D} {o2 : D} {ff : FF} {mm : Bool} {Q : VK} (s : Same F H) (rp : Rp K (C.at b) F v o) (fb : F b = none) (ow : Own K (C.at b) F H b dc) (e : ff [o, dc] = some (r, [o2]))
    (k : ∀ v' F' H', Same F F' → Same F' H' → (∀ a u, F' a = some u → F a = some u ∨ H a = none) → (∀ a u, H a = some u → a ≠ b → H' a = some u) → F' b = none → Own K (C.at b) F' H' b o2 → (if mm = true then ∃ a, v' = .ref a ∧ H a = none ∧ F' a = none ∧ Own K (C.at b) F' H' a r else Rp K (C.at b) F' v' r) → Q v' H') :
    spFc K (C.at b) [] mm 1 ff [v] H Q E0 := by
  refine ⟨b, rfl, rfl, F, [o, dc], r, [o2], s, rfl, ⟨rfl, fun i v d w1 w2 hi => ?_, fun i hi => ?_, fun i j a hi hj hij => ?_⟩, e, fun v' F' H' dn => ?_⟩
  · cases i with
    | zero => cases w1; cases w2; exact rp
    | succ i => cases i with
      | zero => exact absurd (List.mem_cons_self ..) hi
      | succ i => simp at w1
  · have : i = 1 := by simpa using hi
    subst this
    exact ⟨b, dc, rfl, rfl, fb, ow⟩
  · have w1 : i = 1 := by simpa using hi
    have w2 : j = 1 := by simpa using hj
    exact absurd (w1.trans w2.symm) hij
  · obtain ⟨d', q1, q2, q3⟩ := dn.ios 0 1 b rfl rfl
    have q1' : o2 = d' := Option.some.inj q1
    subst q1'
    refine k v' F' H' dn.sub dn.inn dn.new (fun a u hu hne => dn.keep a u hu fun i hi hb => ?_) q2 q3 dn.val
    have hi0 : i = 1 := by simpa using hi
    subst hi0
    have hb' : V.ref b = V.ref a := Option.some.inj hb
    cases hb'
    exact hne rfl
theorem run_core {kk : Nat} {g nm1 nm2 : Str} {z : Zn} {F H : Hp} {env env' : Env} {σ : St} {Q : VK} {d : D} (h0 : C.cel 0 = none) (S : SR X.K C c z F env σ H) (q0 : fRun kk npm g nm1 nm2 mk f1 f2 fa env = some (d, env'))
    (k : ∀ v F1 H1 F' H', Same F F' → SR X.K C c z F1 env' σ H1 → SR X.K C c z F' env' σ H' → (if m = true then ∃ a, v = .ref a ∧ H1 a = none ∧ F' a = none ∧ Own X.K C F' H' a d else Rp X.K C F' v d) → Q v H') :
    tMeth (C kk) nm2 (fun vs H Q E => ∃ b, spFc X.K (C.at b) [] m 1 f2 vs H Q E) [] E0 (tMeth (C kk) nm1 (fun vs H Q E => ∃ b, spFc X.K (C.at b) [] false 1 f1 vs H Q E) [] E0 (tMake (C kk) (spMk X.K C kk npm g mk) [] E0 (tAr X.K C c fa)) tNil) tNil σ H Q := by
  obtain ⟨⟨bs, e1⟩, w1, q1⟩ := Option.bind_eq_some_iff.mp q0
  obtain ⟨ds, w2, q2⟩ := Option.bind_eq_some_iff.mp q1
  clear q0 q1
  split at q2
  case isFalse => cases q2
  next hnp =>
  obtain ⟨⟨fs, dc⟩, w3, q3⟩ := Option.bind_eq_some_iff.mp q2
  clear q2
  split at q3
  case isFalse => cases q3
  next hl1 =>
  obtain ⟨⟨o1, os1⟩, w4, q4⟩ := Option.bind_eq_some_iff.mp q3
  clear q3
  dsimp only at q4
  split at q4
  case h_2 => cases q4
  next k1 fs1 l1 =>
  split at q4
  case isFalse => cases q4
  next hl2 =>
  obtain ⟨hk1, hl2⟩ := hl2
  subst hk1
  obtain ⟨⟨r2, os2⟩, w5, q5⟩ := Option.bind_eq_some_iff.mp q4
  clear q4
  dsimp only at q5
  split at q5
  case h_2 => cases q5
  next l2 =>
  split at q5
  case isFalse => cases q5
  next hno =>
  cases q5
  refine ⟨z, F, env, bs, _, S, w1, fun vs F1 H1 s1 S1 r1 => fun x dx hx hdx hne => ?_⟩
  have rp := vals_rp r1 w2
  have hx1 : (upd H1 dx (.own x)) x = none := by rw [upd_ne (Ne.symm hne)]; exact hx
  have sH : Same H1 (upd (upd H1 dx (.own x)) x (.ins (C k1) dx [])) := (same_upd hdx).trans (same_upd hx1)
  refine ⟨F1, x, dx, vs ++ [], ds, fs, dc, S1.sub.trans sH, rfl, by rw [List.append_nil, List.length_cons, rp.length]; exact hnp, upd_same, S1.sub.free hx, by rw [List.append_nil]; exact rp, w3, fun F2 H2 b dx' vs' s2 i2 new2 keep2 fx2 hb2 fb2 hbx ow2 hx2 rf2 => ⟨rfl, ?_⟩⟩
  -- the object is data now
  have s3 : Same F2 (upd F2 x (.ins (C k1) dx' (putF g (.ref b) vs'))) := same_upd fx2
  have i3 : Same (upd F2 x (.ins (C k1) dx' (putF g (.ref b) vs'))) H2 := fun u o h => by
    by_cases q : u = x
    · subst q; rw [upd_same] at h; cases h; exact hx2
    · rw [upd_ne q] at h; exact i2 _ _ h
  have rf3 : RpFs X.K (C.at b) (upd F2 x (.ins (C k1) dx' (putF g (.ref b) vs'))) (putF g (.ref b) vs') (putFD g (.cel 0) fs) := RpFs.put (.cel 0 rfl) ((rf2.inn h0).mono s3)
  have ro3 : Rp X.K (C.at b) (upd F2 x (.ins (C k1) dx' (putF g (.ref b) vs'))) (.ref x) (.obj k1 (putFD g (.cel 0) fs)) := .obj upd_same rf3
  have fb3 : (upd F2 x (.ins (C k1) dx' (putF g (.ref b) vs'))) b = none := by rw [upd_ne hbx]; exact fb2
  have ow3 : Own X.K (C.at b) (upd F2 x (.ins (C k1) dx' (putF g (.ref b) vs'))) H2 b dc := (ow2.inn h0).mono s3 rfl
  have new3 : ∀ a u, (upd F2 x (.ins (C k1) dx' (putF g (.ref b) vs'))) a = some u → F1 a = some u ∨ H1 a = none := fun a u h => by
    by_cases q : a = x
    · subst q; exact .inr hx
    · rw [upd_ne q] at h
      rcases new2 a u h with w | w
      · exact .inl w
      · exact .inr (sH.free w)
  have b1 : H1 b = none := sH.free hb2
  have keep3 : ∀ a u, H1 a = some u → H2 a = some u := fun a u h => keep2 a u (sH a u h) fun q => by subst q; rw [hx] at h; cases h
  have free3 : ∀ a, H2 a = none → H1 a = none := fun a h => by
    cases q : H1 a with
    | none => rfl
    | some u => rw [keep3 a u q] at h; cases h
  have s13 := s2.trans s3
  generalize (upd F2 x (.ins (C k1) dx' (putF g (.ref b) vs')) : Hp) = F3 at s3 i3 rf3 ro3 fb3 ow3 new3 s13
  refine ⟨x, dx', _, rfl, hx2, rf3.look_none hl1, b, ?_⟩
  refine cell1 (mm := false) i3 ro3 fb3 ow3 w4 fun v4 F4 H4 s4 i4 new4 keep4 fb4 ow4 ro4 => ?_
  cases (show Rp X.K (C.at b) F4 v4 _ from ro4) with
  | obj u1 u2 =>
  refine ⟨_, _, _, rfl, i4 _ _ u1, u2.look_none hl2, b, ?_⟩
  refine cell1 (mm := m) i4 (.obj u1 u2) fb4 ow4 w5 fun v5 F5 H5 s5 i5 new5 keep5 fb5 ow5 ro5 => ?_
  have keep : ∀ a u, H1 a = some u → H5 a = some u := fun a u h => by
    have hab : a ≠ b := fun q => by subst q; rw [b1] at h; cases h
    exact keep5 a u (keep4 a u (keep3 a u h) hab) hab
  have free4 : ∀ a, H4 a = none → H1 a = none := fun a h => by
    cases q : H1 a with
    | none => rfl
    | some u =>
      have hab : a ≠ b := fun q2 => by subst q2; rw [b1] at q; cases q
      rw [keep4 a u (keep3 a u q) hab] at h; cases h
  have ex : Ext F1 H1 F5 H5 := ⟨s13.trans (s4.trans s5), i5, keep, fun a u h => by
    rcases new5 a u h with w | w
    · rcases new4 a u w with w | w
      · exact new3 a u w
      · exact .inr (free3 a w)
    · exact .inr (free4 a w)⟩
  refine k v5 F1 H1 F5 H5 (s1.trans ex.sub) S1 (S1.ext ex) ?_
  cases m with
  | false => exact (show Rp X.K (C.at b) F5 v5 _ from ro5).off hno
  | true =>
    obtain ⟨a, q1, q2, q3, q4⟩ := ro5
    exact ⟨a, q1, free4 a q2, q3, q4.off hno⟩
def fRunV (kk npm : Nat) (g nm1 nm2 : Str) (mk : List D → Option (List (Str × D) × D)) (f1 f2 : FF) (fa : AF) : EF := fun env => (fRun kk npm g nm1 nm2 mk f1 f2 fa env).bind fun r => some (.val r.1, r.2)
theorem de_run (kk : Nat) {g nm1 nm2 : Str} {pl1 pl2 : Sem Bool} (h0 : C.cel 0 = none) (M : Mk X.K (C kk) fad) (Fm : FnOk X.prog X.w X.K X.mg X.base CX0 k fad fd ps (spMk X.K C kk npm g mk)) (hr : Room (k + 1) X.A) (hm : X.mg x = some (.ref (C kk))) (hb : Binds X.K fd ps []) (ha : DA X C c (e :: es) fa)
    (cl : Cls X.K (C kk)) (hm1 : Meth X.K (C kk) nm1 fad1) (F1 : ∀ b, FnOk X.prog X.w X.K X.mg X.base CX0 k1 fad1 fd1 ps1 (spFc X.K (C.at b) [] false 1 f1)) (hr1 : Room k1 X.A) (hb1 : Binds X.K fd1 ps1 [])
    (hm2 : Meth X.K (C kk) nm2 fad2) (F2 : ∀ b, FnOk X.prog X.w X.K X.mg X.base CX0 k2 fad2 fd2 ps2 (spFc X.K (C.at b) [] false 1 f2)) (hr2 : Room k2 X.A) (hb2 : Binds X.K fd2 ps2 [])
    (hg : Gl X x := by rfl) (hdb : (x == ("__debug__" : Str)) = false := by decide) (he : starEach (e :: es) X.env = (false, eval e X.env) :: starEach es X.env := by rfl) (hpl : (backTo pos (starEach es X.env)).any (·.1) = false := by rfl)
    (ht1 : eval (.Call (.Attribute (.Call (.Name x p) (e :: es) [] pos) nm1 apos1) [] [] pos1) X.env = (do
      let ov ← eval (.Call (.Name x p) (e :: es) [] pos) X.env
      standAt apos1.atName
      let (f, first) ← holding [ov] (getMethod ov nm1 pl1)
      callWith pos1 f first (backTo pos1 (starEach [] X.env)) (backToKw pos1 (keywordEach [] X.env))) := by rfl)
    (ht2 : eval (.Call (.Attribute (.Call (.Attribute (.Call (.Name x p) (e :: es) [] pos) nm1 apos1) [] [] pos1) nm2 apos2) [] [] pos2) X.env = (do
      let ov ← eval (.Call (.Attribute (.Call (.Name x p) (e :: es) [] pos) nm1 apos1) [] [] pos1) X.env
      standAt apos2.atName
      let (f, first) ← holding [ov] (getMethod ov nm2 pl2)
      callWith pos2 f first (backTo pos2 (starEach [] X.env)) (backToKw pos2 (keywordEach [] X.env))) := by rfl) :
    DE X C c (.Call (.Attribute (.Call (.Attribute (.Call (.Name x p) (e :: es) [] pos) nm1 apos1) [] [] pos1) nm2 apos2) [] [] pos2) (fRunV kk npm g nm1 nm2 mk f1 f2 fa) :=
  PE.imp (pe_meth0 (pe_meth0 (pe_make M Fm hr hg hm hb .nil pass0 ha hdb he hpl) cl hm1 (FnOk.ex F1) hr1 hb1 .nil pass0 ht1) cl hm2 (FnOk.ex F2) hr2 hb2 .nil pass0 ht2) fun σ H Q ⟨z, F, env, b, env', S, e, kk⟩ => by
    obtain ⟨⟨d, e1⟩, e0, e'⟩ := Option.bind_eq_some_iff.mp e
    cases e'
    exact run_core (m := false) h0 S e0 fun v F1 H1 F' H' s' _ S' rv => kk v F' H' s' S' rv
theorem do_run (kk : Nat) {g nm1 nm2 : Str} {pl1 pl2 : Sem Bool} (h0 : C.cel 0 = none) (M : Mk X.K (C kk) fad) (Fm : FnOk X.prog X.w X.K X.mg X.base CX0 k fad fd ps (spMk X.K C kk npm g mk)) (hr : Room (k + 1) X.A) (hm : X.mg x = some (.ref (C kk))) (hb : Binds X.K fd ps []) (ha : DA X C c (e :: es) fa)
    (cl : Cls X.K (C kk)) (hm1 : Meth X.K (C kk) nm1 fad1) (F1 : ∀ b, FnOk X.prog X.w X.K X.mg X.base CX0 k1 fad1 fd1 ps1 (spFc X.K (C.at b) [] false 1 f1)) (hr1 : Room k1 X.A) (hb1 : Binds X.K fd1 ps1 [])
    (hm2 : Meth X.K (C kk) nm2 fad2) (F2 : ∀ b, FnOk X.prog X.w X.K X.mg X.base CX0 k2 fad2 fd2 ps2 (spFc X.K (C.at b) [] true 1 f2)) (hr2 : Room k2 X.A) (hb2 : Binds X.K fd2 ps2 [])
    (hg : Gl X x := by rfl) (hdb : (x == ("__debug__" : Str)) = false := by decide) (he : starEach (e :: es) X.env = (false, eval e X.env) :: starEach es X.env := by rfl) (hpl : (backTo pos (starEach es X.env)).any (·.1) = false := by rfl)
    (ht1 : eval (.Call (.Attribute (.Call (.Name x p) (e :: es) [] pos) nm1 apos1) [] [] pos1) X.env = (do
      let ov ← eval (.Call (.Name x p) (e :: es) [] pos) X.env
      standAt apos1.atName
      let (f, first) ← holding [ov] (getMethod ov nm1 pl1)
      callWith pos1 f first (backTo pos1 (starEach [] X.env)) (backToKw pos1 (keywordEach [] X.env))) := by rfl)
    (ht2 : eval (.Call (.Attribute (.Call (.Attribute (.Call (.Name x p) (e :: es) [] pos) nm1 apos1) [] [] pos1) nm2 apos2) [] [] pos2) X.env = (do
      let ov ← eval (.Call (.Attribute (.Call (.Name x p) (e :: es) [] pos) nm1 apos1) [] [] pos1) X.env
      standAt apos2.atName
      let (f, first) ← holding [ov] (getMethod ov nm2 pl2)
      callWith pos2 f first (backTo pos2 (starEach [] X.env)) (backToKw pos2 (keywordEach [] X.env))) := by rfl) :
    DO X C c (.Call (.Attribute (.Call (.Attribute (.Call (.Name x p) (e :: es) [] pos) nm1 apos1) [] [] pos1) nm2 apos2) [] [] pos2) (fRun kk npm g nm1 nm2 mk f1 f2 fa) :=
  PE.imp (pe_meth0 (pe_meth0 (pe_make M Fm hr hg hm hb .nil pass0 ha hdb he hpl) cl hm1 (FnOk.ex F1) hr1 hb1 .nil pass0 ht1) cl hm2 (FnOk.ex F2) hr2 hb2 .nil pass0 ht2) fun σ H Q ⟨z, F, env, b, env', S, e, kk⟩ => by
    exact run_core (m := true) h0 S e fun v F1 H1 F' H' s' S1 S' rv => by
      obtain ⟨a, rfl, hn, fa', ow⟩ := rv
      refine kk a F' H' s' S' fa' (S1.free0 hn) ow (fun j d hj ej hs => ?_) fun d hgd => ?_
      · obtain ⟨a', q1, _, q3, _⟩ := S1.b.own j d ej hj
        rw [hs] at q1; cases q1
        obtain ⟨o, ho⟩ := q3.some
        rw [hn] at ho; cases ho
      · obtain ⟨_, q3, _⟩ := S1.gho a d hgd
        obtain ⟨o, ho⟩ := q3.some
        rw [hn] at ho; cases ho
end
end DL

namespace DL
open PySem L2
/-! ### steps for the reader: defs that are handed a cell -/
section
variable {env e e1 e2 e3 e4 : Env} {f g h fo : EF} {fa : AF} {ff : FF} {i j n np kk : Nat} {nm : Str} {d d1 d2 x y w r o dc : D} {b b1 b2 : B} {bs : List B} {ds dd outs xs ys : List D} {fs : List (Str × D)} {fl : Fl}
theorem q_runC {c : Cs} {fb : SF} {e0 : Env} {rr : D × List D} (he : envC c.n np ds = e0) (h1 : fb e0 = some fl) (h2 : endF (c.io ++ [c.n]) fl = some rr) : runFc c np fb ds = some rr := by
  subst he
  unfold runFc
  rw [h1]
  exact h2
theorem q_Cel (h1 : f env = some (b, e1)) (h2 : RDB e1 b x) (h3 : attrD kk nm x = some (.cel 0)) : fCel n kk nm f env = some (.slot n, e1) := by
  unfold RDB at h2
  simp [fCel, h1, h2, h3]
theorem q_setIxE {fk fe : EF} {dk d3 : D} (h1 : fe env = some (.val d, e1)) (h2 : fo e1 = some (.slot i, e2)) (h3 : fk e2 = some (b, e3)) (h4 : RDB e3 b dk) (h5 : gt e3 i = some (.lst xs)) (h6 : setD (.lst xs) dk d = some d3) (hE : st e3 i (some d3) = e4) : sSetIxE fo fk fe env = some (.nx e4) := by
  unfold RDB at h4
  subst hE
  unfold sSetIxE
  rw [h1]
  simp only [Option.bind_some]
  rw [h2]
  simp only [Option.bind_some]
  rw [h3]
  simp only [Option.bind_some]
  rw [h4]
  simp only [Option.bind_some]
  rw [h5]
  simp only [Option.bind_some]
  rw [h6]
  rfl
theorem q_MeC (h0 : fo env = some (.val (.obj kk fs), e1)) (hn : fs.lookup nm = none) (h1 : AV fa e1 ds e2) (h2 : gt e2 n = some dc) (hl : (D.obj kk fs :: ds).length = np) (hd : APP (.obj kk fs :: ds) [dc] xs) (h3 : ff xs = some (d, [o])) (hE : st e2 n (some o) = e3) : fMeC kk nm np n ff fo fa env = some (.val d, e3) := by
  unfold APP at hd
  unfold AV at h1
  subst hd hE
  unfold fMeC
  rw [h0]
  simp only [Option.bind_some]
  rw [if_pos ⟨trivial, hn⟩, h1]
  simp only [Option.bind_some]
  rw [vals_map]
  simp only [Option.bind_some]
  rw [h2]
  simp only [Option.bind_some]
  rw [if_pos hl, h3]
  rfl
theorem q_MeI (h0 : fo env = some (.val (.obj kk fs), e1)) (hn : fs.lookup nm = none) (h1 : AV fa e1 ds e2) (hs : gt e1 i = some d1) (hg : gt e2 i = some d2) (hl : (D.obj kk fs :: d2 :: ds).length = np) (h3 : ff (.obj kk fs :: d2 :: ds) = some (d, [o])) (hE : st e2 i (some o) = e3) : fMeI kk nm np ff fo (aC (fS i) fa) env = some (.val d, e3) := by
  subst hE
  unfold fMeI oMeI
  rw [h0]
  simp only [Option.bind_some]
  rw [if_pos ⟨trivial, hn⟩, r_aC (r_S hs) h1]
  simp only [Option.bind_some]
  rw [ioArgs_v hg]
  simp only [Option.bind_some]
  rw [if_pos hl, h3]
  rfl
theorem q_fRun {npm : Nat} {gn nm1 nm2 : Str} {mk : List D → Option (List (Str × D) × D)} {f1 f2 : FF} {fs1 : List (Str × D)} {l0 l1 l2 : D} (h1 : AV fa env ds e1) (hl : (D.obj kk [] :: ds).length = npm) (h2 : mk ds = some (fs, l0)) (hn1 : (putFD gn (.cel 0) fs).lookup nm1 = none) (h3 : f1 [.obj kk (putFD gn (.cel 0) fs), l0] = some (.obj kk fs1, [l1])) (hn2 : fs1.lookup nm2 = none) (h4 : f2 [.obj kk fs1, l1] = some (d, [l2])) (hc : noCel d = true) : fRun kk npm gn nm1 nm2 mk f1 f2 fa env = some (d, e1) := by
  unfold AV at h1
  unfold fRun
  rw [h1]
  simp only [Option.bind_some]
  rw [vals_map]
  simp only [Option.bind_some]
  rw [if_pos hl, h2]
  simp only [Option.bind_some]
  rw [if_pos hn1, h3]
  simp only [Option.bind_some]
  rw [if_pos ⟨trivial, hn2⟩, h4]
  simp only [Option.bind_some]
  rw [if_pos hc]
theorem q_fRunV {npm : Nat} {gn nm1 nm2 : Str} {mk : List D → Option (List (Str × D) × D)} {f1 f2 : FF} {fs1 : List (Str × D)} {l0 l1 l2 : D} (h1 : AV fa env ds e1) (hl : (D.obj kk [] :: ds).length = npm) (h2 : mk ds = some (fs, l0)) (hn1 : (putFD gn (.cel 0) fs).lookup nm1 = none) (h3 : f1 [.obj kk (putFD gn (.cel 0) fs), l0] = some (.obj kk fs1, [l1])) (hn2 : fs1.lookup nm2 = none) (h4 : f2 [.obj kk fs1, l1] = some (d, [l2])) (hc : noCel d = true) : fRunV kk npm gn nm1 nm2 mk f1 f2 fa env = some (.val d, e1) := by
  unfold fRunV
  rw [q_fRun h1 hl h2 hn1 h3 hn2 h4 hc]
  rfl
end
end DL

namespace DL
open PySem L2
/-! ### o[i] through the class's own __getitem__ -/
theorem FunD.fi {K : PySem.W.Frag} {x qual : Str} {params : Arguments} {body : List Stmt} {scope : Scope} {dvs : List V} {kws : List (Str × V)} {f : Addr} {fd : FuncData} (F : FunD K x qual params body scope dvs kws f fd) : PySem.W.fnIn K f = true := by
  obtain ⟨oc, od, dV, kV, doc, pm, an, cdv, ct, osl, _, lk, _⟩ := F.ex
  unfold PySem.W.fnIn
  rw [lk]
section
variable {X : Cx} {Cc f : Addr} {n : Nat} {fd : FuncData} {ps : List Str} {sp : Sp} {a b : Expr} {ta tb : TE} {pos : Pos}
theorem pe_ixO (F : FnOk X.prog X.w X.K X.mg X.base CX0 n f fd ps sp) (hm : Meth X.K Cc "__getitem__" f) (hfi : PySem.W.fnIn X.K f = true) (hb : Binds X.K fd ps []) (hr : Room (n + 1) X.A) (ha : PE X a ta) (hi : PE X b tb)
    (hsl : ∀ o i, subscripted b true o i = runValue (.builtin "lifetime.subscript" ⟨[o, i], []⟩) := by intro _ _; with_unfolding_all rfl) :
    PE X (.Subscript a b pos) (fun σ H Q => ta σ H fun x H1 => tb σ H1 fun y H2 => ∃ p dx fs, x = .ref p ∧ H2 p = some (.ins Cc dx fs) ∧ sp [x, y] H2 Q E0) := by
  refine ⟨fun pins s σ H Q I h => ?_⟩
  refine PyProof.Rows.Subscript_ (binT (R := fun x y H2 => ∃ p dx fs, x = .ref p ∧ H2 p = some (.ins Cc dx fs) ∧ sp [x, y] H2 Q E0) ha hi I h fun v u s2 x y H2 I2 rx ry q => ?_)
  obtain ⟨p, dx, fs, rfl, hp, hsp⟩ := q
  cases rx
  obtain ⟨mA, J, _⟩ := ins_get I2.hok hp
  obtain ⟨od, J, _⟩ := J.look
  obtain ⟨m, hF⟩ := I2.fr
  exact PySem.W.sub_K hF I2.ok.mod.kin J hm.at_ hfi hm.fn (run_in1 F hb hr.in1 I2 (vs := [V.ref p, y]) (.cons rfl (.cons ry .nil)) hsp) (hsl _ _)
end
section
variable {X : Cx} {C : CA} {c : Cs} {e o : Expr} {f g : EF} {pos : Pos} {k : Nat} {fad : Addr} {fd : FuncData} {ps : List Str} {ff : FF}
def fIxO (kk : Nat) (ff : FF) (fo fi : EF) : EF := fun env => (fo env).bind fun p => match p.1 with
  | .val (.obj k fs) => if k = kk then (fi p.2).bind fun q => (match q.1 with
    | .val d => (ff [.obj k fs, d]).bind fun r => some (.val r.1, q.2)
    | .slot _ => none) else none
  | _ => none
theorem de_ixO (kk : Nat) (ho : DE X C c o f) (he : DE X C c e g) (hmt : Meth X.K (C kk) "__getitem__" fad) (hfi : PySem.W.fnIn X.K fad = true) (Fk : FnOk X.prog X.w X.K X.mg X.base CX0 k fad fd ps (spF X.K C [] false 2 ff)) (hr : Room (k + 1) X.A) (hb : Binds X.K fd ps [])
    (hsl : ∀ o i, subscripted e true o i = runValue (.builtin "lifetime.subscript" ⟨[o, i], []⟩) := by intro _ _; with_unfolding_all rfl) : DE X C c (.Subscript o e pos) (fIxO kk ff f g) := by
  refine PE.imp (pe_ixO Fk hmt hfi hb hr ho he hsl) fun σ H Q ⟨z, F, env, b, env', S, q, kq⟩ => ?_
  obtain ⟨⟨b1, e1⟩, h1, q1⟩ := Option.bind_eq_some_iff.mp q
  clear q
  cases b1 with
  | slot _ => cases q1
  | val d =>
    cases d <;> simp only at q1 <;> try (cases q1; done)
    split at q1
    case isFalse => cases q1
    next hk =>
    subst hk
    obtain ⟨⟨b2, e2⟩, h2, q2⟩ := Option.bind_eq_some_iff.mp q1
    clear q1
    cases b2 with
    | slot _ => cases q2
    | val d2 =>
      obtain ⟨r, h3, q3⟩ := Option.bind_eq_some_iff.mp q2
      cases q3
      refine ⟨z, F, env, _, e1, S, h1, fun v F1 H1 s1 S1 r1 => ?_⟩
      cases r1 with
      | obj w1 w2 =>
        refine ⟨z, F1, e1, _, e2, S1, h2, fun u F2 H2 s2 S2 r2 => ⟨_, _, _, rfl, S2.sub _ _ (s2 _ _ w1), ?_⟩⟩
        have rp : RpAll X.K C F2 [.ref _, u] [.obj _ _, d2] := .cons (Rp.mono s2 (.obj w1 w2)) (.cons r2 .nil)
        have c0 := call0_read (X := X) (C := C) (m := false) (dv := []) (dd := []) (np := 2) (ff := ff) (Q := Q) (r := r) S2.sub rp .nil rfl h3 fun v F' H' ex rv => kq v F' H' (s1.trans (s2.trans ex.sub)) (S2.ext ex) rv
        rw [List.append_nil] at c0
        exact c0
theorem q_ixO {env e1 e2 : Env} {kk : Nat} {fs : List (Str × D)} {d r : D} {outs : List D} {fo fi : EF} (h1 : fo env = some (.val (.obj kk fs), e1)) (h2 : fi e1 = some (.val d, e2)) (h3 : ff [.obj kk fs, d] = some (r, outs)) : fIxO kk ff fo fi env = some (.val r, e2) := by
  unfold fIxO
  rw [h1]
  simp only [Option.bind_some, if_true]
  rw [h2]
  simp only [Option.bind_some]
  rw [h3]
  rfl
end
end DL

namespace DL
open PySem L2
/-! ### o != p, o == p, str(o) by the class's own __eq__, __str__; isinstance of an own class; join -/
/-- what is looked up in the class Net for these -/
structure OwnF (K : PySem.W.Frag) (C : Addr) : Prop where
  ha : PySem.W.findIn K (.ref C) "__class__" = some (some (.builtin "object.__class__"))
  hn : PySem.W.specialIn K (.builtin "object.__class__") "__get__" = some (some (.builtin "getset_descriptor.__get__"))
  htk : PySem.W.takesIn K (.builtin "object.__class__") = some true
  hm : PySem.W.mroIn K C (.type "object") = some true
  me : PySem.W.kitOne K (.ref C) (.ref C) = some true
  ne : PySem.W.findIn K (.ref C) "__ne__" = some (some (.builtin "object.__ne__"))
  kS : PySem.W.kitOne K (.type "str") (.ref C) = some false
  kT : PySem.W.kitOne K (.type "tuple") (.ref C) = some false
  kI : PySem.W.kitOne K (.type "int") (.ref C) = some false
  nS : PySem.W.notFirst K C (.type "str") = true
  nT : PySem.W.notFirst K C (.type "tuple") = true
  nI : PySem.W.notFirst K C (.type "int") = true
  kO : PySem.W.kitOne K (.ref C) (.type "tuple") = some false
def ownB (C : Addr) (K : PySem.W.Frag) : Bool := decide (PySem.W.findIn K (.ref C) "__class__" = some (some (.builtin "object.__class__"))) && (decide (PySem.W.specialIn K (.builtin "object.__class__") "__get__" = some (some (.builtin "getset_descriptor.__get__"))) && (decide (PySem.W.takesIn K (.builtin "object.__class__") = some true) && (decide (PySem.W.mroIn K C (.type "object") = some true) && (decide (PySem.W.kitOne K (.ref C) (.ref C) = some true) && (decide (PySem.W.findIn K (.ref C) "__ne__" = some (some (.builtin "object.__ne__"))) && (decide (PySem.W.kitOne K (.type "str") (.ref C) = some false) && (decide (PySem.W.kitOne K (.type "tuple") (.ref C) = some false) && (decide (PySem.W.kitOne K (.type "int") (.ref C) = some false) && (decide (PySem.W.notFirst K C (.type "str") = true) && (decide (PySem.W.notFirst K C (.type "tuple") = true) && ((decide (PySem.W.notFirst K C (.type "int") = true) && decide (PySem.W.kitOne K (.ref C) (.type "tuple") = some false)))))))))))))
theorem ownB_ok {C : Addr} {K : PySem.W.Frag} (h : ownB C K = true) : OwnF K C := by
  simp only [ownB, Bool.and_eq_true, decide_eq_true_eq] at h
  exact ⟨h.1, h.2.1, h.2.2.1, h.2.2.2.1, h.2.2.2.2.1, h.2.2.2.2.2.1, h.2.2.2.2.2.2.1, h.2.2.2.2.2.2.2.1, h.2.2.2.2.2.2.2.2.1, h.2.2.2.2.2.2.2.2.2.1, h.2.2.2.2.2.2.2.2.2.2.1, h.2.2.2.2.2.2.2.2.2.2.2.1, h.2.2.2.2.2.2.2.2.2.2.2.2⟩
section
variable {prog : Program} {w : World} {A : Around} {E : Value → Shared → Prop} {s : Shared} {K : PySem.W.Frag} {x y C f : Addr} {ox oy : Obj} {od od2 : Option Obj}
theorem own_ne {Q : Value → Shared → Prop} (hu : A.units < cLine) (hu1 : A.in1.units < cLine) (X : K.In s.heap) (I : PySem.W.InstAt s.heap x ox C od) (J : PySem.W.InstAt s.heap y oy C od2) (ow : OwnF K C)
    (hs : PySem.W.findIn K (.ref C) "__eq__" = some (some (.ref f))) (hf : PySem.W.isFn K (.ref f) = true)
    (h : wpAny (model prog w) A.in1 (call (.ref f) [.ref x, .ref y]) (fun v t => ∃ b, v = .bool b ∧ Q (.bool (!b)) t) E s) : wpAny (model prog w) A (richCompare .NotEq (.ref x) (.ref y)) Q E s := by
  have b1 : wpAny (model prog w) A.in1 (Builtin.«object.__ne__» ⟨[.ref x, .ref y], []⟩) (fun fin t => ∃ v, fin = .done (.ret v) ∧ v ≠ .notImplemented ∧ Q v t) E s := by
    show wpAny _ _ (Builtin.«object.__ne__» _) _ _ _
    unfold Builtin.«object.__ne__»
    apply wpAny_bind (m := slotArgs "__ne__" 1 _)
    apply wpAny_pure
    apply wpAny_bind (m := cRoomFor _ _)
    apply wpAny_cRoomFor hu1
    apply wpAny_bind (m := callSpecialIfBound? (.ref x) (Str.ofString "__eq__") _)
    refine PySem.W.ifBound_K X I hs hf (wpAny_mono h (fun v t ⟨b, e, q⟩ => ?_) fun _ _ e => e)
    subst e
    apply wpAny_bind (m := truthy (.bool _))
    apply wpAny_truthy_bool
    exact wpAny_pure ⟨_, rfl, (fun z => nomatch z), q⟩
  have b2 : wpAny (model prog w) A (call (.builtin "object.__ne__") [.ref x, .ref y]) (fun v t => v ≠ .notImplemented ∧ Q v t) E s := by
    refine wpAny_call (codeAny_call_builtin PySem.F.slot_object_ne.plain PySem.F.entry_object_ne (PySem.W.check_slot (i := "object.__ne__") (owner := "object") (n := "__ne__") (by decide +kernel) (by decide +kernel) (I.type.andThen (PySem.W.looks_mroIn X ow.hm)) (PySem.F.args_object_ne_2 _ _) ?_))
    exact wpAny_mono b1 (fun fin t ⟨v, e, q⟩ => by subst e; exact q) fun _ _ e => e
  have sp : PySem.W.Looks (model prog w) s.heap (specialOf (.ref x) "__ne__") (some (.builtin "object.__ne__")) := I.type.andThen (PySem.W.looks_findIn X ow.ne)
  have t1 : wpAny (model prog w) A (tryCompare (.ref x) "__ne__" (.ref y)) (fun r t => ∃ v, r = some v ∧ Q v t) E s := by
    unfold tryCompare
    apply wpAny_bind
    refine NtL.csib sp (PySem.F.slot_object_ne.bind _) (wpAny_mono b2 (fun v t ⟨n, q⟩ => ?_) fun _ _ e => e)
    cases v <;> first | exact absurd rfl n | exact wpAny_pure ⟨_, rfl, q⟩
  unfold richCompare
  simp only [oneThing_ref]
  apply wpAny_holding
  apply wpAny_bind
  apply wpAny_cRoomFor hu
  apply wpAny_bind
  refine I.type.here ?_
  apply wpAny_bind
  refine J.type.here ?_
  simp only [bne_self_eq_false, Bool.false_eq_true, if_false]
  apply wpAny_bind
  apply wpAny_pure
  simp only [Bool.false_eq_true, if_false]
  apply wpAny_bind
  exact wpAny_mono t1 (fun r t ⟨v, e, q⟩ => by subst e; exact wpAny_pure q) fun _ _ e => e
end
section
variable {X : Cx} {Cc f : Addr} {n : Nat} {fd : FuncData} {ps : List Str} {sp : Sp} {a b : Expr} {ta tb : TE} {pos : Pos}
/-- a def of the class, run where it stands -/
theorem run_at {A' : Around} {pins : List (Addr × Obj)} {s : Shared} {σ : St} {H : Hp} {vs : List V} {us : List Value} {Q : VK} (F : FnOk X.prog X.w X.K X.mg X.base CX0 n f fd ps sp) (hb : Binds X.K fd ps []) (hr : Room n A') (e0 : Env0 X.prog X.w X.K X.mg X.base A' X.stack s H) (I : Inv X pins σ H s) (r : Vals vs us) (hsp : sp vs H Q E0) :
    wpAny (model X.prog X.w) A' (call (.ref f) us) (EP X pins σ Q) X.xe s := by
  have len := F.len vs H Q E0 hsp
  have bd := hb s us I.kIn (by rw [List.append_nil, ← r.length]; exact len)
  rw [List.append_nil] at bd
  apply wpAny_call
  apply codeAny_mono (F.run A' X.stack s H ⟨us, []⟩ us vs _ E0 hr e0 bd r hsp)
  intro o t h
  rcases o with z | fl
  · exact pass0 pins σ H s z t I h
  · cases fl <;> first | exact I.after h | exact False.elim h
theorem env_in1 {A' : Around} {s : Shared} {H : Hp} (e : Env0 X.prog X.w X.K X.mg X.base A' X.stack s H) : Env0 X.prog X.w X.K X.mg X.base A'.in1 X.stack s H := ⟨e.frames, e.mod, e.bs, e.bsz, e.funs, e.frf, e.hok, e.bare⟩
/-- what both own comparisons ask for: two objects of the class, and what its __eq__ does -/
def rOwn (Cc : Addr) (sp : Sp) (g : Bool → Bool) : R2 := fun x y H Q => ∃ p q dx dy fs gs, x = .ref p ∧ y = .ref q ∧ H p = some (.ins Cc dx fs) ∧ H q = some (.ins Cc dy gs) ∧ sp [x, y] H (fun v H' => ∃ b, v = .bl b ∧ Q (.bl (g b)) H') E0
theorem op_neOwn (F : FnOk X.prog X.w X.K X.mg X.base CX0 n f fd ps sp) (hm : Meth X.K Cc "__eq__" f) (ow : OwnF X.K Cc) (hb : Binds X.K fd ps []) (hr : Room (n + 1) X.A) : OpR X (compareOp .NotEq) (rOwn Cc sp not) := by
  rintro pins s σ H x y v u Q I rx ry ⟨p, q, dx, dy, fs, gs, rfl, rfl, hp, hq, hsp⟩
  cases rx
  cases ry
  obtain ⟨mA, J, _⟩ := ins_get I.hok hp
  obtain ⟨od, J, _⟩ := J.look
  obtain ⟨mB, J', _⟩ := ins_get I.hok hq
  obtain ⟨od', J', _⟩ := J'.look
  show wpAny _ _ (richCompare .NotEq _ _) _ _ _
  refine own_ne hr.units0 hr.in1.units0 I.kIn J J' ow hm.at_ hm.fn (wpAny_mono (run_in1 F hb hr.in1 I (vs := [V.ref p, V.ref q]) (.cons rfl (.cons rfl .nil)) hsp) (fun v s' hq => ?_) fun _ _ z => z)
  obtain ⟨v', H', I', rv, b, rfl, q⟩ := hq
  cases rv
  exact ⟨b, rfl, .bl (!b), H', I', rfl, q⟩
theorem op_eqOwn (F : FnOk X.prog X.w X.K X.mg X.base CX0 n f fd ps sp) (hm : Meth X.K Cc "__eq__" f) (hb : Binds X.K fd ps []) (hr : Room n X.A) : OpR X (compareOp .Eq) (rOwn Cc sp _root_.id) := by
  rintro pins s σ H x y v u Q I rx ry ⟨p, q, dx, dy, fs, gs, rfl, rfl, hp, hq, hsp⟩
  cases rx
  cases ry
  obtain ⟨mA, J, _⟩ := ins_get I.hok hp
  obtain ⟨od, J, _⟩ := J.look
  obtain ⟨mB, J', _⟩ := ins_get I.hok hq
  obtain ⟨od', J', _⟩ := J'.look
  obtain ⟨m, hF⟩ := I.fr
  show wpAny _ _ (richCompare .Eq _ _) _ _ _
  refine PySem.W.cmp_K (op := .Eq) (tb := .ref Cc) hr.units0 hF I.ok.mod.kin J J'.type (by simp [PySem.W.notFirst]) hm.at_ hm.fn (wpAny_mono (run_at F hb hr I.env0 I (vs := [V.ref p, V.ref q]) (.cons rfl (.cons rfl .nil)) hsp) (fun v s' hq => ?_) fun _ _ z => z)
  obtain ⟨v', H', I', rv, b, rfl, q⟩ := hq
  cases rv
  exact ⟨.bl b, H', I', rfl, q⟩
end
section
variable {X : Cx} {C : CA} {c : Cs} {a b : Expr} {f g : EF} {pos : Pos} {k : Nat} {fad : Addr} {fd : FuncData} {ps : List Str} {ff : FF}
/-- two objects of a class compared by its own __eq__ -/
def fOwn (kk : Nat) (ff : FF) (h : Bool → Bool) (fo fi : EF) : EF := fun env => (fo env).bind fun p => match p.1 with
  | .val (.obj k fs) => if k = kk then (fi p.2).bind fun q => (match q.1 with
    | .val (.obj k2 gs) => if k2 = kk then (ff [.obj k fs, .obj k2 gs]).bind fun r => (match r.1 with
      | .bl b => some (.val (.bl (h b)), q.2)
      | _ => none) else none
    | _ => none) else none
  | _ => none
theorem own_core {h : Bool → Bool} {kk : Nat} {σ : St} {H : Hp} {Q : VK} (hq : (tE X.K C c (fOwn kk ff h f g)) σ H Q) : tOp (rOwn (C.cls kk) (spF X.K C [] false 2 ff) h) (tE X.K C c f) (tE X.K C c g) σ H Q := by
  obtain ⟨z, F, env, b, env', S, q, kq⟩ := hq
  obtain ⟨⟨b1, e1⟩, h1, q1⟩ := Option.bind_eq_some_iff.mp q
  clear q
  cases b1 with
  | slot _ => cases q1
  | val d =>
    cases d <;> simp only at q1 <;> try (cases q1; done)
    split at q1
    case isFalse => cases q1
    next hk =>
    subst hk
    obtain ⟨⟨b2, e2⟩, h2, q2⟩ := Option.bind_eq_some_iff.mp q1
    clear q1
    cases b2 with
    | slot _ => cases q2
    | val d2 =>
      cases d2 <;> simp only at q2 <;> try (cases q2; done)
      split at q2
      case isFalse => cases q2
      next hk2 =>
      subst hk2
      obtain ⟨⟨r, os⟩, h3, q3⟩ := Option.bind_eq_some_iff.mp q2
      cases r <;> simp only at q3 <;> try (cases q3; done)
      cases q3
      refine ⟨z, F, env, _, e1, S, h1, fun v F1 H1 s1 S1 r1 => ?_⟩
      cases r1 with
      | obj w1 w2 =>
        refine ⟨z, F1, e1, _, _, S1, h2, fun u F2 H2 s2 S2 r2 => ?_⟩
        have r2' := r2
        cases r2 with
        | obj y1 y2 =>
          refine ⟨_, _, _, _, _, _, rfl, rfl, S2.sub _ _ (s2 _ _ w1), S2.sub _ _ y1, ?_⟩
          have rp := RpAll.cons (Rp.mono s2 (.obj w1 w2)) (RpAll.cons r2' .nil)
          have c0 := call0_read (X := X) (C := C) (m := false) (dv := []) (dd := []) (np := 2) (ff := ff) (Q := fun v H' => ∃ b, v = .bl b ∧ Q (.bl (h b)) H') S2.sub rp .nil rfl h3 fun v F' H' ex rv => by
            have rv' : Rp X.K C F' v (.bl _) := rv
            cases rv'
            exact ⟨_, rfl, kq _ F' H' (s1.trans (s2.trans ex.sub)) (S2.ext ex) (.bl _)⟩
          rw [List.append_nil] at c0
          exact c0
theorem de_own {op : CmpOp} {h : Bool → Bool} (kk : Nat) (hop : OpR X (compareOp op) (rOwn (C.cls kk) (spF X.K C [] false 2 ff) h)) (ha : DE X C c a f) (hb : DE X C c b g) (hm : behindInMarks op b = false := by first | exact nomark _ | rfl) : DE X C c (.Compare a [op] [b] pos) (fOwn kk ff h f g) :=
  PE.imp (pe_cmpR hop ha hb hm) fun σ H Q hq => own_core hq
theorem dt_own {op : CmpOp} {h : Bool → Bool} (kk : Nat) (hop : OpR X (compareOp op) (rOwn (C.cls kk) (spF X.K C [] false 2 ff) h)) (ha : DE X C c a f) (hb : DE X C c b g) (hm : behindInMarks op b = false := by first | exact nomark _ | rfl) : DT X C c (.Compare a [op] [b] pos) (fTst (fOwn kk ff h f g)) := by
  refine PT.imp (pt_cmpR hop ha hb hm) fun σ H Q ⟨z, F, env, b, env', S, e, k⟩ => ?_
  have e := fTst_some e
  refine own_core ⟨z, F, env, _, env', S, e, fun v F1 H1 s1 S1 r1 => ?_⟩
  cases r1
  exact ⟨b, rfl, k F1 H1 s1 S1⟩
/-- str(o) -/
theorem call_strO {Cc : Addr} {n : Nat} {sp : Sp} (F : FnOk X.prog X.w X.K X.mg X.base CX0 n fad fd ps sp) (hm : Meth X.K Cc "__str__" fad) (hb : Binds X.K fd ps []) (hr : Room (n + 2) X.A) :
    CallR X (.type "str") (fun xs H Q => ∃ a dx fs, xs = [V.ref a] ∧ H a = some (.ins Cc dx fs) ∧ sp [V.ref a] H (fun v H' => ∃ y, v = .str y ∧ Q (.str y) H') E0) := by
  intro pins s σ H xs us Q I r h
  obtain ⟨a, dx, fs, rfl, ha, hsp⟩ := h
  obtain ⟨u, rfl, ru⟩ := vals1 r
  cases ru
  obtain ⟨mA, J, _⟩ := ins_get I.hok ha
  obtain ⟨od, J, _⟩ := J.look
  refine PySem.W.kso_call (hr.in1.in1.units0) I.kIn J hm.at_ hm.fn (wpAny_mono (run_at F hb hr.in1.in1 (env_in1 (env_in1 I.env0)) I (vs := [V.ref a]) (.cons rfl .nil) hsp) (fun v s' hq => ?_) fun _ _ z => z)
  obtain ⟨v', H', I', rv, y, rfl, q⟩ := hq
  obtain ⟨t, rfl⟩ := rv
  exact ⟨.str y, H', I', ⟨_, rfl⟩, q⟩
def strO (kk : Nat) (ff : FF) : List D → Option D
  | [.obj k fs] => if k = kk then (ff [.obj k fs]).bind fun r => (match r.1 with
    | .str y => some (.str y)
    | _ => none) else none
  | _ => none
end
section
variable {X : Cx} {C : CA} {c : Cs} {e o : Expr} {f : EF} {pos p : Pos} {k : Nat} {fad : Addr} {fd : FuncData} {ps : List Str} {ff : FF}
def fStrO (kk : Nat) (ff : FF) (f : EF) : EF := fun env => (f env).bind fun q => match q.1 with
  | .val (.obj k fs) => if k = kk then (ff [.obj k fs]).bind fun r => (match r.1 with
    | .str y => some (.val (.str y), q.2)
    | _ => none) else none
  | _ => none
theorem de_strO (kk : Nat) (he : DE X C c e f) (hmt : Meth X.K (C.cls kk) "__str__" fad) (Fk : FnOk X.prog X.w X.K X.mg X.base CX0 k fad fd ps (spF X.K C [] false 1 ff)) (hr : Room (k + 2) X.A) (hb : Binds X.K fd ps []) (hm : X.mg "str" = none) (hg : Gl X "str" := by rfl)
    (hs : starEach (e :: []) X.env = (false, eval e X.env) :: starEach [] X.env := by rfl) : DE X C c (.Call (.Name "str" p) [e] [] pos) (fStrO kk ff f) := by
  refine PE.imp (pe_callTy (call_strO Fk hmt hb hr) hg hm (by decide +kernel) (pa_cons he pa_nil hs) (by decide) (by decide) hs rfl) fun σ H Q ⟨z, F, env, b, env', S, q, kq⟩ => ?_
  obtain ⟨⟨b1, e1⟩, h1, q1⟩ := Option.bind_eq_some_iff.mp q
  clear q
  cases b1 with
  | slot _ => cases q1
  | val d =>
    cases d <;> simp only at q1 <;> try (cases q1; done)
    split at q1
    case isFalse => cases q1
    next hk =>
    subst hk
    obtain ⟨⟨r, os⟩, h3, q3⟩ := Option.bind_eq_some_iff.mp q1
    cases r <;> simp only at q3 <;> try (cases q3; done)
    cases q3
    refine ⟨z, F, env, _, _, S, h1, fun v F1 H1 s1 S1 r1 => ?_⟩
    have r1' := r1
    cases r1 with
    | obj w1 w2 =>
      refine ⟨_, _, _, rfl, S1.sub _ _ w1, ?_⟩
      exact call0_read (m := false) (dv := []) (dd := []) S1.sub (.cons r1' .nil) .nil rfl (by simpa using h3) fun v F' H' ex rv => by
        have rv' : Rp X.K C F' v (.str _) := rv
        cases rv'
        exact ⟨_, rfl, kq _ F' H' (s1.trans ex.sub) (S1.ext ex) (.str _)⟩
theorem q_strO {kk : Nat} {fs : List (Str × D)} {y : Str} {os : List D} {env e1 : Env} (h1 : f env = some (.val (.obj kk fs), e1)) (h2 : ff [.obj kk fs] = some (.str y, os)) : fStrO kk ff f env = some (.val (.str y), e1) := by
  unfold fStrO
  rw [h1]
  simp only [Option.bind_some, if_true]
  rw [h2]
  rfl
theorem q_own {g : EF} {kk : Nat} {h : Bool → Bool} {fs gs : List (Str × D)} {b : Bool} {os : List D} {env e1 e2 : Env} (h1 : f env = some (.val (.obj kk fs), e1)) (h2 : g e1 = some (.val (.obj kk gs), e2)) (h3 : ff [.obj kk fs, .obj kk gs] = some (.bl b, os)) : fOwn kk ff h f g env = some (.val (.bl (h b)), e2) := by
  unfold fOwn
  rw [h1]
  simp only [Option.bind_some, if_true]
  rw [h2]
  simp only [Option.bind_some, if_true]
  rw [h3]
  rfl
/-- a text, a tuple, a whole number: no object of an own class -/
def othB : D → Bool
  | .str _ => true
  | .tup _ => true
  | .int _ => true
  | _ => false
theorem oth_inst {d : D} (h : othB d = true) : ∃ b, instB "dict" d = some b := by
  cases d <;> first | exact ⟨_, rfl⟩ | cases h
theorem oth_kit {K : PySem.W.Frag} {c : Addr} {d : D} (ow : OwnF K c) (h : othB d = true) : PySem.W.kitOne K (.type (tyN d)) (.ref c) = some false := by
  cases d <;> first | exact ow.kS | exact ow.kT | exact ow.kI | cases h
theorem oth_sub {K : PySem.W.Frag} {c : Addr} {d : D} (ow : OwnF K c) (h : othB d = true) : PySem.W.notFirst K c (.type (tyN d)) = true := by
  cases d <;> first | exact ow.nS | exact ow.nT | exact ow.nI | cases h
/-- isinstance(x, an own class) -/
def isOB (kk : Nat) (d : D) : Option Bool := match d with
  | .obj k _ => if k = kk then some true else none
  | d => if othB d = true then some false else none
def fIsO (kk : Nat) (f : EF) : EF := fun env => (f env).bind fun q => match q.1 with
  | .val d => (isOB kk d).bind fun b => some (.val (.bl b), q.2)
  | _ => none
theorem de_isO {x : Str} {q1 : Pos} (kk : Nat) (he : DE X C c e f) (cl : Cls X.K (C.cls kk)) (ow : OwnF X.K (C.cls kk)) (hx : X.mg x = some (.ref (C.cls kk))) (hm : X.mg "isinstance" = none) (hg : Gl X "isinstance" := by rfl) (hgx : Gl X x := by rfl) (hdx : (x == ("__debug__" : Str)) = false := by decide)
    (hs1 : starEach (e :: [.Name x q1]) X.env = (false, eval e X.env) :: starEach [.Name x q1] X.env := by rfl) (hs2 : starEach (.Name x q1 :: []) X.env = (false, eval (.Name x q1) X.env) :: starEach [] X.env := by rfl) (hpl : (backTo pos (starEach [.Name x q1] X.env)).any (·.1) = false := by rfl) :
    DE X C c (.Call (.Name "isinstance" p) [e, .Name x q1] [] pos) (fIsO kk f) := by
  refine PE.imp (pe_callB ((C8.call_isC ⟨cl, ow.ha, ow.hn, ow.htk, ow.hm, ow.me⟩).or call_isi) hg hm (by decide +kernel) (pa_cons he (pa_cons (pe_glob (v := .ref (C.cls kk)) hgx hx rfl hdx) pa_nil hs2) hs1) (by decide) (by decide) hs1 hpl) fun σ H Q ⟨z, F, env, b, env', S, q, kq⟩ => ?_
  obtain ⟨⟨b1, e1⟩, h1, q1⟩ := Option.bind_eq_some_iff.mp q
  clear q
  refine ⟨z, F, env, b1, e1, S, h1, fun v F1 H1 s1 S1 r1 => ?_⟩
  cases b1 with
  | slot _ => cases q1
  | val d =>
    obtain ⟨bb, hb, q2⟩ := Option.bind_eq_some_iff.mp q1
    cases q2
    unfold isOB at hb
    split at hb
    · split at hb
      · next hk =>
        subst hk
        cases hb
        cases r1 with
        | obj w1 w2 => exact .inl ⟨_, _, _, rfl, S1.sub _ _ w1, kq _ F1 H1 s1 S1 (.bl true)⟩
      · cases hb
    · split at hb
      · next ho =>
        cases hb
        obtain ⟨b2, h2⟩ := oth_inst ho
        exact .inr ⟨v, .ref (C.cls kk), _, _, false, rfl, .own _, (show Rb X.K C F1 H1 v d from .inl r1).ty S1.sub h2, oth_kit ow ho, kq _ F1 H1 s1 S1 (.bl false)⟩
      · cases hb
theorem q_isO {kk : Nat} {fs : List (Str × D)} {env e1 : Env} (h1 : f env = some (.val (.obj kk fs), e1)) : fIsO kk f env = some (.val (.bl true), e1) := by
  unfold fIsO isOB
  rw [h1]
  simp only [Option.bind_some, if_true]
theorem q_isN {kk : Nat} {d : D} {env e1 : Env} (h1 : f env = some (.val d, e1)) (h2 : isOB kk d = some false) : fIsO kk f env = some (.val (.bl false), e1) := by
  unfold fIsO
  rw [h1]
  simp only [Option.bind_some]
  rw [h2]
  rfl
/-- o == x by the class's own __eq__, x no object -/
theorem op_eqAny {Cc : Addr} {n : Nat} {sp : Sp} (F : FnOk X.prog X.w X.K X.mg X.base CX0 n fad fd ps sp) (hm : Meth X.K Cc "__eq__" fad) (hb : Binds X.K fd ps []) (hr : Room n X.A) : OpR X (compareOp .Eq) (fun x y H Q => ∃ p dx fs t, x = .ref p ∧ H p = some (.ins Cc dx fs) ∧ TyX X.K H y t ∧ PySem.W.notFirst X.K Cc t = true ∧ sp [x, y] H (fun v H' => ∃ b, v = .bl b ∧ Q (.bl b) H') E0) := by
  rintro pins s σ H x y v u Q I rx ry ⟨p, dx, fs, t, rfl, hp, ty, nf, hsp⟩
  cases rx
  obtain ⟨mA, J, _⟩ := ins_get I.hok hp
  obtain ⟨od, J, _⟩ := J.look
  obtain ⟨m, hF⟩ := I.fr
  obtain ⟨P, kx, hP, _⟩ := kit_of I ry ty
  show wpAny _ _ (richCompare .Eq _ _) _ _ _
  refine PySem.W.cmp_K (op := .Eq) (tb := t) hr.units0 hF I.ok.mod.kin J (kx.ty _ _ I.kIn hP) nf hm.at_ hm.fn (wpAny_mono (run_at F hb hr I.env0 I (vs := [V.ref p, y]) (.cons rfl (.cons ry .nil)) hsp) (fun v s' hq => ?_) fun _ _ z => z)
  obtain ⟨v', H', I', rv, b, rfl, q⟩ := hq
  cases rv
  exact ⟨.bl b, H', I', rfl, q⟩
def fEqN (kk : Nat) (ff : FF) (fo fi : EF) : EF := fun env => (fo env).bind fun p => match p.1 with
  | .val (.obj k fs) => if k = kk then (fi p.2).bind fun q => (match q.1 with
    | .val d => if othB d = true then (ff [.obj k fs, d]).bind fun r => (match r.1 with
      | .bl b => some (.val (.bl b), q.2)
      | _ => none) else none
    | _ => none) else none
  | _ => none
theorem eqn_core {g : EF} {kk : Nat} {σ : St} {H : Hp} {Q : VK} (ow : OwnF X.K (C.cls kk)) (hq : (tE X.K C c (fEqN kk ff f g)) σ H Q) : tOp (fun x y H Q => ∃ p dx fs t, x = .ref p ∧ H p = some (.ins (C.cls kk) dx fs) ∧ TyX X.K H y t ∧ PySem.W.notFirst X.K (C.cls kk) t = true ∧ spF X.K C [] false 2 ff [x, y] H (fun v H' => ∃ b, v = .bl b ∧ Q (.bl b) H') E0) (tE X.K C c f) (tE X.K C c g) σ H Q := by
  obtain ⟨z, F, env, b, env', S, q, kq⟩ := hq
  obtain ⟨⟨b1, e1⟩, h1, q1⟩ := Option.bind_eq_some_iff.mp q
  clear q
  cases b1 with
  | slot _ => cases q1
  | val d =>
    cases d <;> simp only at q1 <;> try (cases q1; done)
    split at q1
    case isFalse => cases q1
    next hk =>
    subst hk
    obtain ⟨⟨b2, e2⟩, h2, q2⟩ := Option.bind_eq_some_iff.mp q1
    clear q1
    cases b2 with
    | slot _ => cases q2
    | val d2 =>
      simp only at q2
      split at q2
      case isFalse => cases q2
      next ho =>
      obtain ⟨⟨r, os⟩, h3, q3⟩ := Option.bind_eq_some_iff.mp q2
      cases r <;> simp only at q3 <;> try (cases q3; done)
      cases q3
      refine ⟨z, F, env, _, e1, S, h1, fun v F1 H1 s1 S1 r1 => ?_⟩
      cases r1 with
      | obj w1 w2 =>
        refine ⟨z, F1, e1, _, _, S1, h2, fun u F2 H2 s2 S2 r2 => ?_⟩
        obtain ⟨bb, hbb⟩ := oth_inst ho
        refine ⟨_, _, _, _, rfl, S2.sub _ _ (s2 _ _ w1), (show Rb X.K C F2 H2 u d2 from .inl r2).ty S2.sub hbb, oth_sub ow ho, ?_⟩
        have rp := RpAll.cons (Rp.mono s2 (.obj w1 w2)) (RpAll.cons r2 .nil)
        have c0 := call0_read (X := X) (C := C) (m := false) (dv := []) (dd := []) (np := 2) (ff := ff) (Q := fun v H' => ∃ b, v = .bl b ∧ Q (.bl b) H') S2.sub rp .nil rfl h3 fun v F' H' ex rv => by
          have rv' : Rp X.K C F' v (.bl _) := rv
          cases rv'
          exact ⟨_, rfl, kq _ F' H' (s1.trans (s2.trans ex.sub)) (S2.ext ex) (.bl _)⟩
        rw [List.append_nil] at c0
        exact c0
theorem de_eqN {a b : Expr} {g : EF} (kk : Nat) (ow : OwnF X.K (C.cls kk)) (Fk : FnOk X.prog X.w X.K X.mg X.base CX0 k fad fd ps (spF X.K C [] false 2 ff)) (hmt : Meth X.K (C.cls kk) "__eq__" fad) (hbd : Binds X.K fd ps []) (hr : Room k X.A) (ha : DE X C c a f) (hb : DE X C c b g) (hm : behindInMarks .Eq b = false := by first | exact nomark _ | rfl) : DE X C c (.Compare a [.Eq] [b] pos) (fEqN kk ff f g) :=
  PE.imp (pe_cmpR (op_eqAny Fk hmt hbd hr) ha hb hm) fun σ H Q hq => eqn_core ow hq
theorem dt_eqN {a b : Expr} {g : EF} (kk : Nat) (ow : OwnF X.K (C.cls kk)) (Fk : FnOk X.prog X.w X.K X.mg X.base CX0 k fad fd ps (spF X.K C [] false 2 ff)) (hmt : Meth X.K (C.cls kk) "__eq__" fad) (hbd : Binds X.K fd ps []) (hr : Room k X.A) (ha : DE X C c a f) (hb : DE X C c b g) (hm : behindInMarks .Eq b = false := by first | exact nomark _ | rfl) : DT X C c (.Compare a [.Eq] [b] pos) (fTst (fEqN kk ff f g)) := by
  refine PT.imp (pt_cmpR (op_eqAny Fk hmt hbd hr) ha hb hm) fun σ H Q ⟨z, F, env, b, env', S, e, kq⟩ => ?_
  have e := fTst_some e
  refine eqn_core ow ⟨z, F, env, _, env', S, e, fun v F1 H1 s1 S1 r1 => ?_⟩
  cases r1
  exact ⟨b, rfl, kq F1 H1 s1 S1⟩
theorem q_eqN {g : EF} {kk : Nat} {fs : List (Str × D)} {d : D} {b : Bool} {os : List D} {env e1 e2 : Env} (h1 : f env = some (.val (.obj kk fs), e1)) (h2 : g e1 = some (.val d, e2)) (ho : othB d = true) (h3 : ff [.obj kk fs, d] = some (.bl b, os)) : fEqN kk ff f g env = some (.val (.bl b), e2) := by
  unfold fEqN
  rw [h1]
  simp only [Option.bind_some, if_true]
  rw [h2]
  simp only [Option.bind_some]
  rw [if_pos ho, h3]
  rfl
/-! ### join -/
def strsOf : D → Option (List Str)
  | .lst xs => strsD xs
  | .tup xs => strsD xs
  | _ => none
def joinD (x : D) (y : D) : Option D := match x with
  | .str a => (strsOf y).bind fun ys => if (ys.map fun z => z.length).sum + ys.length * a.length ≤ 16777216 then some (.str (Txt.join a ys)) else none
  | _ => none
theorem de_join {a : Str} {g : EF} {apos cpos : Pos} {j : Nat} (he : DE X C c e g) (hs : starEach [e] X.env = [(false, eval e X.env)] := by rfl) (hbase : attributeBase (.Constant (.str a) j cpos) "join" X.env (eval (.Constant (.str a) j cpos) X.env) = eval (.Constant (.str a) j cpos) X.env := by rfl) (hline : (apos.endLine == pos.line) = true := by rfl) :
    DE X C c (.Call (.Attribute (.Constant (.str a) j cpos) "join" apos) [e] [] pos) (f2 joinD (fC (.str a)) g) := by
  refine PE.imp (pe_join (de_str (C := C) (c := c)) he hs hbase hline) fun σ H Q ⟨z, F, env, b, env', S, e, k⟩ => ?_
  simp only [f2, Option.bind_eq_some_iff] at e
  obtain ⟨⟨b1, e1⟩, h1, ⟨b2, e2⟩, h2, x, hx, y, hy, d, hd, e⟩ := e
  cases e
  cases h1
  cases hx
  obtain ⟨ys, h3, hd⟩ := Option.bind_eq_some_iff.mp hd
  split at hd
  case isFalse => cases hd
  next hz =>
  cases hd
  refine ⟨z, F, env, .val (.str a), env, S, rfl, fun v F1 H1 s1 S1 r1 => ?_⟩
  cases r1
  refine ⟨⟨a, rfl⟩, z, F1, env, b2, e2, S1, h2, fun w F2 H2 s2 S2 r2 => ?_⟩
  have rb := r2.rb S2 hy
  have fin := k (.str (Txt.join a ys)) F2 H2 (s1.trans s2) S2 (.str _)
  cases y <;> simp only [strsOf] at h3 <;> try (cases h3; done)
  · obtain ⟨p, vs, rfl, q, _, r⟩ := rb.lst S2.sub
    have ev := strsD_rp r h3
    subst ev
    exact ⟨a, p, ys, rfl, rfl, .inl (SqL.of q), hz, fin⟩
  · obtain ⟨p, vs, rfl, q, _, r⟩ := rb.tup S2.sub
    have ev := strsD_rp r h3
    subst ev
    exact ⟨a, p, ys, rfl, rfl, .inr q, hz, fin⟩
end
end DL


namespace LW
open PySem PySem.Spec L2 DL
def top (i : Nat) : Stmt := PySem.Challenge.pw_levelties_k51_what_a_tie_is_worth.main.body.getD i (.Pass ⟨0, 0, 0, 0⟩)
def clsBd : Stmt → List Stmt | .ClassDef _ _ _ b _ _ _ _ _ _ _ => b | _ => []
def topM (i j : Nat) : Stmt := (clsBd (top i)).getD j (.Pass ⟨0, 0, 0, 0⟩)
abbrev FnP (K : PySem.W.Frag) (x q : Str) (st : Stmt) (f : Addr) (fd : FuncData) : Prop := FunD K x q (defArgs st) (defBody st) (defScope st) [] [] f fd
structure Gl (K : PySem.W.Frag) (mg : Str → Option Value) (C : Nat → Addr) (ad : Nat → Addr) (fd : Nat → FuncData) : Prop where
  f_all_lots : FnP K "all_lots" "all_lots" (top 2) (ad 1) (fd 1)
  f_lots_with_first : FnP K "lots_with_first" "lots_with_first" (top 3) (ad 2) (fd 2)
  f_least_cut : FnP K "least_cut" "least_cut" (top 5) (ad 3) (fd 3)
  f_seen : FnP K "seen" "seen" (top 6) (ad 4) (fd 4)
  f_told : FnP K "told" "told" (top 7) (ad 5) (fd 5)
  f_worth : FnP K "worth" "worth" (top 9) (ad 6) (fd 6)
  f_best_ties : FnP K "best_ties" "best_ties" (top 10) (ad 7) (fd 7)
  f_is_integer : FnP K "is_integer" "is_integer" (top 18) (ad 8) (fd 8)
  f_is_number : FnP K "is_number" "is_number" (top 19) (ad 9) (fd 9)
  f_is_sequence : FnP K "is_sequence" "is_sequence" (top 20) (ad 10) (fd 10)
  f_is_pair : FnP K "is_pair" "is_pair" (top 24) (ad 12) (fd 12)
  f_are_ties : FnP K "are_ties" "are_ties" (top 25) (ad 13) (fd 13)
  f_are_joined : FnP K "are_joined" "are_joined" (top 26) (ad 14) (fd 14)
  f_line_of : FnP K "line_of" "line_of" (top 27) (ad 15) (fd 15)
  f_Net___init__ : FunD K "__init__" "Net.__init__" (defArgs (topM 29 0)) (defBody (topM 29 0)) (defScope (topM 29 0)) [(V.ref (ad 1170))] [] (ad 17) (fd 17)
  f_Net_further : FnP K "further" "Net.further" (topM 29 5) (ad 22) (fd 22)
  f_Net_across : FnP K "across" "Net.across" (topM 29 6) (ad 23) (fd 23)
  f_Net___eq__ : FnP K "__eq__" "Net.__eq__" (topM 29 12) (ad 29) (fd 29)
  f_Net___str__ : FnP K "__str__" "Net.__str__" (topM 29 13) (ad 30) (fd 30)
  f__law_box : FnP K "_law_box" "_law_box" (top 31) (ad 31) (fd 31)
  f__law_take : FnP K "_law_take" "_law_take" (top 32) (ad 32) (fd 32)
  f__law_mixed : FnP K "_law_mixed" "_law_mixed" (top 33) (ad 33) (fd 33)
  f__law_net : FnP K "_law_net" "_law_net" (top 34) (ad 34) (fd 34)
  f__law_net_of : FnP K "_law_net_of" "_law_net_of" (top 35) (ad 35) (fd 35)
  f__law_lots : FnP K "_law_lots" "_law_lots" (top 36) (ad 36) (fd 36)
  f__law_across : FnP K "_law_across" "_law_across" (top 37) (ad 37) (fd 37)
  f__law_worth : FnP K "_law_worth" "_law_worth" (top 38) (ad 38) (fd 38)
  f_law : FnP K "law" "law" (top 39) (ad 39) (fd 39)
  g__law_across : mg "_law_across" = some (.ref (ad 37))
  g__law_box : mg "_law_box" = some (.ref (ad 31))
  g__law_lots : mg "_law_lots" = some (.ref (ad 36))
  g__law_mixed : mg "_law_mixed" = some (.ref (ad 33))
  g__law_net : mg "_law_net" = some (.ref (ad 34))
  g__law_net_of : mg "_law_net_of" = some (.ref (ad 35))
  g__law_take : mg "_law_take" = some (.ref (ad 32))
  g__law_worth : mg "_law_worth" = some (.ref (ad 38))
  g_all_lots : mg "all_lots" = some (.ref (ad 1))
  g_are_joined : mg "are_joined" = some (.ref (ad 14))
  g_are_ties : mg "are_ties" = some (.ref (ad 13))
  g_best_ties : mg "best_ties" = some (.ref (ad 7))
  g_is_integer : mg "is_integer" = some (.ref (ad 8))
  g_is_number : mg "is_number" = some (.ref (ad 9))
  g_is_pair : mg "is_pair" = some (.ref (ad 12))
  g_is_sequence : mg "is_sequence" = some (.ref (ad 10))
  g_least_cut : mg "least_cut" = some (.ref (ad 3))
  g_line_of : mg "line_of" = some (.ref (ad 15))
  g_lots_with_first : mg "lots_with_first" = some (.ref (ad 2))
  g_seen : mg "seen" = some (.ref (ad 4))
  g_told : mg "told" = some (.ref (ad 5))
  g_worth : mg "worth" = some (.ref (ad 6))
  fr_abs : mg "abs" = none
  fr_all : mg "all" = none
  fr_bool : mg "bool" = none
  fr_enumerate : mg "enumerate" = none
  fr_int : mg "int" = none
  fr_isinstance : mg "isinstance" = none
  fr_len : mg "len" = none
  fr_list : mg "list" = none
  fr_max : mg "max" = none
  fr_min : mg "min" = none
  fr_range : mg "range" = none
  fr_repr : mg "repr" = none
  fr_sorted : mg "sorted" = none
  fr_str : mg "str" = none
  fr_tuple : mg "tuple" = none
  cl0 : Cls K (C 0)
  na0_posts : NoAttr K (C 0) "posts"
  na0_ties : NoAttr K (C 0) "ties"
  me0___eq__ : Meth K (C 0) "__eq__" (ad 29)
  me0___str__ : Meth K (C 0) "__str__" (ad 30)
  me0_across : Meth K (C 0) "across" (ad 23)
  me0_further : Meth K (C 0) "further" (ad 22)
  dt1170 : ∀ H : Hp, SqT K H (ad 1170) []
  ow0 : OwnF K (C 0)
  mk0 : Mk K (C 0) (ad 17)
  gc0 : mg "Net" = some (.ref (C 0))
section
variable {P : Program} {w : World} {K : PySem.W.Frag} {mg : Str → Option Value} {base : Heap} {C : CA} {ad : Nat → Addr} {fd : Nat → FuncData}
theorem bb_abs : bootBuiltins "abs" = some (.builtin "abs") := by decide +kernel
theorem bb_all : bootBuiltins "all" = some (.builtin "all") := by decide +kernel
theorem bb_bool : bootBuiltins "bool" = some (.type "bool") := by decide +kernel
theorem bb_int : bootBuiltins "int" = some (.type "int") := by decide +kernel
theorem bb_isinstance : bootBuiltins "isinstance" = some (.builtin "isinstance") := by decide +kernel
theorem bb_len : bootBuiltins "len" = some (.builtin "len") := by decide +kernel
theorem bb_list : bootBuiltins "list" = some (.type "list") := by decide +kernel
theorem bb_max : bootBuiltins "max" = some (.builtin "max") := by decide +kernel
theorem bb_min : bootBuiltins "min" = some (.builtin "min") := by decide +kernel
theorem bb_repr : bootBuiltins "repr" = some (.builtin "repr") := by decide +kernel
theorem bb_sorted : bootBuiltins "sorted" = some (.builtin "sorted") := by decide +kernel
theorem bb_str : bootBuiltins "str" = some (.type "str") := by decide +kernel
theorem bb_tuple : bootBuiltins "tuple" = some (.type "tuple") := by decide +kernel
abbrev N__law_box : List Str := ["_law_script", "_law_k", "_law_own", "_law_cell", "_law_seed"]
abbrev c__law_box : Cs := ⟨5, [], [], [], []⟩
def b__law_box : SF := (sQ (sSet 3 (f2 addD (f2 addD (f2 mulD (fC (.int 8803)) (fV 1)) (f2 mulD (fC (.int 104849)) (fV 2))) (fC (.int 97)))) (sQ (sIf (fTst (f2 ltD (fV 1) (fB lenD (aC (fV 0) aN)))) (sSet 3 (fB absD (aC (f2 subSc (fV 0) (fV 1)) aN))) (sIf (fTst (f2 gtD (fB lenD (aC (fV 0) aN)) (fC (.int 0)))) (sSet 3 (f2 addD (fV 3) (f2 mulD (f2 modD (fB intD (aC (fB absD (aC (f2 subSc (fV 0) (f2 modD (fB intD (aC (fV 1) aN)) (fB lenD (aC (fV 0) aN)))) aN)) aN)) (fC (.int 2147483629))) (fC (.int 69829))))) sN)) (sQ (sSet 4 (f2 addD (f2 modD (fB intD (aC (f2 addD (f2 mulD (f2 modD (fB intD (aC (fV 3) aN)) (fC (.int 2147483629))) (fC (.int 48271))) (f2 mulD (fC (.int 40692)) (f2 addD (fV 1) (f2 mulD (fC (.int 11)) (fV 2))))) aN)) (fC (.int 2147483629))) (fC (.int 1)))) (sRO (oLst (aC (f2 subSc (fO (oLst (aC (fC (.int 0)) (aC (fV 3) aN)))) (fB intD (aC (f2 geD (fV 3) (f2 powD (fC (.int 10)) (fC (.int 18)))) aN))) (aC (fV 4) (aC (fC (.int 0)) aN))))))))
def F__law_box : FF := runF c__law_box b__law_box
theorem sc__law_box : FnScope N__law_box ["_law_script", "_law_k", "_law_own"] (defScope (top 31)) := ⟨rfl, rfl, rfl, by decide +kernel, rfl, by decide +kernel, by decide +kernel⟩
theorem nnx__law_box : ∀ env env', b__law_box env ≠ some (.nx env') := by unfold b__law_box; repeat (first | exact nnx_RO | apply nnx_Q)
theorem bi__law_box (G : Gl K mg C.cls ad fd) : Binds K (fd 31) ["_law_script", "_law_k", "_law_own"] [] := G.f__law_box.bindsN fun _ _ _ _ _ _ us hl => match us, hl with | [_, _, _], _ => rfl
theorem ok__law_box (G : Gl K mg C.cls ad fd) : FnOk P w K mg base CX0 1 (ad 31) (fd 31) ["_law_script", "_law_k", "_law_own"] (spF K C [] true 3 F__law_box) :=
  fun_ok (N := N__law_box) (ps := ["_law_script", "_law_k", "_law_own"]) (m := true) c__law_box G.f__law_box sc__law_box b__law_box rfl (by decide) (by decide) (fun _ => nnx__law_box) fun cdv A outer s H E hr => (dss_cons (ds_set 3 sc__law_box.nd (de_op od_add (de_op od_add (de_op od_mulI de_int (de_var 1)) (de_op od_mulI de_int (de_var 2))) de_int)) (dss_cons (ds_if (dt_cmp od_lt (de_var 1) (de_bi cd_len G.fr_len bb_len (da_cons (de_var 0) da_nil))) (dss_one (ds_set 3 sc__law_box.nd (de_bi cd_abs G.fr_abs bb_abs (da_cons (de_ix hr.units (de_var 0) (de_var 1)) da_nil)))) (dss_one (ds_if (dt_cmp od_gt (de_bi cd_len G.fr_len bb_len (da_cons (de_var 0) da_nil)) de_int) (dss_one (ds_set 3 sc__law_box.nd (de_op od_add (de_var 3) (de_op od_mulI (de_op od_mod (de_ty cd_int G.fr_int bb_int (da_cons (de_bi cd_abs G.fr_abs bb_abs (da_cons (de_ix hr.units (de_var 0) (de_op od_mod (de_ty cd_int G.fr_int bb_int (da_cons (de_var 1) da_nil)) (de_bi cd_len G.fr_len bb_len (da_cons (de_var 0) da_nil)))) da_nil)) da_nil)) de_int) de_int)))) dss_nil))) (dss_cons (ds_set 4 sc__law_box.nd (de_op od_add (de_op od_mod (de_ty cd_int G.fr_int bb_int (da_cons (de_op od_add (de_op od_mulI (de_op od_mod (de_ty cd_int G.fr_int bb_int (da_cons (de_var 3) da_nil)) de_int) de_int) (de_op od_mulI de_int (de_op od_add (de_var 1) (de_op od_mulI de_int (de_var 2))))) da_nil)) de_int) de_int)) (dss_one (ds_retO (do_lst (da_cons (de_ix hr.units (DO.de (do_lst (da_cons de_int (da_cons (de_var 3) da_nil)))) (de_ty cd_int G.fr_int bb_int (da_cons (de_cmp od_ge (de_var 3) (de_op od_pow de_int de_int)) da_nil))) (da_cons (de_var 4) (da_cons de_int da_nil)))))))))
abbrev N__law_take : List Str := ["_law_box_here", "_law_many", "_law_raw", "_law_wide", "_law_digit"]
abbrev c__law_take : Cs := ⟨5, [0], [0], [], []⟩
def b__law_take : SF := (sQ (sIf (fTst (f2 gtD (f2 subSc (fS 0) (fC (.int 0))) (fC (.int 0)))) (sQ (sSet 4 (f2 modD (fB intD (aC (f2 subSc (fS 0) (fC (.int 0))) aN)) (fV 1))) (sQ (sSetIx 0 (fC (.int 0)) (f2 fdivD (f2 subSc (fS 0) (fC (.int 0))) (fV 1))) (sR (fV 4)))) sN) (sQ (sSetIx 0 (fC (.int 2)) (f2 addD (f2 subSc (fS 0) (fC (.int 2))) (fC (.int 1)))) (sQ (sSet 2 (f2 modD (fB intD (aC (f2 mulD (f2 addD (f2 subSc (fS 0) (fC (.int 1))) (f2 mulD (fC (.int 104729)) (f2 subSc (fS 0) (fC (.int 2))))) (fC (.int 69829))) aN)) (fC (.int 2147483647)))) (sQ (sSetIx 0 (fC (.int 1)) (f2 addD (f2 modD (fB intD (aC (f2 addD (f2 mulD (fV 2) (fC (.int 48271))) (fC (.int 30103))) aN)) (fC (.int 2147483629))) (fC (.int 1)))) (sQ (sIf (fTst (f2 ltD (fV 1) (f2 powD (fC (.int 2)) (fC (.int 40))))) (sR (f2 modD (fB intD (aC (f2 fdivD (f2 addD (f2 mulD (fV 2) (fC (.int 2147483647))) (f2 subSc (fS 0) (fC (.int 1)))) (fC (.int 8191))) aN)) (fV 1))) sN) (sQ (sSet 3 (f2 mulD (f2 addD (f2 mulD (fV 2) (fC (.int 2147483647))) (f2 subSc (fS 0) (fC (.int 1)))) (f2 powD (fC (.int 2147483629)) (fC (.int 3))))) (sR (f2 modD (fB intD (aC (f2 addD (f2 addD (fV 3) (f2 mulD (f2 powD (f2 subSc (fS 0) (fC (.int 1))) (fC (.int 3))) (fC (.int 8191)))) (fV 2)) aN)) (fV 1)))))))))
def F__law_take : FF := runF c__law_take b__law_take
theorem sc__law_take : FnScope N__law_take ["_law_box_here", "_law_many"] (defScope (top 32)) := ⟨rfl, rfl, rfl, by decide +kernel, rfl, by decide +kernel, by decide +kernel⟩
theorem bi__law_take (G : Gl K mg C.cls ad fd) : Binds K (fd 32) ["_law_box_here", "_law_many"] [] := G.f__law_take.bindsN fun _ _ _ _ _ _ us hl => match us, hl with | [_, _], _ => rfl
theorem ok__law_take (G : Gl K mg C.cls ad fd) : FnOk P w K mg base CX0 1 (ad 32) (fd 32) ["_law_box_here", "_law_many"] (spF K C [0] false 2 F__law_take) :=
  fun_ok (N := N__law_take) (ps := ["_law_box_here", "_law_many"]) (m := false) c__law_take G.f__law_take sc__law_take b__law_take rfl (by decide) (by decide) (fun h => nomatch h) fun cdv A outer s H E hr => (dss_cons (ds_if (dt_cmp od_gt (de_ix hr.units (de_slot 0) de_int) de_int) (dss_cons (ds_set 4 sc__law_take.nd (de_op od_mod (de_ty cd_int G.fr_int bb_int (da_cons (de_ix hr.units (de_slot 0) de_int) da_nil)) (de_var 1))) (dss_cons (ds_setIx 0 hr.units de_int (de_op od_fdiv (de_ix hr.units (de_slot 0) de_int) (de_var 1))) (dss_one (ds_ret (de_var 4))))) dss_nil) (dss_cons (ds_setIx 0 hr.units de_int (de_op od_add (de_ix hr.units (de_slot 0) de_int) de_int)) (dss_cons (ds_set 2 sc__law_take.nd (de_op od_mod (de_ty cd_int G.fr_int bb_int (da_cons (de_op od_mulI (de_op od_add (de_ix hr.units (de_slot 0) de_int) (de_op od_mulI de_int (de_ix hr.units (de_slot 0) de_int))) de_int) da_nil)) de_int)) (dss_cons (ds_setIx 0 hr.units de_int (de_op od_add (de_op od_mod (de_ty cd_int G.fr_int bb_int (da_cons (de_op od_add (de_op od_mulI (de_var 2) de_int) de_int) da_nil)) de_int) de_int)) (dss_cons (ds_if (dt_cmp od_lt (de_var 1) (de_op od_pow de_int de_int)) (dss_one (ds_ret (de_op od_mod (de_ty cd_int G.fr_int bb_int (da_cons (de_op od_fdiv (de_op od_add (de_op od_mulI (de_var 2) de_int) (de_ix hr.units (de_slot 0) de_int)) de_int) da_nil)) (de_var 1)))) dss_nil) (dss_cons (ds_set 3 sc__law_take.nd (de_op od_mulI (de_op od_add (de_op od_mulI (de_var 2) de_int) (de_ix hr.units (de_slot 0) de_int)) (de_op od_pow de_int de_int))) (dss_one (ds_ret (de_op od_mod (de_ty cd_int G.fr_int bb_int (da_cons (de_op od_add (de_op od_add (de_var 3) (de_op od_mulI (de_op od_pow (de_ix hr.units (de_slot 0) de_int) de_int) de_int)) (de_var 2)) da_nil)) (de_var 1))))))))))
abbrev N__law_mixed : List Str := ["_law_box_here", "_law_items", "_law_turn", "_law_left", "_law_found"]
abbrev c__law_mixed : Cs := ⟨5, [0, 3, 4], [0], [], []⟩
def lp__law_mixed_1 : SF := (sX (fMt 4 appD (aC (fMt 3 popAtD (aC (fC1 2 F__law_take (aC (fS 0) (aC (fB lenD (aC (fS 3) aN)) aN))) aN)) aN)))
def tl__law_mixed_1 : SF := (sQ (sFor (iR1 (aC (fB lenD (aC (fS 3) aN)) aN)) (gN 2) lp__law_mixed_1) (sR (fM 4)))
def b__law_mixed : SF := (sQ (sPar 3 4 (oB listX (aC (fV 1) aN)) (oLst aN)) tl__law_mixed_1)
def F__law_mixed : FF := runF c__law_mixed b__law_mixed
theorem sc__law_mixed : FnScope N__law_mixed ["_law_box_here", "_law_items"] (defScope (top 33)) := ⟨rfl, rfl, rfl, by decide +kernel, rfl, by decide +kernel, by decide +kernel⟩
theorem bi__law_mixed (G : Gl K mg C.cls ad fd) : Binds K (fd 33) ["_law_box_here", "_law_items"] [] := G.f__law_mixed.bindsN fun _ _ _ _ _ _ us hl => match us, hl with | [_, _], _ => rfl
theorem ok__law_mixed (G : Gl K mg C.cls ad fd) : FnOk P w K mg base CX0 2 (ad 33) (fd 33) ["_law_box_here", "_law_items"] (spF K C [0] false 2 F__law_mixed) :=
  fun_ok (N := N__law_mixed) (ps := ["_law_box_here", "_law_items"]) (m := false) c__law_mixed G.f__law_mixed sc__law_mixed b__law_mixed rfl (by decide) (by decide) (fun h => nomatch h) fun cdv A outer s H E hr => (dss_cons (ds_par (oi := true) (oj := true) 3 4 sc__law_mixed.nd ⟨by decide, by decide⟩ ⟨by decide, by decide⟩ (DO.dx (do_ty (co_listX rfl) G.fr_list bb_list (da_cons (de_var 1) da_nil))) (DO.dx (do_lst da_nil))) (dss_cons (ds_for PassesOwn.never (di_range1 G.fr_range (da_cons (de_bi cd_len G.fr_len bb_len (da_cons (de_slot 3) da_nil)) da_nil)) (dg_name 2 sc__law_mixed.nd) (dss_one (ds_expr (de_mt 4 md_append PySem.F.slot_list_append PySem.F.type_list_append (da_cons (de_mt 3 md_popAt PySem.F.slot_list_pop PySem.F.type_list_pop (da_cons (de_call1 (ok__law_take G) (hr.mono (by decide)) G.g__law_take G.f__law_take.kp (bi__law_take G) (da_cons (de_slot 0) (da_cons (de_bi cd_len G.fr_len bb_len (da_cons (de_slot 3) da_nil)) da_nil))) da_nil)) da_nil))))) (dss_one (ds_ret (de_move 4)))))
abbrev N__law_net : List Str := ["_law_box_here", "_law_posts", "_law_most", "_law_found", "_law_post", "_law_turn", "_law_pair", "_law_a", "_law_b"]
abbrev c__law_net : Cs := ⟨9, [0, 3], [0], [], []⟩
def lp__law_net_1 : SF := (sQ (sSet 6 (fTup (aC (fC1 2 F__law_take (aC (fS 0) (aC (fV 4) aN))) (aC (fV 4) aN)))) (sX (fMt 3 appD (aC (fIf (fTst (f2 eqD (fC1 2 F__law_take (aC (fS 0) (aC (fC (.int 2)) aN))) (fC (.int 0)))) (fV 6) (fRev (fV 6) (pI (f2 subD (fC (.int 0)) (fC (.int 1)))))) aN))))
def lp__law_net_2 : SF := (sQ (sSet 7 (fC1 2 F__law_take (aC (fS 0) (aC (fV 1) aN)))) (sQ (sSet 8 (f2 modD (fB intD (aC (f2 addD (f2 addD (fV 7) (fC (.int 1))) (fC1 2 F__law_take (aC (fS 0) (aC (f2 subD (fV 1) (fC (.int 1))) aN)))) aN)) (fV 1))) (sX (fMt 3 appD (aC (fTup (aC (fV 7) (aC (fV 8) aN))) aN)))))
def tl__law_net_1 : SF := (sQ (sFor (iR1 (aC (fIf (fTst (f2 gtD (fV 1) (fC (.int 1)))) (fC1 2 F__law_take (aC (fS 0) (aC (f2 addD (fB minD (aC (fB intD (aC (fV 2) aN)) (aC (f2 subD (fC (.int 11)) (fV 1)) aN))) (fC (.int 1))) aN))) (fC (.int 0))) aN)) (gN 5) lp__law_net_2) (sFrz 3 (sR (fTup (aC (fV 1) (aC (fC1 2 F__law_mixed (aC (fS 0) (aC (fV 3) aN))) aN))))))
def tl__law_net_2 : SF := (sQ (sFor (iR2 (aC (fC (.int 1)) (aC (fV 1) aN))) (gN 4) lp__law_net_1) tl__law_net_1)
def b__law_net : SF := (sQ (sSetO 3 (oLst aN)) tl__law_net_2)
def F__law_net : FF := runF c__law_net b__law_net
theorem sc__law_net : FnScope N__law_net ["_law_box_here", "_law_posts", "_law_most"] (defScope (top 34)) := ⟨rfl, rfl, rfl, by decide +kernel, rfl, by decide +kernel, by decide +kernel⟩
theorem bi__law_net (G : Gl K mg C.cls ad fd) : Binds K (fd 34) ["_law_box_here", "_law_posts", "_law_most"] [] := G.f__law_net.bindsN fun _ _ _ _ _ _ us hl => match us, hl with | [_, _, _], _ => rfl
theorem ok__law_net (G : Gl K mg C.cls ad fd) : FnOk P w K mg base CX0 3 (ad 34) (fd 34) ["_law_box_here", "_law_posts", "_law_most"] (spF K C [0] false 3 F__law_net) :=
  fun_ok (N := N__law_net) (ps := ["_law_box_here", "_law_posts", "_law_most"]) (m := false) c__law_net G.f__law_net sc__law_net b__law_net rfl (by decide) (by decide) (fun h => nomatch h) fun cdv A outer s H E hr => (dss_cons (ds_setO 3 sc__law_net.nd (do_lst da_nil)) (dss_cons (ds_for PassesOwn.never (di_range2 G.fr_range (da_cons de_int (da_cons (de_var 1) da_nil))) (dg_name 4 sc__law_net.nd) (dss_cons (ds_set 6 sc__law_net.nd (de_tup (da_cons (de_call1 (ok__law_take G) (hr.mono (by decide)) G.g__law_take G.f__law_take.kp (bi__law_take G) (da_cons (de_slot 0) (da_cons (de_var 4) da_nil))) (da_cons (de_var 4) da_nil)))) (dss_one (ds_expr (de_mt 3 md_append PySem.F.slot_list_append PySem.F.type_list_append (da_cons (de_if (dt_cmp (od_eq hr.units) (de_call1 (ok__law_take G) (hr.mono (by decide)) G.g__law_take G.f__law_take.kp (bi__law_take G) (da_cons (de_slot 0) (da_cons de_int da_nil))) de_int) (de_var 6) (de_rev (de_var 6) (dp_some (de_op od_sub de_int de_int)))) da_nil)))))) (dss_cons (ds_for PassesOwn.never (di_range1 G.fr_range (da_cons (de_if (dt_cmp od_gt (de_var 1) de_int) (de_call1 (ok__law_take G) (hr.mono (by decide)) G.g__law_take G.f__law_take.kp (bi__law_take G) (da_cons (de_slot 0) (da_cons (de_op od_add (de_bi (cd_min rfl) G.fr_min bb_min (da_cons (de_ty cd_int G.fr_int bb_int (da_cons (de_var 2) da_nil)) (da_cons (de_op od_sub de_int (de_var 1)) da_nil))) de_int) da_nil))) de_int) da_nil)) (dg_name 5 sc__law_net.nd) (dss_cons (ds_set 7 sc__law_net.nd (de_call1 (ok__law_take G) (hr.mono (by decide)) G.g__law_take G.f__law_take.kp (bi__law_take G) (da_cons (de_slot 0) (da_cons (de_var 1) da_nil)))) (dss_cons (ds_set 8 sc__law_net.nd (de_op od_mod (de_ty cd_int G.fr_int bb_int (da_cons (de_op od_add (de_op od_add (de_var 7) de_int) (de_call1 (ok__law_take G) (hr.mono (by decide)) G.g__law_take G.f__law_take.kp (bi__law_take G) (da_cons (de_slot 0) (da_cons (de_op od_sub (de_var 1) de_int) da_nil)))) da_nil)) (de_var 1))) (dss_one (ds_expr (de_mt 3 md_append PySem.F.slot_list_append PySem.F.type_list_append (da_cons (de_tup (da_cons (de_var 7) (da_cons (de_var 8) da_nil))) da_nil))))))) (dss_frz 3 (dss_one (ds_ret (de_tup (da_cons (de_var 1) (da_cons (de_call1 (ok__law_mixed G) (hr.mono (by decide)) G.g__law_mixed G.f__law_mixed.kp (bi__law_mixed G) (da_cons (de_slot 0) (da_cons (de_var 3) da_nil))) da_nil)))))))))
abbrev N_is_integer : List Str := ["value"]
abbrev c_is_integer : Cs := ⟨1, [], [], [], []⟩
def b_is_integer : SF := (sR (fAndV (fIs "int" (fV 0)) (fNotV (fIs "bool" (fV 0)))))
def F_is_integer : FF := runF c_is_integer b_is_integer
theorem sc_is_integer : FnScope N_is_integer ["value"] (defScope (top 18)) := ⟨rfl, rfl, rfl, by decide +kernel, rfl, by decide +kernel, by decide +kernel⟩
theorem bi_is_integer (G : Gl K mg C.cls ad fd) : Binds K (fd 8) ["value"] [] := G.f_is_integer.bindsN fun _ _ _ _ _ _ us hl => match us, hl with | [_], _ => rfl
theorem ok_is_integer (G : Gl K mg C.cls ad fd) : FnOk P w K mg base CX0 1 (ad 8) (fd 8) ["value"] (spF K C [] false 1 F_is_integer) :=
  fun_ok (N := N_is_integer) (ps := ["value"]) (m := false) c_is_integer G.f_is_integer sc_is_integer b_is_integer rfl (by decide) (by decide) (fun h => nomatch h) fun cdv A outer s H E hr => (dss_one (ds_ret (de_and (de_isinst "int" (by simp [isTN]) (de_var 0) G.fr_isinstance G.fr_int bb_int) (de_one (de_not (de_isinst "bool" (by simp [isTN]) (de_var 0) G.fr_isinstance G.fr_bool bb_bool))))))
abbrev N_is_sequence : List Str := ["value"]
abbrev c_is_sequence : Cs := ⟨1, [], [], [], []⟩
def b_is_sequence : SF := (sR (fIsLT (fV 0)))
def F_is_sequence : FF := runF c_is_sequence b_is_sequence
theorem sc_is_sequence : FnScope N_is_sequence ["value"] (defScope (top 20)) := ⟨rfl, rfl, rfl, by decide +kernel, rfl, by decide +kernel, by decide +kernel⟩
theorem bi_is_sequence (G : Gl K mg C.cls ad fd) : Binds K (fd 10) ["value"] [] := G.f_is_sequence.bindsN fun _ _ _ _ _ _ us hl => match us, hl with | [_], _ => rfl
theorem ok_is_sequence (G : Gl K mg C.cls ad fd) : FnOk P w K mg base CX0 1 (ad 10) (fd 10) ["value"] (spF K C [] false 1 F_is_sequence) :=
  fun_ok (N := N_is_sequence) (ps := ["value"]) (m := false) c_is_sequence G.f_is_sequence sc_is_sequence b_is_sequence rfl (by decide) (by decide) (fun h => nomatch h) fun cdv A outer s H E hr => (dss_one (ds_ret (de_isLT (de_var 0) G.fr_isinstance G.fr_list G.fr_tuple)))
abbrev N_is_number : List Str := ["value"]
abbrev c_is_number : Cs := ⟨1, [], [], [], []⟩
def b_is_number : SF := (sR (fAndV (fC0 1 F_is_integer [] (aC (fV 0) aN)) (f2 geD (fV 0) (fC (.int 0)))))
def F_is_number : FF := runF c_is_number b_is_number
theorem sc_is_number : FnScope N_is_number ["value"] (defScope (top 19)) := ⟨rfl, rfl, rfl, by decide +kernel, rfl, by decide +kernel, by decide +kernel⟩
theorem bi_is_number (G : Gl K mg C.cls ad fd) : Binds K (fd 9) ["value"] [] := G.f_is_number.bindsN fun _ _ _ _ _ _ us hl => match us, hl with | [_], _ => rfl
theorem ok_is_number (G : Gl K mg C.cls ad fd) : FnOk P w K mg base CX0 2 (ad 9) (fd 9) ["value"] (spF K C [] false 1 F_is_number) :=
  fun_ok (N := N_is_number) (ps := ["value"]) (m := false) c_is_number G.f_is_number sc_is_number b_is_number rfl (by decide) (by decide) (fun h => nomatch h) fun cdv A outer s H E hr => (dss_one (ds_ret (de_and (de_call0 (ok_is_integer G) (hr.mono (by decide)) G.g_is_integer G.f_is_integer.kp (bi_is_integer G) .nil (fun _ => .nil) (da_cons (de_var 0) da_nil)) (de_one (de_cmp od_ge (de_var 0) de_int)))))
abbrev N_is_pair : List Str := ["value", "firsts", "seconds"]
abbrev c_is_pair : Cs := ⟨3, [], [], [], []⟩
def b_is_pair : SF := (sQ (sIf (fOr (fNot (fTst (fIs "tuple" (fV 0)))) (fOr (fTst (f2 neD (fB lenD (aC (fV 0) aN)) (fC (.int 2)))) (fOr (fNot (fTst (fC0 1 F_is_number [] (aC (f2 subSc (fV 0) (fC (.int 0))) aN)))) (fNot (fTst (fC0 1 F_is_number [] (aC (f2 subSc (fV 0) (fC (.int 1))) aN))))))) (sR (fC (.bl false))) sN) (sR (fAndV (f2 ltD (f2 subSc (fV 0) (fC (.int 0))) (fV 1)) (f2 ltD (f2 subSc (fV 0) (fC (.int 1))) (fV 2)))))
def F_is_pair : FF := runF c_is_pair b_is_pair
theorem sc_is_pair : FnScope N_is_pair ["value", "firsts", "seconds"] (defScope (top 24)) := ⟨rfl, rfl, rfl, by decide +kernel, rfl, by decide +kernel, by decide +kernel⟩
theorem bi_is_pair (G : Gl K mg C.cls ad fd) : Binds K (fd 12) ["value", "firsts", "seconds"] [] := G.f_is_pair.bindsN fun _ _ _ _ _ _ us hl => match us, hl with | [_, _, _], _ => rfl
theorem ok_is_pair (G : Gl K mg C.cls ad fd) : FnOk P w K mg base CX0 3 (ad 12) (fd 12) ["value", "firsts", "seconds"] (spF K C [] false 3 F_is_pair) :=
  fun_ok (N := N_is_pair) (ps := ["value", "firsts", "seconds"]) (m := false) c_is_pair G.f_is_pair sc_is_pair b_is_pair rfl (by decide) (by decide) (fun h => nomatch h) fun cdv A outer s H E hr => (dss_cons (ds_if (DW.dt (dw_or (dt_not (dt_val (de_isinst "tuple" (by simp [isTN]) (de_var 0) G.fr_isinstance G.fr_tuple bb_tuple))) (dw_or (dt_cmp (od_ne hr.units) (de_bi cd_len G.fr_len bb_len (da_cons (de_var 0) da_nil)) de_int) (dw_or (dt_not (dt_val (de_call0 (ok_is_number G) (hr.mono (by decide)) G.g_is_number G.f_is_number.kp (bi_is_number G) .nil (fun _ => .nil) (da_cons (de_ix hr.units (de_var 0) de_int) da_nil)))) (dw_or1 (dt_not (dt_val (de_call0 (ok_is_number G) (hr.mono (by decide)) G.g_is_number G.f_is_number.kp (bi_is_number G) .nil (fun _ => .nil) (da_cons (de_ix hr.units (de_var 0) de_int) da_nil))))))))) (dss_one (ds_ret de_bl)) dss_nil) (dss_one (ds_ret (de_and (de_cmp od_lt (de_ix hr.units (de_var 0) de_int) (de_var 1)) (de_one (de_cmp od_lt (de_ix hr.units (de_var 0) de_int) (de_var 2)))))))
abbrev N_are_ties : List Str := ["value", "posts", "tie"]
abbrev c_are_ties : Cs := ⟨3, [], [], [], []⟩
def b_are_ties : SF := (sQ (sIf (fOr (fNot (fTst (fC0 1 F_is_sequence [] (aC (fV 0) aN)))) (fNot (fTst (fB allD (aC (fO (oLc (iX (fV 0)) (gN 2) tYesF (fC0 3 F_is_pair [] (aC (fV 2) (aC (fV 1) (aC (fV 1) aN)))) [2])) aN))))) (sR (fC (.bl false))) sN) (sR (fB allD (aC (fO (oLc (iX (fV 0)) (gN 2) tYesF (f2 neD (f2 subSc (fV 2) (fC (.int 0))) (f2 subSc (fV 2) (fC (.int 1)))) [2])) aN))))
def F_are_ties : FF := runF c_are_ties b_are_ties
theorem sc_are_ties : FnScope N_are_ties ["value", "posts"] (defScope (top 25)) := ⟨rfl, rfl, rfl, by decide +kernel, rfl, by decide +kernel, by decide +kernel⟩
theorem bi_are_ties (G : Gl K mg C.cls ad fd) : Binds K (fd 13) ["value", "posts"] [] := G.f_are_ties.bindsN fun _ _ _ _ _ _ us hl => match us, hl with | [_, _], _ => rfl
theorem ok_are_ties (G : Gl K mg C.cls ad fd) : FnOk P w K mg base CX0 4 (ad 13) (fd 13) ["value", "posts"] (spF K C [] false 2 F_are_ties) :=
  fun_ok (N := N_are_ties) (ps := ["value", "posts"]) (m := false) c_are_ties G.f_are_ties sc_are_ties b_are_ties rfl (by decide) (by decide) (fun h => nomatch h) fun cdv A outer s H E hr => (dss_cons (ds_if (DW.dt (dw_or (dt_not (dt_val (de_call0 (ok_is_sequence G) (hr.mono (by decide)) G.g_is_sequence G.f_is_sequence.kp (bi_is_sequence G) .nil (fun _ => .nil) (da_cons (de_var 0) da_nil)))) (dw_or1 (dt_not (dt_val (de_bi (cd_all rfl) G.fr_all bb_all (da_cons (DO.de (do_lc [("tie", 2)] sc_are_ties.nd (di_seq (de_var 0)) (blkOk_by (by kernel_rfl)) (fun _ _ _ _ _ => (dg_name 2 sc_are_ties.nd)) (fun _ _ _ _ _ => dts_nil) (fun _ _ _ _ _ => (de_call0 (ok_is_pair G) (hr.mono (by decide)) G.g_is_pair G.f_is_pair.kp (bi_is_pair G) .nil (fun _ => .nil) (da_cons (de_var 2) (da_cons (de_var 1) (da_cons (de_var 1) da_nil))))))) da_nil))))))) (dss_one (ds_ret de_bl)) dss_nil) (dss_one (ds_ret (de_bi (cd_all rfl) G.fr_all bb_all (da_cons (DO.de (do_lc [("tie", 2)] sc_are_ties.nd (di_seq (de_var 0)) (blkOk_by (by kernel_rfl)) (fun _ _ _ _ _ => (dg_name 2 sc_are_ties.nd)) (fun _ _ _ _ _ => dts_nil) (fun _ _ _ _ _ => (de_cmp (od_ne hr.units) (de_ix hr.units (de_var 2) de_int) (de_ix hr.units (de_var 2) de_int))))) da_nil)))))
abbrev N_are_joined : List Str := ["posts", "ties", "known", "waiting", "post", "one", "other", "far"]
abbrev c_are_joined : Cs := ⟨8, [2, 3], [], [], []⟩
def lp_are_joined_1 : SF := (sIf (fTst (f2 inD (fV 4) (fTup (aC (fV 5) (aC (fV 6) aN))))) (sQ (sSet 7 (fIf (fTst (f2 eqD (fV 5) (fV 4))) (fV 6) (fV 5))) (sIf (fTst (f2 notInD (fV 7) (fS 2))) (sQ (sSetIx 2 (fV 7) (fC (.bl true))) (sX (fMt 3 appD (aC (fV 7) aN)))) sN)) sN)
def lp_are_joined_2 : SF := (sQ (sSet 4 (fMt 3 popD aN)) (sFor (iX (fV 1)) (gT 2 (gC (gN 5) (gC (gN 6) gN0))) lp_are_joined_1))
def tl_are_joined_1 : SF := (sQ (whD (fTst (f2 gtD (fB lenD (aC (fS 3) aN)) (fC (.int 0)))) lp_are_joined_2 64) (sR (f2 eqD (fB lenD (aC (fS 2) aN)) (fV 0))))
def b_are_joined : SF := (sQ (sPar 2 3 (oDi1 (fC (.int 0)) (fC (.bl true))) (oLst (aC (fC (.int 0)) aN))) tl_are_joined_1)
def F_are_joined : FF := runF c_are_joined b_are_joined
theorem sc_are_joined : FnScope N_are_joined ["posts", "ties"] (defScope (top 26)) := ⟨rfl, rfl, rfl, by decide +kernel, rfl, by decide +kernel, by decide +kernel⟩
theorem bi_are_joined (G : Gl K mg C.cls ad fd) : Binds K (fd 14) ["posts", "ties"] [] := G.f_are_joined.bindsN fun _ _ _ _ _ _ us hl => match us, hl with | [_, _], _ => rfl
theorem ok_are_joined (G : Gl K mg C.cls ad fd) : FnOk P w K mg base CX0 1 (ad 14) (fd 14) ["posts", "ties"] (spF K C [] false 2 F_are_joined) :=
  fun_ok (N := N_are_joined) (ps := ["posts", "ties"]) (m := false) c_are_joined G.f_are_joined sc_are_joined b_are_joined rfl (by decide) (by decide) (fun h => nomatch h) fun cdv A outer s H E hr => (dss_cons (ds_par (oi := true) (oj := true) 2 3 sc_are_joined.nd ⟨by decide, by decide⟩ ⟨by decide, by decide⟩ (DO.dx (do_dict1 hr.units de_int de_bl)) (DO.dx (do_lst (da_cons de_int da_nil)))) (dss_cons (ds_while 64 PassesOwn.never (dt_cmp od_gt (de_bi cd_len G.fr_len bb_len (da_cons (de_slot 3) da_nil)) de_int) (dss_cons (ds_set 4 sc_are_joined.nd (de_mt0 3 md_pop PySem.F.slot_list_pop PySem.F.type_list_pop)) (dss_one (ds_for PassesOwn.never (di_seq (de_var 1)) (dg_tup 2 (dgs_cons (dg_name 5 sc_are_joined.nd) (dgs_cons (dg_name 6 sc_are_joined.nd) dgs_nil))) (dss_one (ds_if (dt_cmp (od_in hr.units) (de_var 4) (de_tup (da_cons (de_var 5) (da_cons (de_var 6) da_nil)))) (dss_cons (ds_set 7 sc_are_joined.nd (de_if (dt_cmp (od_eq hr.units) (de_var 5) (de_var 4)) (de_var 6) (de_var 5))) (dss_one (ds_if (dt_cmp (od_notin hr.units) (de_var 7) (de_slot 2)) (dss_cons (ds_setIx 2 hr.units (de_var 7) de_bl) (dss_one (ds_expr (de_mt 3 md_append PySem.F.slot_list_append PySem.F.type_list_append (da_cons (de_var 7) da_nil))))) dss_nil))) dss_nil)))))) (dss_one (ds_ret (de_cmp (od_eq hr.units) (de_bi cd_len G.fr_len bb_len (da_cons (de_slot 2) da_nil)) (de_var 0))))))
abbrev N_Net___init__ : List Str := ["self", "posts", "ties"]
abbrev c_Net___init__ : Cs := ⟨3, [0], [0], [], []⟩
def b_Net___init__ : SF := (sQ (sIf (fOr (fNot (fTst (fC0 1 F_is_integer [] (aC (fV 1) aN)))) (fTst (f2 ltD (fV 1) (fC (.int 1))))) (fun _ => none) sN) (sQ (sIf (fNot (fTst (fC0 2 F_are_ties [] (aC (fV 2) (aC (fV 1) aN))))) (fun _ => none) sN) (sQ (sIf (fNot (fTst (fC0 2 F_are_joined [] (aC (fV 1) (aC (fV 2) aN))))) (fun _ => none) sN) (sQ (sFldD 0 0 "posts" (fV 1)) (sFldD 0 0 "ties" (fB tupleX (aC (fV 2) aN)))))))
def F_Net___init__ : FF := runF c_Net___init__ b_Net___init__
theorem sc_Net___init__ : FnScope N_Net___init__ ["self", "posts", "ties"] (defScope (topM 29 0)) := ⟨rfl, rfl, rfl, by decide +kernel, rfl, by decide +kernel, by decide +kernel⟩
theorem bd0_Net___init__ (G : Gl K mg C.cls ad fd) : ∃ ds, Vals ([(V.ref (ad 1170))].drop 0) ds ∧ Binds K (fd 17) ["self", "posts", "ties"] ds :=
  FunD.binds1 (ps := ["self", "posts", "ties"]) G.f_Net___init__ 2 0 (by simp) rfl fun T kV doc pm an cdv ct us its hu hi => match us, hu, its, hi with | [_, _], _, [_], _ => ⟨_, rfl, rfl⟩
theorem bi_Net___init__ (G : Gl K mg C.cls ad fd) : Binds K (fd 17) ["self", "posts", "ties"] [] := by
  obtain ⟨ds, h1, h2⟩ := FunD.binds1 (ps := ["self", "posts", "ties"]) G.f_Net___init__ 3 1 (by simp) rfl fun T kV doc pm an cdv ct us its hu hi => match us, hu, its, hi with | [_, _, _], _, [_], _ => ⟨_, rfl, rfl⟩
  cases h1
  exact h2
theorem ok_Net___init__ (G : Gl K mg C.cls ad fd) : FnOk P w K mg base CX0 5 (ad 17) (fd 17) ["self", "posts", "ties"] (spF K C [0] false 3 F_Net___init__) :=
  fun_ok (N := N_Net___init__) (ps := ["self", "posts", "ties"]) (m := false) c_Net___init__ G.f_Net___init__ sc_Net___init__ b_Net___init__ rfl (by decide) (by decide) (fun h => nomatch h) fun cdv A outer s H E hr => (dss_cons (ds_if (DW.dt (dw_or (dt_not (dt_val (de_call0 (ok_is_integer G) (hr.mono (by decide)) G.g_is_integer G.f_is_integer.kp (bi_is_integer G) .nil (fun _ => .nil) (da_cons (de_var 1) da_nil)))) (dw_or1 (dt_cmp od_lt (de_var 1) de_int)))) (dss_one ds_never) dss_nil) (dss_cons (ds_if (dt_not (dt_val (de_call0 (ok_are_ties G) (hr.mono (by decide)) G.g_are_ties G.f_are_ties.kp (bi_are_ties G) .nil (fun _ => .nil) (da_cons (de_var 2) (da_cons (de_var 1) da_nil))))) (dss_one ds_never) dss_nil) (dss_cons (ds_if (dt_not (dt_val (de_call0 (ok_are_joined G) (hr.mono (by decide)) G.g_are_joined G.f_are_joined.kp (bi_are_joined G) .nil (fun _ => .nil) (da_cons (de_var 1) (da_cons (de_var 2) da_nil))))) (dss_one ds_never) dss_nil) (dss_cons (ds_fld 0 0 G.cl0 G.na0_posts (de_var 1)) (dss_one (ds_fld 0 0 G.cl0 G.na0_ties (de_ty (cd_tupleX rfl) G.fr_tuple bb_tuple (da_cons (de_var 2) da_nil))))))))
abbrev N__law_net_of : List Str := ["_law_drawn"]
abbrev c__law_net_of : Cs := ⟨1, [], [], [], []⟩
def b__law_net_of : SF := (sR (fO (oMk 0 3 F_Net___init__ [] (aC (f2 subSc (fV 0) (fC (.int 0))) (aC (f2 subSc (fV 0) (fC (.int 1))) aN)))))
def F__law_net_of : FF := runF c__law_net_of b__law_net_of
theorem sc__law_net_of : FnScope N__law_net_of ["_law_drawn"] (defScope (top 35)) := ⟨rfl, rfl, rfl, by decide +kernel, rfl, by decide +kernel, by decide +kernel⟩
theorem bi__law_net_of (G : Gl K mg C.cls ad fd) : Binds K (fd 35) ["_law_drawn"] [] := G.f__law_net_of.bindsN fun _ _ _ _ _ _ us hl => match us, hl with | [_], _ => rfl
theorem ok__law_net_of (G : Gl K mg C.cls ad fd) : FnOk P w K mg base CX0 7 (ad 35) (fd 35) ["_law_drawn"] (spF K C [] false 1 F__law_net_of) :=
  fun_ok (N := N__law_net_of) (ps := ["_law_drawn"]) (m := false) c__law_net_of G.f__law_net_of sc__law_net_of b__law_net_of rfl (by decide) (by decide) (fun h => nomatch h) fun cdv A outer s H E hr => (dss_one (ds_ret (DO.de (do_make 0 G.mk0 (ok_Net___init__ G) (hr.mono (by decide)) G.gc0 (bi_Net___init__ G) .nil (fun _ => .nil) (da_cons (de_ix hr.units (de_var 0) de_int) (da_cons (de_ix hr.units (de_var 0) de_int) da_nil))))))
abbrev N__law_lots : List Str := ["_law_posts", "_law_found", "_law_post", "_law_lot"]
abbrev c__law_lots : Cs := ⟨4, [], [], [], []⟩
def lp__law_lots_1 : SF := (sSet 1 (f2 addD (fV 1) (fO (oLc (iX (fV 1)) (gN 3) tYesF (f2 addDT (fV 3) (fTup (aC (fV 2) aN))) [3]))))
def tl__law_lots_1 : SF := (sQ (sFor (iR2 (aC (fC (.int 1)) (aC (fV 0) aN))) (gN 2) lp__law_lots_1) (sR (fO (oB sortedD (aC (fO (oLc (iX (fV 1)) (gN 3) (fTst (f2 ltD (fB lenD (aC (fV 3) aN)) (fV 0))) (fV 3) [3])) aN)))))
def b__law_lots : SF := (sQ (sSet 1 (fO (oLst (aC (fTup (aC (fC (.int 0)) aN)) aN)))) tl__law_lots_1)
def F__law_lots : FF := runF c__law_lots b__law_lots
theorem sc__law_lots : FnScope N__law_lots ["_law_posts"] (defScope (top 36)) := ⟨rfl, rfl, rfl, by decide +kernel, rfl, by decide +kernel, by decide +kernel⟩
theorem bi__law_lots (G : Gl K mg C.cls ad fd) : Binds K (fd 36) ["_law_posts"] [] := G.f__law_lots.bindsN fun _ _ _ _ _ _ us hl => match us, hl with | [_], _ => rfl
theorem ok__law_lots (G : Gl K mg C.cls ad fd) : FnOk P w K mg base CX0 1 (ad 36) (fd 36) ["_law_posts"] (spF K C [] false 1 F__law_lots) :=
  fun_ok (N := N__law_lots) (ps := ["_law_posts"]) (m := false) c__law_lots G.f__law_lots sc__law_lots b__law_lots rfl (by decide) (by decide) (fun h => nomatch h) fun cdv A outer s H E hr => (dss_cons (ds_set 1 sc__law_lots.nd (DO.de (do_lst (da_cons (de_tup (da_cons de_int da_nil)) da_nil)))) (dss_cons (ds_for PassesOwn.never (di_range2 G.fr_range (da_cons de_int (da_cons (de_var 0) da_nil))) (dg_name 2 sc__law_lots.nd) (dss_one (ds_set 1 sc__law_lots.nd (de_op od_add (de_var 1) (DO.de (do_lc [("_law_lot", 3)] sc__law_lots.nd (di_seq (de_var 1)) (blkOk_by (by kernel_rfl)) (fun _ _ _ _ _ => (dg_name 3 sc__law_lots.nd)) (fun _ _ _ _ _ => dts_nil) (fun _ _ _ _ _ => (de_op od_addT (de_var 3) (de_tup (da_cons (de_var 2) da_nil)))))))))) (dss_one (ds_ret (DO.de (do_bi (co_sortedD hr.units) G.fr_sorted bb_sorted (da_cons (DO.de (do_lc [("_law_lot", 3)] sc__law_lots.nd (di_seq (de_var 1)) (blkOk_by (by kernel_rfl)) (fun _ _ _ _ _ => (dg_name 3 sc__law_lots.nd)) (fun _ _ _ _ _ => (dts_one (dt_cmp od_lt (de_bi cd_len G.fr_len bb_len (da_cons (de_var 3) da_nil)) (de_var 0)))) (fun _ _ _ _ _ => (de_var 3)))) da_nil)))))))
abbrev N__law_across : List Str := ["_law_drawn", "_law_lot", "_law_at", "_law_a", "_law_b"]
abbrev c__law_across : Cs := ⟨5, [], [], [], []⟩
def b__law_across : SF := (sR (fO (oLc (iEn (f2 subSc (fV 0) (fC (.int 1)))) (gT 2 (gC (gN 2) (gC (gT 2 (gC (gN 3) (gC (gN 4) gN0))) gN0))) (fTst (f2 neD (f2 inD (fV 3) (fV 1)) (f2 inD (fV 4) (fV 1)))) (fV 2) [2, 3, 4])))
def F__law_across : FF := runF c__law_across b__law_across
theorem sc__law_across : FnScope N__law_across ["_law_drawn", "_law_lot"] (defScope (top 37)) := ⟨rfl, rfl, rfl, by decide +kernel, rfl, by decide +kernel, by decide +kernel⟩
theorem bi__law_across (G : Gl K mg C.cls ad fd) : Binds K (fd 37) ["_law_drawn", "_law_lot"] [] := G.f__law_across.bindsN fun _ _ _ _ _ _ us hl => match us, hl with | [_, _], _ => rfl
theorem ok__law_across (G : Gl K mg C.cls ad fd) : FnOk P w K mg base CX0 1 (ad 37) (fd 37) ["_law_drawn", "_law_lot"] (spF K C [] false 2 F__law_across) :=
  fun_ok (N := N__law_across) (ps := ["_law_drawn", "_law_lot"]) (m := false) c__law_across G.f__law_across sc__law_across b__law_across rfl (by decide) (by decide) (fun h => nomatch h) fun cdv A outer s H E hr => (dss_one (ds_ret (DO.de (do_lc [("_law_at", 2), ("_law_a", 3), ("_law_b", 4)] sc__law_across.nd (di_enum G.fr_enumerate (de_ix hr.units (de_var 0) de_int)) (blkOk_by (by kernel_rfl)) (fun _ _ _ _ _ => (dg_tup 2 (dgs_cons (dg_name 2 sc__law_across.nd) (dgs_cons (dg_tup 2 (dgs_cons (dg_name 3 sc__law_across.nd) (dgs_cons (dg_name 4 sc__law_across.nd) dgs_nil))) dgs_nil)))) (fun _ _ _ _ _ => (dts_one (dt_cmp (od_ne hr.units) (de_cmp (od_in hr.units) (de_var 3) (de_var 1)) (de_cmp (od_in hr.units) (de_var 4) (de_var 1))))) (fun _ _ _ _ _ => (de_var 2))))))
abbrev N__law_worth : List Str := ["_law_drawn", "_law_pair", "_law_wide", "_law_few", "_law_lot"]
abbrev c__law_worth : Cs := ⟨5, [], [], [], []⟩
def b__law_worth : SF := (sQ (sSet 2 (fTup (aC (f2 subSc (fV 0) (fC (.int 0))) (aC (f2 addD (f2 subSc (fV 0) (fC (.int 1))) (fO (oLst (aC (fV 1) aN)))) aN)))) (sQ (sSet 3 (fB minD (aC (fO (oLc (iX (fC0 1 F__law_lots [] (aC (f2 subSc (fV 0) (fC (.int 0))) aN))) (gN 4) tYesF (fB lenD (aC (fC0 2 F__law_across [] (aC (fV 2) (aC (fV 4) aN))) aN)) [4])) aN))) (sR (fTup (aC (f2 subD (fV 3) (fC (.int 1))) (aC (f2 fdivD (f2 subD (fV 3) (fC (.int 1))) (fC (.int 2))) aN))))))
def F__law_worth : FF := runF c__law_worth b__law_worth
theorem sc__law_worth : FnScope N__law_worth ["_law_drawn", "_law_pair"] (defScope (top 38)) := ⟨rfl, rfl, rfl, by decide +kernel, rfl, by decide +kernel, by decide +kernel⟩
theorem bi__law_worth (G : Gl K mg C.cls ad fd) : Binds K (fd 38) ["_law_drawn", "_law_pair"] [] := G.f__law_worth.bindsN fun _ _ _ _ _ _ us hl => match us, hl with | [_, _], _ => rfl
theorem ok__law_worth (G : Gl K mg C.cls ad fd) : FnOk P w K mg base CX0 2 (ad 38) (fd 38) ["_law_drawn", "_law_pair"] (spF K C [] false 2 F__law_worth) :=
  fun_ok (N := N__law_worth) (ps := ["_law_drawn", "_law_pair"]) (m := false) c__law_worth G.f__law_worth sc__law_worth b__law_worth rfl (by decide) (by decide) (fun h => nomatch h) fun cdv A outer s H E hr => (dss_cons (ds_set 2 sc__law_worth.nd (de_tup (da_cons (de_ix hr.units (de_var 0) de_int) (da_cons (de_op od_add (de_ix hr.units (de_var 0) de_int) (DO.de (do_lst (da_cons (de_var 1) da_nil)))) da_nil)))) (dss_cons (ds_set 3 sc__law_worth.nd (de_bi (cd_min rfl) G.fr_min bb_min (da_cons (DO.de (do_lc [("_law_lot", 4)] sc__law_worth.nd (di_seq (de_call0 (ok__law_lots G) (hr.mono (by decide)) G.g__law_lots G.f__law_lots.kp (bi__law_lots G) .nil (fun _ => .nil) (da_cons (de_ix hr.units (de_var 0) de_int) da_nil))) (blkOk_by (by kernel_rfl)) (fun _ _ _ _ _ => (dg_name 4 sc__law_worth.nd)) (fun _ _ _ _ _ => dts_nil) (fun _ _ _ _ _ => (de_bi cd_len G.fr_len bb_len (da_cons (de_call0 (ok__law_across G) (hr.mono (by decide)) G.g__law_across G.f__law_across.kp (bi__law_across G) .nil (fun _ => .nil) (da_cons (de_var 2) (da_cons (de_var 4) da_nil))) da_nil))))) da_nil))) (dss_one (ds_ret (de_tup (da_cons (de_op od_sub (de_var 3) de_int) (da_cons (de_op od_fdiv (de_op od_sub (de_var 3) de_int) de_int) da_nil)))))))
abbrev N_Net_further : List Str := ["self", "ties"]
abbrev c_Net_further : Cs := ⟨2, [], [], [], []⟩
def b_Net_further : SF := (sQ (sIf (fNot (fTst (fC0 2 F_are_ties [] (aC (fV 1) (aC (fAt 0 "posts" (fV 0)) aN))))) (fun _ => none) sN) (sR (fO (oMk 0 3 F_Net___init__ [] (aC (fAt 0 "posts" (fV 0)) (aC (fO (oLst (aS (fAt 0 "ties" (fV 0)) (aS (fV 1) aN)))) aN))))))
def F_Net_further : FF := runF c_Net_further b_Net_further
theorem sc_Net_further : FnScope N_Net_further ["self", "ties"] (defScope (topM 29 5)) := ⟨rfl, rfl, rfl, by decide +kernel, rfl, by decide +kernel, by decide +kernel⟩
theorem bi_Net_further (G : Gl K mg C.cls ad fd) : Binds K (fd 22) ["self", "ties"] [] := G.f_Net_further.bindsN fun _ _ _ _ _ _ us hl => match us, hl with | [_, _], _ => rfl
theorem ok_Net_further (G : Gl K mg C.cls ad fd) : FnOk P w K mg base CX0 7 (ad 22) (fd 22) ["self", "ties"] (spF K C [] false 2 F_Net_further) :=
  fun_ok (N := N_Net_further) (ps := ["self", "ties"]) (m := false) c_Net_further G.f_Net_further sc_Net_further b_Net_further rfl (by decide) (by decide) (fun h => nomatch h) fun cdv A outer s H E hr => (dss_cons (ds_if (dt_not (dt_val (de_call0 (ok_are_ties G) (hr.mono (by decide)) G.g_are_ties G.f_are_ties.kp (bi_are_ties G) .nil (fun _ => .nil) (da_cons (de_var 1) (da_cons (de_attr 0 (de_var 0) G.cl0 G.na0_posts) da_nil))))) (dss_one ds_never) dss_nil) (dss_one (ds_ret (DO.de (do_make 0 G.mk0 (ok_Net___init__ G) (hr.mono (by decide)) G.gc0 (bi_Net___init__ G) .nil (fun _ => .nil) (da_cons (de_attr 0 (de_var 0) G.cl0 G.na0_posts) (da_cons (DO.de (do_lst (da_star (de_attr 0 (de_var 0) G.cl0 G.na0_ties) (da_star (de_var 1) da_nil)))) da_nil)))))))
abbrev N_all_lots : List Str := ["n", "found", "bits", "lot", "post"]
abbrev c_all_lots : Cs := ⟨5, [1], [], [], []⟩
def lp_all_lots_1 : SF := (sX (fMt 1 appD (aC (fO (oLc (iR1 (aC (fV 0) aN)) (gN 4) (fTst (f2 eqD (f2 andD (f2 shrD (fV 2) (fV 4)) (fC (.int 1))) (fC (.int 1)))) (fV 4) [4])) aN)))
def tl_all_lots_1 : SF := (sQ (sFor (iR2 (aC (fC (.int 1)) (aC (f2 subD (f2 shlD (fC (.int 1)) (fV 0)) (fC (.int 1))) aN))) (gN 2) lp_all_lots_1) (sR (fO (oLc (iX (fO (oB sortedD (aC (fS 1) aN)))) (gN 3) tYesF (fB tupleX (aC (fV 3) aN)) [3]))))
def b_all_lots : SF := (sQ (sSetO 1 (oLst aN)) tl_all_lots_1)
def F_all_lots : FF := runF c_all_lots b_all_lots
theorem sc_all_lots : FnScope N_all_lots ["n"] (defScope (top 2)) := ⟨rfl, rfl, rfl, by decide +kernel, rfl, by decide +kernel, by decide +kernel⟩
theorem bi_all_lots (G : Gl K mg C.cls ad fd) : Binds K (fd 1) ["n"] [] := G.f_all_lots.bindsN fun _ _ _ _ _ _ us hl => match us, hl with | [_], _ => rfl
theorem ok_all_lots (G : Gl K mg C.cls ad fd) : FnOk P w K mg base CX0 1 (ad 1) (fd 1) ["n"] (spF K C [] false 1 F_all_lots) :=
  fun_ok (N := N_all_lots) (ps := ["n"]) (m := false) c_all_lots G.f_all_lots sc_all_lots b_all_lots rfl (by decide) (by decide) (fun h => nomatch h) fun cdv A outer s H E hr => (dss_cons (ds_setO 1 sc_all_lots.nd (do_lst da_nil)) (dss_cons (ds_for PassesOwn.never (di_range2 G.fr_range (da_cons de_int (da_cons (de_op od_sub (de_op od_shl de_int (de_var 0)) de_int) da_nil))) (dg_name 2 sc_all_lots.nd) (dss_one (ds_expr (de_mt 1 md_append PySem.F.slot_list_append PySem.F.type_list_append (da_cons (DO.de (do_lc [("post", 4)] sc_all_lots.nd (di_range1 G.fr_range (da_cons (de_var 0) da_nil)) (blkOk_by (by kernel_rfl)) (fun _ _ _ _ _ => (dg_name 4 sc_all_lots.nd)) (fun _ _ _ _ _ => (dts_one (dt_cmp (od_eq hr.units) (de_op od_and (de_op od_shr (de_var 2) (de_var 4)) de_int) de_int))) (fun _ _ _ _ _ => (de_var 4)))) da_nil))))) (dss_one (ds_ret (DO.de (do_lc [("lot", 3)] sc_all_lots.nd (di_seq (DO.de (do_bi (co_sortedD hr.units) G.fr_sorted bb_sorted (da_cons (de_slot 1) da_nil)))) (blkOk_by (by kernel_rfl)) (fun _ _ _ _ _ => (dg_name 3 sc_all_lots.nd)) (fun _ _ _ _ _ => dts_nil) (fun _ _ _ _ _ => (de_ty (cd_tupleX rfl) G.fr_tuple bb_tuple (da_cons (de_var 3) da_nil)))))))))
abbrev N_lots_with_first : List Str := ["net", "lot"]
abbrev c_lots_with_first : Cs := ⟨2, [], [], [], []⟩
def b_lots_with_first : SF := (sR (fO (oLc (iX (fC0 1 F_all_lots [] (aC (fAt 0 "posts" (fV 0)) aN))) (gN 1) (fTst (f2 eqD (f2 subSc (fV 1) (fC (.int 0))) (fC (.int 0)))) (fV 1) [1])))
def F_lots_with_first : FF := runF c_lots_with_first b_lots_with_first
theorem sc_lots_with_first : FnScope N_lots_with_first ["net"] (defScope (top 3)) := ⟨rfl, rfl, rfl, by decide +kernel, rfl, by decide +kernel, by decide +kernel⟩
theorem bi_lots_with_first (G : Gl K mg C.cls ad fd) : Binds K (fd 2) ["net"] [] := G.f_lots_with_first.bindsN fun _ _ _ _ _ _ us hl => match us, hl with | [_], _ => rfl
theorem ok_lots_with_first (G : Gl K mg C.cls ad fd) : FnOk P w K mg base CX0 2 (ad 2) (fd 2) ["net"] (spF K C [] false 1 F_lots_with_first) :=
  fun_ok (N := N_lots_with_first) (ps := ["net"]) (m := false) c_lots_with_first G.f_lots_with_first sc_lots_with_first b_lots_with_first rfl (by decide) (by decide) (fun h => nomatch h) fun cdv A outer s H E hr => (dss_one (ds_ret (DO.de (do_lc [("lot", 1)] sc_lots_with_first.nd (di_seq (de_call0 (ok_all_lots G) (hr.mono (by decide)) G.g_all_lots G.f_all_lots.kp (bi_all_lots G) .nil (fun _ => .nil) (da_cons (de_attr 0 (de_var 0) G.cl0 G.na0_posts) da_nil))) (blkOk_by (by kernel_rfl)) (fun _ _ _ _ _ => (dg_name 1 sc_lots_with_first.nd)) (fun _ _ _ _ _ => (dts_one (dt_cmp (od_eq hr.units) (de_ix hr.units (de_var 1) de_int) de_int))) (fun _ _ _ _ _ => (de_var 1))))))
abbrev N_Net_across : List Str := ["self", "lot", "at", "one", "other"]
abbrev c_Net_across : Cs := ⟨5, [], [], [], []⟩
def b_Net_across : SF := (sR (fB tupleX (aC (fO (oLc (iEn (fAt 0 "ties" (fV 0))) (gT 2 (gC (gN 2) (gC (gT 2 (gC (gN 3) (gC (gN 4) gN0))) gN0))) (fTst (f2 neD (f2 inD (fV 3) (fV 1)) (f2 inD (fV 4) (fV 1)))) (fV 2) [2, 3, 4])) aN)))
def F_Net_across : FF := runF c_Net_across b_Net_across
theorem sc_Net_across : FnScope N_Net_across ["self", "lot"] (defScope (topM 29 6)) := ⟨rfl, rfl, rfl, by decide +kernel, rfl, by decide +kernel, by decide +kernel⟩
theorem bi_Net_across (G : Gl K mg C.cls ad fd) : Binds K (fd 23) ["self", "lot"] [] := G.f_Net_across.bindsN fun _ _ _ _ _ _ us hl => match us, hl with | [_, _], _ => rfl
theorem ok_Net_across (G : Gl K mg C.cls ad fd) : FnOk P w K mg base CX0 1 (ad 23) (fd 23) ["self", "lot"] (spF K C [] false 2 F_Net_across) :=
  fun_ok (N := N_Net_across) (ps := ["self", "lot"]) (m := false) c_Net_across G.f_Net_across sc_Net_across b_Net_across rfl (by decide) (by decide) (fun h => nomatch h) fun cdv A outer s H E hr => (dss_one (ds_ret (de_ty (cd_tupleX rfl) G.fr_tuple bb_tuple (da_cons (DO.de (do_lc [("at", 2), ("one", 3), ("other", 4)] sc_Net_across.nd (di_enum G.fr_enumerate (de_attr 0 (de_var 0) G.cl0 G.na0_ties)) (blkOk_by (by kernel_rfl)) (fun _ _ _ _ _ => (dg_tup 2 (dgs_cons (dg_name 2 sc_Net_across.nd) (dgs_cons (dg_tup 2 (dgs_cons (dg_name 3 sc_Net_across.nd) (dgs_cons (dg_name 4 sc_Net_across.nd) dgs_nil))) dgs_nil)))) (fun _ _ _ _ _ => (dts_one (dt_cmp (od_ne hr.units) (de_cmp (od_in hr.units) (de_var 3) (de_var 1)) (de_cmp (od_in hr.units) (de_var 4) (de_var 1))))) (fun _ _ _ _ _ => (de_var 2)))) da_nil))))
abbrev N_least_cut : List Str := ["net", "sizes", "lot", "size"]
abbrev c_least_cut : Cs := ⟨4, [], [], [], []⟩
def b_least_cut : SF := (sQ (sSet 1 (fO (oLc (iX (fC0 1 F_lots_with_first [] (aC (fV 0) aN))) (gN 2) tYesF (fB lenD (aC (fMe 0 "across" 2 F_Net_across [] (fV 0) (aC (fV 2) aN)) aN)) [2]))) (sR (fIf (fTst (f2 gtD (fB lenD (aC (fV 1) aN)) (fC (.int 0)))) (fB minD (aC (fO (oLc (iX (fV 1)) (gN 3) tYesF (fB intD (aC (fV 3) aN)) [3])) aN)) (fC .non))))
def F_least_cut : FF := runF c_least_cut b_least_cut
theorem sc_least_cut : FnScope N_least_cut ["net"] (defScope (top 5)) := ⟨rfl, rfl, rfl, by decide +kernel, rfl, by decide +kernel, by decide +kernel⟩
theorem bi_least_cut (G : Gl K mg C.cls ad fd) : Binds K (fd 3) ["net"] [] := G.f_least_cut.bindsN fun _ _ _ _ _ _ us hl => match us, hl with | [_], _ => rfl
theorem ok_least_cut (G : Gl K mg C.cls ad fd) : FnOk P w K mg base CX0 3 (ad 3) (fd 3) ["net"] (spF K C [] false 1 F_least_cut) :=
  fun_ok (N := N_least_cut) (ps := ["net"]) (m := false) c_least_cut G.f_least_cut sc_least_cut b_least_cut rfl (by decide) (by decide) (fun h => nomatch h) fun cdv A outer s H E hr => (dss_cons (ds_setLcP 1 [("lot", 2)] sc_least_cut.nd (di_seq (de_call0 (ok_lots_with_first G) (hr.mono (by decide)) G.g_lots_with_first G.f_lots_with_first.kp (bi_lots_with_first G) .nil (fun _ => .nil) (da_cons (de_var 0) da_nil))) (blkOk_by (by kernel_rfl)) (fun _ _ _ _ _ => (dg_name 2 sc_least_cut.nd)) (fun _ _ _ _ _ => dts_nil) (fun _ _ _ _ _ => (de_bi cd_len G.fr_len bb_len (da_cons (de_meth 0 (de_var 0) G.cl0 G.me0_across (ok_Net_across G) (hr.mono (by decide)) (bi_Net_across G) .nil (fun _ => .nil) (da_cons (de_var 2) da_nil)) da_nil))) rfl) (dss_one (ds_ret (de_if (dt_cmp od_gt (de_bi cd_len G.fr_len bb_len (da_cons (de_var 1) da_nil)) de_int) (de_bi (cd_min rfl) G.fr_min bb_min (da_cons (DO.de (do_lc [("size", 3)] sc_least_cut.nd (di_seq (de_var 1)) (blkOk_by (by kernel_rfl)) (fun _ _ _ _ _ => (dg_name 3 sc_least_cut.nd)) (fun _ _ _ _ _ => dts_nil) (fun _ _ _ _ _ => (de_ty cd_int G.fr_int bb_int (da_cons (de_var 3) da_nil))))) da_nil)) de_non))))
abbrev N_seen : List Str := ["net", "least"]
abbrev c_seen : Cs := ⟨2, [], [], [], []⟩
def b_seen : SF := (sQ (sSet 1 (fC0 1 F_least_cut [] (aC (fV 0) aN))) (sR (fIf (fTst (f2 isND (fV 1) (fC .non))) (fC .non) (f2 subD (fV 1) (fC (.int 1))))))
def F_seen : FF := runF c_seen b_seen
theorem sc_seen : FnScope N_seen ["net"] (defScope (top 6)) := ⟨rfl, rfl, rfl, by decide +kernel, rfl, by decide +kernel, by decide +kernel⟩
theorem bi_seen (G : Gl K mg C.cls ad fd) : Binds K (fd 4) ["net"] [] := G.f_seen.bindsN fun _ _ _ _ _ _ us hl => match us, hl with | [_], _ => rfl
theorem ok_seen (G : Gl K mg C.cls ad fd) : FnOk P w K mg base CX0 4 (ad 4) (fd 4) ["net"] (spF K C [] false 1 F_seen) :=
  fun_ok (N := N_seen) (ps := ["net"]) (m := false) c_seen G.f_seen sc_seen b_seen rfl (by decide) (by decide) (fun h => nomatch h) fun cdv A outer s H E hr => (dss_cons (ds_set 1 sc_seen.nd (de_call0 (ok_least_cut G) (hr.mono (by decide)) G.g_least_cut G.f_least_cut.kp (bi_least_cut G) .nil (fun _ => .nil) (da_cons (de_var 0) da_nil))) (dss_one (ds_ret (de_if (dt_cmp od_isN (de_var 1) de_non) de_non (de_op od_sub (de_var 1) de_int)))))
abbrev N_told : List Str := ["net", "least"]
abbrev c_told : Cs := ⟨2, [], [], [], []⟩
def b_told : SF := (sQ (sSet 1 (fC0 1 F_least_cut [] (aC (fV 0) aN))) (sR (fIf (fTst (f2 isND (fV 1) (fC .non))) (fC .non) (f2 fdivD (f2 subD (fV 1) (fC (.int 1))) (fC (.int 2))))))
def F_told : FF := runF c_told b_told
theorem sc_told : FnScope N_told ["net"] (defScope (top 7)) := ⟨rfl, rfl, rfl, by decide +kernel, rfl, by decide +kernel, by decide +kernel⟩
theorem bi_told (G : Gl K mg C.cls ad fd) : Binds K (fd 5) ["net"] [] := G.f_told.bindsN fun _ _ _ _ _ _ us hl => match us, hl with | [_], _ => rfl
theorem ok_told (G : Gl K mg C.cls ad fd) : FnOk P w K mg base CX0 4 (ad 5) (fd 5) ["net"] (spF K C [] false 1 F_told) :=
  fun_ok (N := N_told) (ps := ["net"]) (m := false) c_told G.f_told sc_told b_told rfl (by decide) (by decide) (fun h => nomatch h) fun cdv A outer s H E hr => (dss_cons (ds_set 1 sc_told.nd (de_call0 (ok_least_cut G) (hr.mono (by decide)) G.g_least_cut G.f_least_cut.kp (bi_least_cut G) .nil (fun _ => .nil) (da_cons (de_var 0) da_nil))) (dss_one (ds_ret (de_if (dt_cmp od_isN (de_var 1) de_non) de_non (de_op od_fdiv (de_op od_sub (de_var 1) de_int) de_int)))))
abbrev N_worth : List Str := ["net", "a", "b", "wide"]
abbrev c_worth : Cs := ⟨4, [], [], [], []⟩
def b_worth : SF := (sQ (sSet 3 (fMe 0 "further" 2 F_Net_further [] (fV 0) (aC (fO (oLst (aC (fTup (aC (fV 1) (aC (fV 2) aN))) aN))) aN))) (sR (fTup (aC (fC0 1 F_seen [] (aC (fV 3) aN)) (aC (fC0 1 F_told [] (aC (fV 3) aN)) aN)))))
def F_worth : FF := runF c_worth b_worth
theorem sc_worth : FnScope N_worth ["net", "a", "b"] (defScope (top 9)) := ⟨rfl, rfl, rfl, by decide +kernel, rfl, by decide +kernel, by decide +kernel⟩
theorem bi_worth (G : Gl K mg C.cls ad fd) : Binds K (fd 6) ["net", "a", "b"] [] := G.f_worth.bindsN fun _ _ _ _ _ _ us hl => match us, hl with | [_, _, _], _ => rfl
theorem ok_worth (G : Gl K mg C.cls ad fd) : FnOk P w K mg base CX0 8 (ad 6) (fd 6) ["net", "a", "b"] (spF K C [] false 3 F_worth) :=
  fun_ok (N := N_worth) (ps := ["net", "a", "b"]) (m := false) c_worth G.f_worth sc_worth b_worth rfl (by decide) (by decide) (fun h => nomatch h) fun cdv A outer s H E hr => (dss_cons (ds_set 3 sc_worth.nd (de_meth 0 (de_var 0) G.cl0 G.me0_further (ok_Net_further G) (hr.mono (by decide)) (bi_Net_further G) .nil (fun _ => .nil) (da_cons (DO.de (do_lst (da_cons (de_tup (da_cons (de_var 1) (da_cons (de_var 2) da_nil))) da_nil))) da_nil))) (dss_one (ds_ret (de_tup (da_cons (de_call0 (ok_seen G) (hr.mono (by decide)) G.g_seen G.f_seen.kp (bi_seen G) .nil (fun _ => .nil) (da_cons (de_var 3) da_nil)) (da_cons (de_call0 (ok_told G) (hr.mono (by decide)) G.g_told G.f_told.kp (bi_told G) .nil (fun _ => .nil) (da_cons (de_var 3) da_nil)) da_nil))))))
abbrev N_best_ties : List Str := ["net", "pairs", "pair", "found", "most", "value", "b", "a"]
abbrev c_best_ties : Cs := ⟨8, [3], [], [], []⟩
def lp_best_ties_1 : SF := (sQ (sSet 5 (fC0 3 F_worth [] (aC (fV 0) (aC (f2 subSc (fV 2) (fC (.int 0))) (aC (f2 subSc (fV 2) (fC (.int 1))) aN))))) (sQ (sIf (fTst (f2 gtTD (fV 5) (fV 4))) (sPar 3 4 (oLst aN) (oP (fV 5))) sN) (sX (fExt 3 (fIf (fTst (f2 eqD (fV 5) (fV 4))) (fO (oLst (aC (fV 2) aN))) (fO (oLst aN)))))))
def tl_best_ties_1 : SF := (sQ (sFor (iX (fO (oB sortedD (aC (fV 1) aN)))) (gN 2) lp_best_ties_1) (sR (fB tupleX (aC (fS 3) aN))))
def b_best_ties : SF := (sQ (sSet 1 (fO (oLc2 (iR1 (aC (fAt 0 "posts" (fV 0)) aN)) (gN 6) (iR1 (aC (fV 6) aN)) (gN 7) tYesF (fTup (aC (fV 7) (aC (fV 6) aN))) [6, 7] [7]))) (sQ (sPar 3 4 (oLst aN) (oP (fTup (aC (fNeg (fC (.int 1))) (aC (fNeg (fC (.int 1))) aN))))) tl_best_ties_1))
def F_best_ties : FF := runF c_best_ties b_best_ties
theorem sc_best_ties : FnScope N_best_ties ["net"] (defScope (top 10)) := ⟨rfl, rfl, rfl, by decide +kernel, rfl, by decide +kernel, by decide +kernel⟩
theorem bi_best_ties (G : Gl K mg C.cls ad fd) : Binds K (fd 7) ["net"] [] := G.f_best_ties.bindsN fun _ _ _ _ _ _ us hl => match us, hl with | [_], _ => rfl
theorem ok_best_ties (G : Gl K mg C.cls ad fd) : FnOk P w K mg base CX0 9 (ad 7) (fd 7) ["net"] (spF K C [] false 1 F_best_ties) :=
  fun_ok (N := N_best_ties) (ps := ["net"]) (m := false) c_best_ties G.f_best_ties sc_best_ties b_best_ties rfl (by decide) (by decide) (fun h => nomatch h) fun cdv A outer s H E hr => (dss_cons (ds_setLcP2 1 [("b", 6), ("a", 7)] [7] sc_best_ties.nd (di_range1 G.fr_range (da_cons (de_attr 0 (de_var 0) G.cl0 G.na0_posts) da_nil)) (blkOk_by (by kernel_rfl)) (fun _ _ _ _ _ => (dg_name 6 sc_best_ties.nd)) (fun _ _ _ _ _ => (di_range1 G.fr_range (da_cons (de_var 6) da_nil))) (fun _ _ _ _ _ => (dg_name 7 sc_best_ties.nd)) (fun _ _ _ _ _ => dts_nil) (fun _ _ _ _ _ => (de_tup (da_cons (de_var 7) (da_cons (de_var 6) da_nil)))) rfl) (dss_cons (ds_par (oi := true) (oj := false) 3 4 sc_best_ties.nd ⟨by decide, by decide⟩ (by decide) (DO.dx (do_lst da_nil)) (DE.dx (de_tup (da_cons (de_neg de_int) (da_cons (de_neg de_int) da_nil))))) (dss_cons (ds_for PassesOwn.never (di_seq (DO.de (do_bi (co_sortedD hr.units) G.fr_sorted bb_sorted (da_cons (de_var 1) da_nil)))) (dg_name 2 sc_best_ties.nd) (dss_cons (ds_set 5 sc_best_ties.nd (de_call0 (ok_worth G) (hr.mono (by decide)) G.g_worth G.f_worth.kp (bi_worth G) .nil (fun _ => .nil) (da_cons (de_var 0) (da_cons (de_ix hr.units (de_var 2) de_int) (da_cons (de_ix hr.units (de_var 2) de_int) da_nil))))) (dss_cons (ds_if (dt_cmp (od_gtT hr.units) (de_var 5) (de_var 4)) (dss_one (ds_par (oi := true) (oj := false) 3 4 sc_best_ties.nd ⟨by decide, by decide⟩ (by decide) (DO.dx (do_lst da_nil)) (DE.dx (de_var 5)))) dss_nil) (dss_one (ds_expr (de_extend 3 (de_if (dt_cmp (od_eq hr.units) (de_var 5) (de_var 4)) (DO.de (do_lst (da_cons (de_var 2) da_nil))) (DO.de (do_lst da_nil))))))))) (dss_one (ds_ret (de_ty (cd_tupleX rfl) G.fr_tuple bb_tuple (da_cons (de_slot 3) da_nil)))))))
abbrev N_line_of : List Str := ["word", "numbers", "number"]
abbrev c_line_of : Cs := ⟨3, [], [], [], []⟩
def b_line_of : SF := (sR (f2 joinD (fC (.str " ")) (fO (oLst (aC (fV 0) (aS (fO (oLc (iX (fV 1)) (gN 2) tYesF (fB strI (aC (fV 2) aN)) [2])) aN))))))
def F_line_of : FF := runF c_line_of b_line_of
theorem sc_line_of : FnScope N_line_of ["word", "numbers"] (defScope (top 27)) := ⟨rfl, rfl, rfl, by decide +kernel, rfl, by decide +kernel, by decide +kernel⟩
theorem bi_line_of (G : Gl K mg C.cls ad fd) : Binds K (fd 15) ["word", "numbers"] [] := G.f_line_of.bindsN fun _ _ _ _ _ _ us hl => match us, hl with | [_, _], _ => rfl
theorem ok_line_of (G : Gl K mg C.cls ad fd) : FnOk P w K mg base CX0 1 (ad 15) (fd 15) ["word", "numbers"] (spF K C [] false 2 F_line_of) :=
  fun_ok (N := N_line_of) (ps := ["word", "numbers"]) (m := false) c_line_of G.f_line_of sc_line_of b_line_of rfl (by decide) (by decide) (fun h => nomatch h) fun cdv A outer s H E hr => (dss_one (ds_ret (de_join (DO.de (do_lst (da_cons (de_var 0) (da_star (DO.de (do_lc [("number", 2)] sc_line_of.nd (di_seq (de_var 1)) (blkOk_by (by kernel_rfl)) (fun _ _ _ _ _ => (dg_name 2 sc_line_of.nd)) (fun _ _ _ _ _ => dts_nil) (fun _ _ _ _ _ => (de_ty cd_strI G.fr_str bb_str (da_cons (de_var 2) da_nil))))) da_nil)))))))
abbrev N_Net___str__ : List Str := ["self", "tie"]
abbrev c_Net___str__ : Cs := ⟨2, [], [], [], []⟩
def b_Net___str__ : SF := (sR (f2 joinD (fC (.str "\n")) (fO (oLst (aC (fC0 2 F_line_of [] (aC (fC (.str "posts")) (aC (fO (oLst (aC (fAt 0 "posts" (fV 0)) aN))) aN))) (aS (fO (oLc (iX (fAt 0 "ties" (fV 0))) (gN 1) tYesF (fC0 2 F_line_of [] (aC (fC (.str "tie")) (aC (fV 1) aN))) [1])) aN))))))
def F_Net___str__ : FF := runF c_Net___str__ b_Net___str__
theorem sc_Net___str__ : FnScope N_Net___str__ ["self"] (defScope (topM 29 13)) := ⟨rfl, rfl, rfl, by decide +kernel, rfl, by decide +kernel, by decide +kernel⟩
theorem bi_Net___str__ (G : Gl K mg C.cls ad fd) : Binds K (fd 30) ["self"] [] := G.f_Net___str__.bindsN fun _ _ _ _ _ _ us hl => match us, hl with | [_], _ => rfl
theorem ok_Net___str__ (G : Gl K mg C.cls ad fd) : FnOk P w K mg base CX0 2 (ad 30) (fd 30) ["self"] (spF K C [] false 1 F_Net___str__) :=
  fun_ok (N := N_Net___str__) (ps := ["self"]) (m := false) c_Net___str__ G.f_Net___str__ sc_Net___str__ b_Net___str__ rfl (by decide) (by decide) (fun h => nomatch h) fun cdv A outer s H E hr => (dss_one (ds_ret (de_join (DO.de (do_lst (da_cons (de_call0 (ok_line_of G) (hr.mono (by decide)) G.g_line_of G.f_line_of.kp (bi_line_of G) .nil (fun _ => .nil) (da_cons de_str (da_cons (DO.de (do_lst (da_cons (de_attr 0 (de_var 0) G.cl0 G.na0_posts) da_nil))) da_nil))) (da_star (DO.de (do_lc [("tie", 1)] sc_Net___str__.nd (di_seq (de_attr 0 (de_var 0) G.cl0 G.na0_ties)) (blkOk_by (by kernel_rfl)) (fun _ _ _ _ _ => (dg_name 1 sc_Net___str__.nd)) (fun _ _ _ _ _ => dts_nil) (fun _ _ _ _ _ => (de_call0 (ok_line_of G) (hr.mono (by decide)) G.g_line_of G.f_line_of.kp (bi_line_of G) .nil (fun _ => .nil) (da_cons de_str (da_cons (de_var 1) da_nil)))))) da_nil)))))))
abbrev N_Net___eq__ : List Str := ["self", "other"]
abbrev c_Net___eq__ : Cs := ⟨2, [], [], [], []⟩
def b_Net___eq__ : SF := (sR (fAndV (fIsO 0 (fV 1)) (f2 eqD (fStrO 0 F_Net___str__ (fV 0)) (fStrO 0 F_Net___str__ (fV 1)))))
def F_Net___eq__ : FF := runF c_Net___eq__ b_Net___eq__
theorem sc_Net___eq__ : FnScope N_Net___eq__ ["self", "other"] (defScope (topM 29 12)) := ⟨rfl, rfl, rfl, by decide +kernel, rfl, by decide +kernel, by decide +kernel⟩
theorem bi_Net___eq__ (G : Gl K mg C.cls ad fd) : Binds K (fd 29) ["self", "other"] [] := G.f_Net___eq__.bindsN fun _ _ _ _ _ _ us hl => match us, hl with | [_, _], _ => rfl
theorem ok_Net___eq__ (G : Gl K mg C.cls ad fd) : FnOk P w K mg base CX0 5 (ad 29) (fd 29) ["self", "other"] (spF K C [] false 2 F_Net___eq__) :=
  fun_ok (N := N_Net___eq__) (ps := ["self", "other"]) (m := false) c_Net___eq__ G.f_Net___eq__ sc_Net___eq__ b_Net___eq__ rfl (by decide) (by decide) (fun h => nomatch h) fun cdv A outer s H E hr => (dss_one (ds_ret (de_and (de_isO 0 (de_var 1) G.cl0 G.ow0 G.gc0 G.fr_isinstance) (de_one (de_cmp (od_eq hr.units) (de_strO 0 (de_var 0) G.me0___str__ (ok_Net___str__ G) (hr.mono (by decide)) (bi_Net___str__ G) G.fr_str) (de_strO 0 (de_var 1) G.me0___str__ (ok_Net___str__ G) (hr.mono (by decide)) (bi_Net___str__ G) G.fr_str))))))
abbrev N_law : List Str := ["_law_script", "_law_k", "_law_box_here", "_law_turn", "_law_posts", "_law_drawn", "_law_a", "_law_most", "_law_due", "_law_made", "_law_known", "_law_b", "_law_post", "_law_pair", "_law_value", "_law_other", "_law_more"]
abbrev c_law : Cs := ⟨17, [2, 10], [], [], []⟩
def lp_law_1 : SF := (sQ (sSet 8 (fC0 2 F__law_worth [] (aC (fV 5) (aC (fTup (aC (fV 6) (aC (fV 11) aN))) aN)))) (sQ (sIf (fTst (f2 neD (fB reprD (aC (fC0 3 F_worth [] (aC (fV 9) (aC (fV 6) (aC (fV 11) aN)))) aN)) (fB reprD (aC (fV 8) aN)))) (sR (fC (.bl false))) sN) (sX (fMt 10 appD (aC (fTup (aC (fV 8) (aC (fTup (aC (fV 6) (aC (fV 11) aN))) aN))) aN)))))
def lp_law_2 : SF := (sFor (iX (fO (oLc (iR1 (aC (fV 4) aN)) (gN 12) (fTst (f2 neD (fV 12) (fV 6))) (fV 12) [12]))) (gN 11) lp_law_1)
def tl_law_1 : SF := (sQ (sFor (iR1 (aC (fV 4) aN)) (gN 6) lp_law_2) (sFrz 10 (sQ (sSet 7 (fO (oLc (iX (fV 10)) (gT 2 (gC (gN 8) (gC (gN 13) gN0))) (fTst (f2 eqD (fO (oLc (iX (fV 10)) (gT 2 (gC (gN 15) (gC (gN 16) gN0))) (fTst (f2 gtTD (fV 15) (fV 8))) (fC (.int 1)) [15, 16])) (fO (oLst aN)))) (fV 8) [8, 13]))) (sQ (sSet 8 (fB tupleX (aC (fO (oLc (iX (fV 10)) (gT 2 (gC (gN 14) (gC (gN 13) gN0))) (fAnd (fTst (f2 ltD (f2 subSc (fV 13) (fC (.int 0))) (f2 subSc (fV 13) (fC (.int 1))))) (fTst (f2 inD (fV 14) (fV 7)))) (fV 13) [14, 13])) aN))) (sIf (fOr (fTst (f2 neD (fB reprD (aC (fC0 1 F_best_ties [] (aC (fV 9) aN)) aN)) (fB reprD (aC (fV 8) aN)))) (fTst (fOwn 0 F_Net___eq__ not (fV 9) (fC0 1 F__law_net_of [] (aC (fV 5) aN))))) (sR (fC (.bl false))) sN)))))
def lp_law_3 : SF := (sQ (sSet 4 (f2 addD (fC (.int 1)) (fC1 2 F__law_take (aC (fS 2) (aC (fC (.int 6)) aN))))) (sQ (sSet 5 (fTup (aC (fV 4) (aC (f2 subSc (fC1 3 F__law_net (aC (fS 2) (aC (fV 4) (aC (f2 subD (fC (.int 9)) (fV 4)) aN)))) (fC (.int 1))) aN)))) (sQ (sPar 9 10 (oP (fC0 1 F__law_net_of [] (aC (fV 5) aN))) (oLst aN)) tl_law_1)))
def lp_law_4 : SF := (sQ (sSetO 2 (oC0 3 F__law_box [] (aC (fV 0) (aC (fV 1) (aC (fC (.int 51)) aN))))) (sFor (iR1 (aC (fC (.int 4)) aN)) (gN 3) lp_law_3))
def tl_law_2 : SF := (sQ (sFor (iR1 (aC (fB maxD (aC (fC (.int 1)) (aC (fB minD (aC (fC (.int 3)) (aC (fB lenD (aC (fV 0) aN)) aN))) aN))) aN)) (gN 1) lp_law_4) (sR (f2 eqD (fC0 1 F_best_ties [] (aC (fO (oMk 0 3 F_Net___init__ [(.tup [])] (aC (fC (.int 1)) aN))) aN)) (fTup aN))))
def b_law : SF := tl_law_2
def F_law : FF := runF c_law b_law
theorem sc_law : FnScope N_law ["_law_script"] (defScope (top 39)) := ⟨rfl, rfl, rfl, by decide +kernel, rfl, by decide +kernel, by decide +kernel⟩
theorem bi_law (G : Gl K mg C.cls ad fd) : Binds K (fd 39) ["_law_script"] [] := G.f_law.bindsN fun _ _ _ _ _ _ us hl => match us, hl with | [_], _ => rfl
theorem ok_law (G : Gl K mg C.cls ad fd) : FnG P w K mg base 10 (ad 39) (fd 39) ["_law_script"] (spF K C [] false 1 F_law) :=
  fun_okG (N := N_law) (ps := ["_law_script"]) (m := false) c_law G.f_law sc_law b_law rfl (by decide) (by decide) (fun h => nomatch h) fun cdv A outer s H E hr hgd => (dss_cons (ds_for PassesOwn.never (di_range1 G.fr_range (da_cons (de_bi (cd_max rfl) G.fr_max bb_max (da_cons de_int (da_cons (de_bi (cd_min rfl) G.fr_min bb_min (da_cons de_int (da_cons (de_bi cd_len G.fr_len bb_len (da_cons (de_var 0) da_nil)) da_nil))) da_nil))) da_nil)) (dg_name 1 sc_law.nd) (dss_cons (ds_setO 2 sc_law.nd (do_call0 (ok__law_box G) (hr.mono (by decide)) G.g__law_box G.f__law_box.kp (bi__law_box G) .nil (fun _ => .nil) (da_cons (de_var 0) (da_cons (de_var 1) (da_cons de_int da_nil))))) (dss_one (ds_for PassesOwn.never (di_range1 G.fr_range (da_cons de_int da_nil)) (dg_name 3 sc_law.nd) (dss_cons (ds_set 4 sc_law.nd (de_op od_add de_int (de_call1 (ok__law_take G) (hr.mono (by decide)) G.g__law_take G.f__law_take.kp (bi__law_take G) (da_cons (de_slot 2) (da_cons de_int da_nil))))) (dss_cons (ds_set 5 sc_law.nd (de_tup (da_cons (de_var 4) (da_cons (de_ix hr.units (de_call1 (ok__law_net G) (hr.mono (by decide)) G.g__law_net G.f__law_net.kp (bi__law_net G) (da_cons (de_slot 2) (da_cons (de_var 4) (da_cons (de_op od_sub de_int (de_var 4)) da_nil)))) de_int) da_nil)))) (dss_cons (ds_parC (oi := false) (oj := true) 9 10 sc_law.nd (by decide) ⟨by decide, by decide⟩ (DE.dx (de_call0 (ok__law_net_of G) (hr.mono (by decide)) G.g__law_net_of G.f__law_net_of.kp (bi__law_net_of G) .nil (fun _ => .nil) (da_cons (de_var 5) da_nil))) (DO.dx (do_lst da_nil))) (dss_cons (ds_for PassesOwn.never (di_range1 G.fr_range (da_cons (de_var 4) da_nil)) (dg_name 6 sc_law.nd) (dss_one (ds_for PassesOwn.never (di_seq (DO.de (do_lc [("_law_post", 12)] sc_law.nd (di_range1 G.fr_range (da_cons (de_var 4) da_nil)) (blkOk_by (by kernel_rfl)) (fun _ _ _ _ _ => (dg_name 12 sc_law.nd)) (fun _ _ _ _ _ => (dts_one (dt_cmp (od_ne hr.units) (de_var 12) (de_var 6)))) (fun _ _ _ _ _ => (de_var 12))))) (dg_name 11 sc_law.nd) (dss_cons (ds_set 8 sc_law.nd (de_call0 (ok__law_worth G) (hr.mono (by decide)) G.g__law_worth G.f__law_worth.kp (bi__law_worth G) .nil (fun _ => .nil) (da_cons (de_var 5) (da_cons (de_tup (da_cons (de_var 6) (da_cons (de_var 11) da_nil))) da_nil)))) (dss_cons (ds_if (dt_cmp (od_ne hr.units) (de_bi (cd_repr hgd hr.units) G.fr_repr bb_repr (da_cons (de_call0 (ok_worth G) (hr.mono (by decide)) G.g_worth G.f_worth.kp (bi_worth G) .nil (fun _ => .nil) (da_cons (de_var 9) (da_cons (de_var 6) (da_cons (de_var 11) da_nil)))) da_nil)) (de_bi (cd_repr hgd hr.units) G.fr_repr bb_repr (da_cons (de_var 8) da_nil))) (dss_one (ds_ret de_bl)) dss_nil) (dss_one (ds_expr (de_mt 10 md_append PySem.F.slot_list_append PySem.F.type_list_append (da_cons (de_tup (da_cons (de_var 8) (da_cons (de_tup (da_cons (de_var 6) (da_cons (de_var 11) da_nil))) da_nil))) da_nil))))))))) (dss_frz 10 (dss_cons (ds_set 7 sc_law.nd (DO.de (do_lc [("_law_due", 8), ("_law_pair", 13)] sc_law.nd (di_seq (de_var 10)) (blkOk_by (by kernel_rfl)) (fun _ _ _ _ _ => (dg_tup 2 (dgs_cons (dg_name 8 sc_law.nd) (dgs_cons (dg_name 13 sc_law.nd) dgs_nil)))) (fun _ _ _ _ _ => (dts_one (dt_cmp (od_eq hr.units) (DO.de (do_lc [("_law_other", 15), ("_law_more", 16)] sc_law.nd (di_seq (de_var 10)) (blkOk_by (by kernel_rfl)) (fun _ _ _ _ _ => (dg_tup 2 (dgs_cons (dg_name 15 sc_law.nd) (dgs_cons (dg_name 16 sc_law.nd) dgs_nil)))) (fun _ _ _ _ _ => (dts_one (dt_cmp (od_gtT hr.units) (de_var 15) (de_var 8)))) (fun _ _ _ _ _ => de_int))) (DO.de (do_lst da_nil))))) (fun _ _ _ _ _ => (de_var 8))))) (dss_cons (ds_set 8 sc_law.nd (de_ty (cd_tupleX rfl) G.fr_tuple bb_tuple (da_cons (DO.de (do_lc [("_law_value", 14), ("_law_pair", 13)] sc_law.nd (di_seq (de_var 10)) (blkOk_by (by kernel_rfl)) (fun _ _ _ _ _ => (dg_tup 2 (dgs_cons (dg_name 14 sc_law.nd) (dgs_cons (dg_name 13 sc_law.nd) dgs_nil)))) (fun _ _ _ _ _ => (dts_one (DW.dt (dw_and (dt_cmp od_lt (de_ix hr.units (de_var 13) de_int) (de_ix hr.units (de_var 13) de_int)) (dw_and1 (dt_cmp (od_in hr.units) (de_var 14) (de_var 7))))))) (fun _ _ _ _ _ => (de_var 13)))) da_nil))) (dss_one (ds_if (DW.dt (dw_or (dt_cmp (od_ne hr.units) (de_bi (cd_repr hgd hr.units) G.fr_repr bb_repr (da_cons (de_call0 (ok_best_ties G) (hr.mono (by decide)) G.g_best_ties G.f_best_ties.kp (bi_best_ties G) .nil (fun _ => .nil) (da_cons (de_var 9) da_nil)) da_nil)) (de_bi (cd_repr hgd hr.units) G.fr_repr bb_repr (da_cons (de_var 8) da_nil))) (dw_or1 (dt_own 0 (op_neOwn (ok_Net___eq__ G) G.me0___eq__ G.ow0 (bi_Net___eq__ G) (hr.mono (by decide))) (de_var 9) (de_call0 (ok__law_net_of G) (hr.mono (by decide)) G.g__law_net_of G.f__law_net_of.kp (bi__law_net_of G) .nil (fun _ => .nil) (da_cons (de_var 5) da_nil)))))) (dss_one (ds_ret de_bl)) dss_nil))))))))))))) (dss_one (ds_ret (de_cmp (od_eq hr.units) (de_call0 (ok_best_ties G) (hr.mono (by decide)) G.g_best_ties G.f_best_ties.kp (bi_best_ties G) .nil (fun _ => .nil) (da_cons (DO.de (do_make (dd := [(.tup [])]) 0 G.mk0 (ok_Net___init__ G) (hr.mono (by decide)) G.gc0 (bd0_Net___init__ G).choose_spec.2 (bd0_Net___init__ G).choose_spec.1 (fun _ => .cons (.tup (G.dt1170 _) (Nat.zero_le _) .nil) <| .nil) (da_cons de_int da_nil))) da_nil)) (de_tup da_nil)))))
end
end LW

namespace LW
open PySem L2 DL
/-- the lots with post 0 that are not all posts, ascending -/
def LOTS : Nat → List (List Int)
  | 1 => []
  | 2 => [[0]]
  | 3 => [[0], [0, 1], [0, 2]]
  | 4 => [[0], [0, 1], [0, 1, 2], [0, 1, 3], [0, 2], [0, 2, 3], [0, 3]]
  | 5 => [[0], [0, 1], [0, 1, 2], [0, 1, 2, 3], [0, 1, 2, 4], [0, 1, 3], [0, 1, 3, 4], [0, 1, 4], [0, 2], [0, 2, 3], [0, 2, 3, 4], [0, 2, 4], [0, 3], [0, 3, 4], [0, 4]]
  | 6 => [[0], [0, 1], [0, 1, 2], [0, 1, 2, 3], [0, 1, 2, 3, 4], [0, 1, 2, 3, 5], [0, 1, 2, 4], [0, 1, 2, 4, 5], [0, 1, 2, 5], [0, 1, 3], [0, 1, 3, 4], [0, 1, 3, 4, 5], [0, 1, 3, 5], [0, 1, 4], [0, 1, 4, 5], [0, 1, 5], [0, 2], [0, 2, 3], [0, 2, 3, 4], [0, 2, 3, 4, 5], [0, 2, 3, 5], [0, 2, 4], [0, 2, 4, 5], [0, 2, 5], [0, 3], [0, 3, 4], [0, 3, 4, 5], [0, 3, 5], [0, 4], [0, 4, 5], [0, 5]]
  | _ => []
def lotD (l : List Int) : D := .tup (l.map D.int)
theorem lots_first_ok {n : Nat} {ts : List (Int × Int)} (h1 : 1 ≤ n) (h2 : n ≤ 6) : F_lots_with_first [netD n ts] = some (.lst ((LOTS n).map lotD), []) := by
  match n, h1, h2 with
  | 1, _, _ => kernel_rfl
  | 2, _, _ => kernel_rfl
  | 3, _, _ => kernel_rfl
  | 4, _, _ => kernel_rfl
  | 5, _, _ => kernel_rfl
  | 6, _, _ => kernel_rfl
theorem law_lots_ok {n : Nat} (h1 : 1 ≤ n) (h2 : n ≤ 6) : F__law_lots [.int n] = some (.lst ((LOTS n).map lotD), []) := by
  match n, h1, h2 with
  | 1, _, _ => kernel_rfl
  | 2, _, _ => kernel_rfl
  | 3, _, _ => kernel_rfl
  | 4, _, _ => kernel_rfl
  | 5, _, _ => kernel_rfl
  | 6, _, _ => kernel_rfl
/-- the numbers of the ties across a lot -/
def acr (ts : List (Int × Int)) (l : List Int) : List Nat := (ts.zipIdx.filter fun x => (decide (x.1.1 ∈ l) != decide (x.1.2 ∈ l))).map (·.2)
def numsD (ns : List Nat) : List D := ns.map fun (n : Nat) => D.int n
theorem anyE_ints (x : Int) (l : List Int) : anyE (.int x) (l.map D.int) = decide (x ∈ l) := by
  induction l with
  | nil => rfl
  | cons y l ih =>
    have e : anyE (.int x) ((y :: l).map D.int) = ((y == x) || anyE (.int x) (l.map D.int)) := rfl
    rw [e, ih]
    by_cases h : y = x
    · subst h; simp
    · have h' : x ≠ y := fun q => h q.symm
      simp [h, h']
theorem plains_ints (l : List Int) : plains (l.map D.int) = true := by
  induction l with
  | nil => rfl
  | cons y l ih => exact ih
theorem dp_int (x : Int) : dp (.int x) = 0 := rfl
theorem inD_lot (x : Int) (l : List Int) : inD (.int x) (lotD l) = some (.bl (decide (x ∈ l))) := by
  simp [inD, inB, lotD, plains_ints, anyE_ints, DL.plain, dp_int]
theorem enum_ties (ts : List (Int × Int)) : enumL (ts.map pairD) = ts.zipIdx.map fun x => .tup [.int (x.2 : Nat), pairD x.1] := by
  apply List.ext_getElem?
  intro i
  simp only [enumL, List.getElem?_mapIdx, List.getElem?_map, List.getElem?_zipIdx]
  cases ts[i]? <;> simp
theorem neD_bls (a b : Bool) : neD (.bl a) (.bl b) = some (.bl (a != b)) := rfl
theorem acr_lc (ts : List (Int × Int)) (l : List Int) (d0 : D) : lcD (gT 2 (gC (gN 2) (gC (gT 2 (gC (gN 3) (gC (gN 4) gN0))) gN0))) (fTst (f2 neD (f2 inD (fV 3) (fV 1)) (f2 inD (fV 4) (fV 1)))) (fV 2) [2, 3, 4] (enumL (ts.map pairD)) [some d0, some (lotD l), none, none, none] [] = some (numsD (acr ts l), [some d0, some (lotD l), none, none, none]) := by
  rw [enum_ties]
  have := lcD_map (gg := gT 2 (gC (gN 2) (gC (gT 2 (gC (gN 3) (gC (gN 4) gN0))) gN0))) (tt := fTst (f2 neD (f2 inD (fV 3) (fV 1)) (f2 inD (fV 4) (fV 1)))) (f := fV 2) (own := [2, 3, 4]) (env := [some d0, some (lotD l), none, none, none]) (fun x : (Int × Int) × Nat => .tup [.int (x.2 : Nat), pairD x.1]) (fun x => .int (x.2 : Nat)) (fun x => (decide (x.1.1 ∈ l) != decide (x.1.2 ∈ l))) (fun x => [some d0, some (lotD l), some (.int (x.2 : Nat)), some (.int x.1.1), some (.int x.1.2)]) ts.zipIdx [] fun x hx => by
    refine ⟨rfl, ?_, fun _ => rfl, rfl⟩
    simp [fTst, f2, fV, gt, rdB, inD_lot, neD_bls, isB]
  rw [this]
  simp [numsD, acr]
theorem at_ties (n : Int) (ts : List (Int × Int)) : attrD 0 "ties" (netD n ts) = some (.tup (ts.map pairD)) := by kernel_rfl
theorem at_posts (n : Int) (ts : List (Int × Int)) : attrD 0 "posts" (netD n ts) = some (.int n) := by kernel_rfl
theorem across_ok {n : Int} (ts : List (Int × Int)) (l : List Int) : F_Net_across [netD n ts, lotD l] = some (.tup (numsD (acr ts l)), []) := by
  have := acr_lc ts l (netD n ts)
  simp [F_Net_across, b_Net_across, runF, env0, sN, sQ, sIf, sSet, sSetO, sSetIx, sR, sRO, sX, sPar, sAsg, oP, oB, oLst, fTst, f2, fV, fS, fM, fC, fO, fB, fMt, fC0, fC1, oC0, oC1, ioArgs, fNot, fOr, fAnd, fNotV, fOrV, fAndV, fIf, fTup, aC, aN, rdB, rdAll, vals, gt, st, gN, gT, gC, gN0, iX, iR1, iR2, itms, itmsS, subSc, atI, isB, gtD, ltD, geD, leD, iiD, modD, fdivD, subD, intD, absD, lenD, lenOf, listX, listD, listK, tupleX, tupleD, tupleK, Option.some_or, Option.none_or, appD, popAtD, isLst, setD, endF, outsOf, addD, addII, mulD, powD, powB, gd, oLc, iEn, fAt, at_ties, wipeE, backE, this]
theorem law_across_ok {n : Int} (ts : List (Int × Int)) (l : List Int) : F__law_across [.tup [.int n, .lst (ts.map pairD)], lotD l] = some (.lst (numsD (acr ts l)), []) := by
  have := acr_lc ts l (.tup [.int n, .lst (ts.map pairD)])
  simp [F__law_across, b__law_across, runF, env0, sN, sQ, sIf, sSet, sSetO, sSetIx, sR, sRO, sX, sPar, sAsg, oP, oB, oLst, fTst, f2, fV, fS, fM, fC, fO, fB, fMt, fC0, fC1, oC0, oC1, ioArgs, fNot, fOr, fAnd, fNotV, fOrV, fAndV, fIf, fTup, aC, aN, rdB, rdAll, vals, gt, st, gN, gT, gC, gN0, iX, iR1, iR2, itms, itmsS, subSc, atI, isB, gtD, ltD, geD, leD, iiD, modD, fdivD, subD, intD, absD, lenD, lenOf, listX, listD, listK, tupleX, tupleD, tupleK, Option.some_or, Option.none_or, appD, popAtD, isLst, setD, endF, outsOf, addD, addII, mulD, powD, powB, gd, ixN, oLc, iEn, wipeE, backE, this]
end LW

namespace LW
open PySem L2 DL
/-! ### the call of across -/
theorem across_me {fo : EF} {fa : AF} {env e e2 : DL.Env} {n : Int} {ts : List (Int × Int)} {l : List Int} (h : fo env = some (.val (netD n ts), e)) (h2 : fa e = some ([.val (lotD l)], e2)) : fMe 0 "across" 2 F_Net_across [] fo fa env = some (.val (.tup (numsD (acr ts l))), e2) := by
  have a := across_ok (n := n) ts l
  unfold fMe
  rw [h]
  simp only [Option.bind_some, netD] at a ⊢
  rw [if_pos (by refine ⟨?_, ?_⟩ <;> first | trivial | kernel_rfl), h2]
  simp [vals, a]
theorem numsD_len (ns : List Nat) : (numsD ns).length = ns.length := by simp [numsD]
end LW

namespace LW
open PySem L2 DL
/-! ### the least cut -/
def sizes (n : Nat) (ts : List (Int × Int)) : List Int := (LOTS n).map fun l => ((acr ts l).length : Int)
def leastD (n : Nat) (ts : List (Int × Int)) : D := if (LOTS n).isEmpty then .non else .int (minI (sizes n ts))
theorem least_cut_ok {n : Nat} {ts : List (Int × Int)} (h1 : 1 ≤ n) (h2 : n ≤ 6) : F_least_cut [netD n ts] = some (leastD n ts, []) := by
  have hf : ∀ T x1, fB lenD (aC (fMe 0 "across" 2 F_Net_across [] (fV 0) (aC (fV 2) aN)) aN) [some (netD n ts), x1, some (lotD T), none] = some (.val (.int ((acr ts T).length : Int)), [some (netD n ts), x1, some (lotD T), none]) := fun T x1 => by
    have e : lenD [.tup (numsD (acr ts T))] = some (.int ((acr ts T).length : Int)) := by
      show some (D.int ((numsD (acr ts T)).length : Nat)) = _
      rw [numsD_len]
    exact r_B (r_aC (across_me rfl rfl) r_aN) rfl e
  have h := lcD_map0 (gg := gN 2) (tt := tYesF) (f := fB lenD (aC (fMe 0 "across" 2 F_Net_across [] (fV 0) (aC (fV 2) aN)) aN)) (own := [2]) (env := [some (netD n ts), none, none, none]) lotD (fun T => D.int ((acr ts T).length : Int)) (fun _ => true) (fun T => [some (netD n ts), none, some (lotD T), none]) (LOTS n) fun T _ => ⟨rfl, rfl, fun _ => hf T none, rfl⟩
  have ef : (LOTS n).filter (fun _ => true) = LOTS n := by simp
  rw [ef] at h
  have em : (LOTS n).map (fun T => D.int ((acr ts T).length : Int)) = (sizes n ts).map D.int := by
    unfold sizes
    rw [List.map_map]
    rfl
  rw [em] at h
  have g := lcD_map0 (gg := gN 3) (tt := tYesF) (f := fB intD (aC (fV 3) aN)) (own := [3]) (env := [some (netD n ts), some (.lst ((sizes n ts).map D.int)), none, none]) D.int D.int (fun _ => true) (fun i => [some (netD n ts), some (.lst ((sizes n ts).map D.int)), none, some (.int i)]) (sizes n ts) fun i _ => ⟨rfl, rfl, fun _ => rfl, rfl⟩
  have eg : (sizes n ts).filter (fun _ => true) = sizes n ts := by simp
  rw [eg] at g
  refine r_run (fl := .rt (leastD n ts) [some (netD n ts), some (.lst ((sizes n ts).map D.int)), none, none]) ?_ rfl
  refine r_Q (e1 := [some (netD n ts), some (.lst ((sizes n ts).map D.int)), none, none]) (r_set (r_O (r_Lc (r_X (r_C0 (r_aC rfl r_aN) rfl (lots_first_ok h1 h2) rfl) rfl) h rfl)) rfl) (r_R ?_)
  have t : gtD (.int (((sizes n ts).map D.int).length : Nat)) (.int 0) = some (.bl (!(LOTS n).isEmpty)) := by
    show some (D.bl (decide ((0 : Int) < (((sizes n ts).map D.int).length : Nat)))) = _
    rw [List.length_map]
    unfold sizes
    rw [List.length_map]
    cases LOTS n with
    | nil => rfl
    | cons l ls => simp
  unfold leastD
  cases hb : (LOTS n).isEmpty with
  | true =>
    rw [hb] at t
    exact r_ifF (r_T (r_2 (r_B (r_aC rfl r_aN) rfl rfl) rfl rfl rfl t)) rfl
  | false =>
    rw [hb] at t
    have m : minD [.lst ((sizes n ts).map D.int)] = some (.int (minI (sizes n ts))) := by
      have e : (sizes n ts) ≠ [] := by
        unfold sizes
        intro z
        have := List.map_eq_nil_iff.mp z
        rw [this] at hb
        cases hb
      show (intsNE ((sizes n ts).map D.int)).bind _ = _
      unfold intsNE
      rw [intsD_map]
      cases q : sizes n ts with
      | nil => exact absurd q e
      | cons x xs => rfl
    exact r_ifT (r_T (r_2 (r_B (r_aC rfl r_aN) rfl rfl) rfl rfl rfl t)) (r_B (r_aC (r_O (r_Lc (r_X rfl rfl) g rfl)) r_aN) rfl m)
def toldD (n : Nat) (ts : List (Int × Int)) : D := if (LOTS n).isEmpty then .non else .int ((minI (sizes n ts) - 1).fdiv 2)
end LW

namespace LW
open PySem L2 DL
theorem told_ok {n : Nat} {ts : List (Int × Int)} (h1 : 1 ≤ n) (h2 : n ≤ 6) : F_told [netD n ts] = some (toldD n ts, []) := by
  have l := least_cut_ok (ts := ts) h1 h2
  unfold leastD at l
  unfold toldD
  cases hb : (LOTS n).isEmpty with
  | true =>
    rw [hb] at l
    exact r_run (fl := .rt .non [some (netD n ts), some .non]) (r_Q (r_set (r_C0 (r_aC rfl r_aN) rfl l rfl) rfl) (r_R (r_ifT (r_T (r_2 rfl rfl rfl rfl rfl)) rfl))) rfl
  | false =>
    rw [hb] at l
    exact r_run (fl := .rt _ [some (netD n ts), some (.int (minI (sizes n ts)))]) (r_Q (r_set (r_C0 (r_aC rfl r_aN) rfl l rfl) rfl) (r_R (r_ifF (r_T (r_2 rfl rfl rfl rfl rfl)) (r_2 (r_2 rfl rfl rfl rfl rfl) rfl rfl rfl rfl)))) rfl
end LW

namespace LW
open PySem L2 DL
/-! ### errors that nobody sees -/
def ind (l : List Int) (x : Int) : Int := if x ∈ l then 1 else 0
def errs (ts : List (Int × Int)) (l : List Int) : List Int := ts.map fun q => ind l q.2 - ind l q.1
theorem int_in (x : Int) (l : List Int) : intD [.bl (decide (x ∈ l))] = some (.int (ind l x)) := by
  unfold ind
  by_cases h : x ∈ l
  · rw [decide_eq_true h, if_pos h]; rfl
  · rw [decide_eq_false h, if_neg h]; rfl
def cuts (n : Nat) (ts : List (Int × Int)) : List (List Int) := (LOTS n).filter fun l => ((acr ts l).length : Int) == minI (sizes n ts)
theorem lots_emp {n : Nat} : (LOTS n).isEmpty = false ↔ LOTS n ≠ [] := by cases LOTS n <;> simp
theorem cuts_first {n : Nat} {ts : List (Int × Int)} (hne : LOTS n ≠ []) : ∃ l ls, cuts n ts = l :: ls ∧ l ∈ LOTS n ∧ ((acr ts l).length : Int) = minI (sizes n ts) := by
  have ne : sizes n ts ≠ [] := fun z => hne (List.map_eq_nil_iff.mp z)
  obtain ⟨S, hS, e⟩ := List.mem_map.mp (minI_mem ne)
  have m : S ∈ cuts n ts := List.mem_filter.mpr ⟨hS, by rw [beq_iff_eq]; exact e⟩
  cases q : cuts n ts with
  | nil => rw [q] at m; cases m
  | cons l ls =>
    have : l ∈ cuts n ts := by rw [q]; exact List.mem_cons_self ..
    obtain ⟨a, b⟩ := List.mem_filter.mp this
    exact ⟨l, ls, rfl, a, by rw [beq_iff_eq] at b; exact b⟩
theorem sub0 (x : D) (xs : List D) : subSc (.tup (x :: xs)) (.int 0) = some x := by
  show atI (x :: xs) 0 = _
  unfold atI ixN
  rw [if_pos (by decide), if_pos (by rw [List.length_cons]; omega)]
  rfl
/-- a lot across which are the fewest ties -/
def Fewest (n : Nat) (ts : List (Int × Int)) (l : List Int) : Prop := l ∈ LOTS n ∧ ((acr ts l).length : Int) = minI (sizes n ts)
def outB (n : Nat) : Bool := (LOTS n).all fun S => decide ((0 : Int) ∈ S) && ((upN n).any fun x => !decide (x ∈ S))
theorem outB_ok {n : Nat} (h2 : n ≤ 6) : outB n = true := by
  match n, h2 with
  | 0, _ => decide +kernel
  | 1, _ => decide +kernel
  | 2, _ => decide +kernel
  | 3, _ => decide +kernel
  | 4, _ => decide +kernel
  | 5, _ => decide +kernel
  | 6, _ => decide +kernel
theorem lot_out {n : Nat} (h2 : n ≤ 6) {S : List Int} (h : S ∈ LOTS n) : (0 : Int) ∈ S ∧ ∃ x ∈ upN n, x ∉ S := by
  have := List.all_eq_true.mp (outB_ok h2) S h
  simp only [Bool.and_eq_true, decide_eq_true_eq, List.any_eq_true, Bool.not_eq_true', decide_eq_false_iff_not] at this
  exact this
/-! ### errors across a lot, in plain words -/
theorem errs_ne {q : Int × Int} {l : List Int} : (ind l q.2 - ind l q.1 ≠ 0) ↔ (decide (q.1 ∈ l) != decide (q.2 ∈ l)) = true := by
  unfold ind
  by_cases a : q.1 ∈ l <;> by_cases b : q.2 ∈ l <;> simp [a, b]
theorem lot_cut {n : Nat} {ts : List (Int × Int)} (h2 : n ≤ 6) (J : Conn n ts) {l : List Int} (hl : l ∈ LOTS n) : 0 < (acr ts l).length := by
  by_cases e : (acr ts l).length = 0
  · have z : acr ts l = [] := List.length_eq_zero_iff.mp e
    have nil : ∀ q ∈ ts, (decide (q.1 ∈ l) != decide (q.2 ∈ l)) = false := fun q hq => by
      obtain ⟨i, hi⟩ := List.getElem?_of_mem hq
      have m : (q, i) ∈ ts.zipIdx := by
        rw [List.mem_zipIdx_iff_getElem?]
        exact hi
      cases hb : (decide (q.1 ∈ l) != decide (q.2 ∈ l)) with
      | false => rfl
      | true =>
        have : i ∈ acr ts l := List.mem_map.mpr ⟨(q, i), List.mem_filter.mpr ⟨m, hb⟩, rfl⟩
        rw [z] at this; cases this
    obtain ⟨z0, x, hx, nx⟩ := lot_out h2 hl
    have := J l z0 fun v hv q hq => by
      have := nil q hq
      constructor
      · intro e; subst e
        by_cases b : q.2 ∈ l
        · exact b
        · simp [hv, b] at this
      · intro e; subst e
        by_cases b : q.1 ∈ l
        · exact b
        · simp [hv, b] at this
    obtain ⟨a, b⟩ := mem_upN.mp hx
    have w := this x.toNat (by omega)
    rw [Int.toNat_of_nonneg a] at w
    exact absurd w nx
  · omega
end LW

namespace LW
open PySem L2 DL
/-! ### nets -/
theorem is_integer_ok (i : Int) : F_is_integer [.int i] = some (.bl true, []) := rfl
theorem is_number_ok {i : Int} (h : 0 ≤ i) : F_is_number [.int i] = some (.bl true, []) := by
  have e : F_is_number [.int i] = some (.bl (decide (0 ≤ i)), []) := rfl
  rw [e]; simp [h]
theorem is_pair_ok {a b n : Int} (ha : 0 ≤ a) (ha2 : a < n) (hb : 0 ≤ b) (hb2 : b < n) : F_is_pair [.tup [.int a, .int b], .int n, .int n] = some (.bl true, []) := by
  simp [F_is_pair, b_is_pair, runF, env0, sN, sQ, sIf, sSet, sSetO, sSetIx, sR, sRO, sX, sPar, sAsg, oP, oB, oLst, fTst, f2, fV, fS, fM, fC, fO, fB, fMt, fC0, fC1, oC0, oC1, ioArgs, fNot, fOr, fAnd, fNotV, fOrV, fAndV, fIf, fTup, aC, aN, rdB, rdAll, vals, gt, st, gN, gT, gC, gN0, iX, iR1, iR2, itms, itmsS, subSc, atI, isB, gtD, ltD, geD, leD, iiD, modD, fdivD, subD, intD, absD, lenD, lenOf, listX, listD, listK, tupleX, tupleD, tupleK, Option.some_or, Option.none_or, appD, popAtD, isLst, setD, endF, outsOf, addD, addII, mulD, powD, powB, gd, ixN, fIs, instB, is_number_ok ha, is_number_ok hb, ha2, hb2, neD_int, eqD_int]
theorem are_ties_ok {n : Int} {ts : List (Int × Int)} (h : VT n ts) : F_are_ties [.lst (ts.map pairD), .int n] = some (.bl true, []) := by
  have l1 : lcD (gN 2) tYesF (fC0 3 F_is_pair [] (aC (fV 2) (aC (fV 1) (aC (fV 1) aN)))) [2] (ts.map pairD) [some (.lst (ts.map pairD)), some (.int n), none] [] = some ([] ++ (ts.filter fun _ => true).map (fun _ => D.bl true), [some (.lst (ts.map pairD)), some (.int n), none]) :=
    lcD_map pairD (fun _ => .bl true) (fun _ => true) (fun q => [some (.lst (ts.map pairD)), some (.int n), some (pairD q)]) ts [] fun q hq => by
      obtain ⟨h1, h2, h3, h4, h5⟩ := h q hq
      refine ⟨rfl, rfl, fun _ => ?_, rfl⟩
      have := is_pair_ok h1 h2 h3 h4
      simp [fC0, aC, aN, fV, gt, vals, pairD, this]
  have l2 : lcD (gN 2) tYesF (f2 neD (f2 subSc (fV 2) (fC (.int 0))) (f2 subSc (fV 2) (fC (.int 1)))) [2] (ts.map pairD) [some (.lst (ts.map pairD)), some (.int n), none] [] = some ([] ++ (ts.filter fun _ => true).map (fun _ => D.bl true), [some (.lst (ts.map pairD)), some (.int n), none]) :=
    lcD_map pairD (fun _ => .bl true) (fun _ => true) (fun q => [some (.lst (ts.map pairD)), some (.int n), some (pairD q)]) ts [] fun q hq => by
      obtain ⟨h1, h2, h3, h4, h5⟩ := h q hq
      refine ⟨rfl, rfl, fun _ => ?_, rfl⟩
      simp [f2, fV, fC, gt, rdB, subSc, atI, ixN, pairD, neD_int, eqD_int, h5]
  have f1 : (ts.filter fun _ => true) = ts := by simp
  rw [f1, List.nil_append] at l1 l2
  have b1 := blsD_true ts
  have b2 : (ts.map fun _ => true).all _root_.id = true := by simp
  have q : F_is_sequence [.lst (ts.map pairD)] = some (.bl true, []) := rfl
  simp [F_are_ties, b_are_ties, runF, env0, sN, sQ, sIf, sSet, sSetO, sSetIx, sR, sRO, sX, sPar, sAsg, oP, oB, oLst, fTst, f2, fV, fS, fM, fC, fO, fB, fMt, fC0, fC1, oC0, oC1, ioArgs, fNot, fOr, fAnd, fNotV, fOrV, fAndV, fIf, fTup, aC, aN, rdB, rdAll, vals, gt, st, gN, gT, gC, gN0, iX, iR1, iR2, itms, itmsS, subSc, atI, isB, gtD, ltD, geD, leD, iiD, modD, fdivD, subD, intD, absD, lenD, lenOf, listX, listD, listK, tupleX, tupleD, tupleK, Option.some_or, Option.none_or, appD, popAtD, isLst, setD, endF, outsOf, addD, addII, mulD, powD, powB, gd, oLc, wipeE, backE, l1, l2, q, allD, b1]
/-! ### joined -/
def J (n : Int) (ts : List (Int × Int)) (ks ws : List Int) (x4 x5 x6 x7 : Option D) : DL.Env := [some (.int n), some (.lst (ts.map pairD)), some (.dic (ks.map fun k => (.inl k, D.bl true))), some (.lst (ws.map D.int)), x4, x5, x6, x7]
theorem hasK_ks (ks : List Int) (v : Int) : hasK (ks.map fun k => ((.inl k : Key), D.bl true)) (.inl v) = decide (v ∈ ks) := by
  induction ks with
  | nil => rfl
  | cons k ks ih =>
    have e : hasK ((k :: ks).map fun k => ((.inl k : Key), D.bl true)) (.inl v) = (decide ((.inl k : Key) = .inl v) || hasK (ks.map fun k => ((.inl k : Key), D.bl true)) (.inl v)) := rfl
    rw [e, ih]
    by_cases q : k = v
    · subst q; simp
    · have : v ≠ k := fun z => q z.symm
      simp [q, this]
theorem put_ks {ks : List Int} {v : Int} (h : v ∉ ks) : putD (ks.map fun k => ((.inl k : Key), D.bl true)) (.inl v) (.bl true) = (ks ++ [v]).map fun k => ((.inl k : Key), D.bl true) := by
  have e := hasK_ks ks v
  unfold hasK at e
  unfold putD
  rw [e]
  simp [h]
theorem inner_one {n p : Int} {ts : List (Int × Int)} {ks ws : List Int} {x5 x6 x7 : Option D} (a b : Int) (hk : ks.length ≤ 100) (hw : ws.length ≤ 100) : ∃ new y7, lp_are_joined_1 (J n ts ks ws (some (.int p)) (some (.int a)) (some (.int b)) x7) = some (.nx (J n ts (ks ++ new) (ws ++ new) (some (.int p)) (some (.int a)) (some (.int b)) y7)) ∧
    (new = [] ∨ ∃ v, new = [v] ∧ v ∉ ks ∧ (v = a ∨ v = b)) ∧ (a = p → b ∈ ks ++ new) ∧ (b = p → a ∈ ks ++ new) := by
  have hk2 : ks.length ≤ 16777215 := by omega
  have hw2 : ws.length ≤ 16777215 := by omega
  by_cases h : a = p
  · subst h
    by_cases hm : b ∈ ks
    · refine ⟨[], some (.int b), ?_, .inl rfl, fun _ => by simpa using hm, fun e => by subst e; simpa using hm⟩
      simp [lp_are_joined_1, J, runF, env0, sN, sQ, sIf, sSet, sSetO, sSetIx, sR, sRO, sX, sPar, sAsg, oP, oB, oLst, fTst, f2, fV, fS, fM, fC, fO, fB, fMt, fC0, fC1, oC0, oC1, ioArgs, fNot, fOr, fAnd, fNotV, fOrV, fAndV, fIf, fTup, aC, aN, rdB, rdAll, vals, gt, st, gN, gT, gC, gN0, iX, iR1, iR2, itms, itmsS, subSc, atI, isB, gtD, ltD, geD, leD, iiD, modD, fdivD, subD, intD, absD, lenD, lenOf, listX, listD, listK, tupleX, tupleD, tupleK, Option.some_or, Option.none_or, appD, popAtD, isLst, setD, endF, outsOf, addD, addII, mulD, powD, powB, gd, inD_pair, eqD_int, notInD, inB, keyD, hasK_ks, hm]
    · refine ⟨[b], some (.int b), ?_, .inr ⟨b, rfl, hm, .inr rfl⟩, fun _ => by simp, fun e => by subst e; simp⟩
      simp [lp_are_joined_1, J, runF, env0, sN, sQ, sIf, sSet, sSetO, sSetIx, sR, sRO, sX, sPar, sAsg, oP, oB, oLst, fTst, f2, fV, fS, fM, fC, fO, fB, fMt, fC0, fC1, oC0, oC1, ioArgs, fNot, fOr, fAnd, fNotV, fOrV, fAndV, fIf, fTup, aC, aN, rdB, rdAll, vals, gt, st, gN, gT, gC, gN0, iX, iR1, iR2, itms, itmsS, subSc, atI, isB, gtD, ltD, geD, leD, iiD, modD, fdivD, subD, intD, absD, lenD, lenOf, listX, listD, listK, tupleX, tupleD, tupleK, Option.some_or, Option.none_or, appD, popAtD, isLst, setD, endF, outsOf, addD, addII, mulD, powD, powB, gd, inD_pair, eqD_int, notInD, inB, keyD, hasK_ks, hm, put_ks hm, hk2, hw2]
  · by_cases hb : b = p
    · subst hb
      by_cases hm : a ∈ ks
      · refine ⟨[], some (.int a), ?_, .inl rfl, fun e => absurd e h, fun _ => by simpa using hm⟩
        simp [lp_are_joined_1, J, runF, env0, sN, sQ, sIf, sSet, sSetO, sSetIx, sR, sRO, sX, sPar, sAsg, oP, oB, oLst, fTst, f2, fV, fS, fM, fC, fO, fB, fMt, fC0, fC1, oC0, oC1, ioArgs, fNot, fOr, fAnd, fNotV, fOrV, fAndV, fIf, fTup, aC, aN, rdB, rdAll, vals, gt, st, gN, gT, gC, gN0, iX, iR1, iR2, itms, itmsS, subSc, atI, isB, gtD, ltD, geD, leD, iiD, modD, fdivD, subD, intD, absD, lenD, lenOf, listX, listD, listK, tupleX, tupleD, tupleK, Option.some_or, Option.none_or, appD, popAtD, isLst, setD, endF, outsOf, addD, addII, mulD, powD, powB, gd, inD_pair, eqD_int, notInD, inB, keyD, hasK_ks, hm, h]
      · refine ⟨[a], some (.int a), ?_, .inr ⟨a, rfl, hm, .inl rfl⟩, fun e => absurd e h, fun _ => by simp⟩
        simp [lp_are_joined_1, J, runF, env0, sN, sQ, sIf, sSet, sSetO, sSetIx, sR, sRO, sX, sPar, sAsg, oP, oB, oLst, fTst, f2, fV, fS, fM, fC, fO, fB, fMt, fC0, fC1, oC0, oC1, ioArgs, fNot, fOr, fAnd, fNotV, fOrV, fAndV, fIf, fTup, aC, aN, rdB, rdAll, vals, gt, st, gN, gT, gC, gN0, iX, iR1, iR2, itms, itmsS, subSc, atI, isB, gtD, ltD, geD, leD, iiD, modD, fdivD, subD, intD, absD, lenD, lenOf, listX, listD, listK, tupleX, tupleD, tupleK, Option.some_or, Option.none_or, appD, popAtD, isLst, setD, endF, outsOf, addD, addII, mulD, powD, powB, gd, inD_pair, eqD_int, notInD, inB, keyD, hasK_ks, hm, h, put_ks hm, hk2, hw2]
    · refine ⟨[], x7, ?_, .inl rfl, fun e => absurd e h, fun e => absurd e hb⟩
      simp [lp_are_joined_1, J, runF, env0, sN, sQ, sIf, sSet, sSetO, sSetIx, sR, sRO, sX, sPar, sAsg, oP, oB, oLst, fTst, f2, fV, fS, fM, fC, fO, fB, fMt, fC0, fC1, oC0, oC1, ioArgs, fNot, fOr, fAnd, fNotV, fOrV, fAndV, fIf, fTup, aC, aN, rdB, rdAll, vals, gt, st, gN, gT, gC, gN0, iX, iR1, iR2, itms, itmsS, subSc, atI, isB, gtD, ltD, geD, leD, iiD, modD, fdivD, subD, intD, absD, lenD, lenOf, listX, listD, listK, tupleX, tupleD, tupleK, Option.some_or, Option.none_or, appD, popAtD, isLst, setD, endF, outsOf, addD, addII, mulD, powD, powB, gd, inD_pair, h, hb]
theorem inner_all {n p : Int} {ts : List (Int × Int)} : ∀ (us : List (Int × Int)) (ks ws : List Int) (x5 x6 x7 : Option D), ks.length + us.length ≤ 100 → ws.length + us.length ≤ 100 → ks.Nodup →
    ∃ new y5 y6 y7, forD (gT 2 (gC (gN 5) (gC (gN 6) gN0))) lp_are_joined_1 (us.map pairD) (J n ts ks ws (some (.int p)) x5 x6 x7) = some (.nx (J n ts (ks ++ new) (ws ++ new) (some (.int p)) y5 y6 y7)) ∧ (ks ++ new).Nodup ∧ (∀ v ∈ new, ∃ q ∈ us, v = q.1 ∨ v = q.2) ∧ ∀ q ∈ us, (q.1 = p → q.2 ∈ ks ++ new) ∧ (q.2 = p → q.1 ∈ ks ++ new)
  | [], ks, ws, x5, x6, x7, _, _, hn => ⟨[], x5, x6, x7, by simp [forD], by simpa using hn, fun v h => (nomatch h), fun q h => (nomatch h)⟩
  | (a, b) :: us, ks, ws, x5, x6, x7, hk, hw, hn => by
    rw [List.length_cons] at hk hw
    obtain ⟨new, y7, h1, h2, h3, h4⟩ := inner_one (n := n) (p := p) (ts := ts) (ks := ks) (ws := ws) (x5 := x5) (x6 := x6) (x7 := x7) a b (by omega) (by omega)
    have hn2 : (ks ++ new).Nodup ∧ new.length ≤ 1 ∧ ∀ v ∈ new, v = a ∨ v = b := by
      rcases h2 with rfl | ⟨v, rfl, hv, hab⟩
      · exact ⟨by simpa using hn, by simp, fun v h => (nomatch h)⟩
      · refine ⟨?_, by simp, fun w hw => by simp at hw; subst hw; exact hab⟩
        rw [List.nodup_append]
        exact ⟨hn, by simp, fun x hx y hy => by simp at hy; subst hy; exact fun q => hv (q ▸ hx)⟩
    obtain ⟨new2, z5, z6, z7, g1, g2, g3, g4⟩ := inner_all (n := n) (p := p) (ts := ts) us (ks ++ new) (ws ++ new) (some (.int a)) (some (.int b)) y7 (by rw [List.length_append]; omega) (by rw [List.length_append]; omega) hn2.1
    refine ⟨new ++ new2, z5, z6, z7, ?_, by rw [← List.append_assoc]; exact g2, fun v hv => ?_, fun q hq => ?_⟩
    · rw [List.append_assoc, List.append_assoc] at g1
      have e0 : gT 2 (gC (gN 5) (gC (gN 6) gN0)) (pairD (a, b)) (J n ts ks ws (some (.int p)) x5 x6 x7) = some (J n ts ks ws (some (.int p)) (some (.int a)) (some (.int b)) x7) := rfl
      simp only [List.map_cons, forD, e0, Option.bind_some, h1, g1]
    · rcases List.mem_append.mp hv with q | q
      · exact ⟨(a, b), List.mem_cons_self .., hn2.2.2 v q⟩
      · obtain ⟨q', hq', e⟩ := g3 v q
        exact ⟨q', List.mem_cons_of_mem _ hq', e⟩
    · rw [← List.append_assoc]
      rcases List.mem_cons.mp hq with e | e
      · subst e
        exact ⟨fun z => List.mem_append_left _ (h3 z), fun z => List.mem_append_left _ (h4 z)⟩
      · exact g4 q e
theorem outer_all {n : Nat} {ts : List (Int × Int)} (hv : VT n ts) (hn : n ≤ 20) (ht : ts.length ≤ 30) : ∀ (fu : Nat) (ks ws : List Int) (x4 x5 x6 x7 : Option D), fu ≤ 64 → (n - ks.length) + ws.length < fu → ks.Nodup → (∀ v ∈ ks, 0 ≤ v ∧ v < (n : Int)) → (0 : Int) ∈ ks →
    (∀ v ∈ ks, v ∉ ws → ∀ q ∈ ts, (q.1 = v → q.2 ∈ ks) ∧ (q.2 = v → q.1 ∈ ks)) →
    ∃ ks' y4 y5 y6 y7, whD (fTst (f2 gtD (fB lenD (aC (fS 3) aN)) (fC (.int 0)))) lp_are_joined_2 fu (J n ts ks ws x4 x5 x6 x7) = some (.nx (J n ts ks' [] y4 y5 y6 y7)) ∧ ks'.Nodup ∧ (∀ v ∈ ks', 0 ≤ v ∧ v < (n : Int)) ∧ (0 : Int) ∈ ks' ∧ ∀ v ∈ ks', ∀ q ∈ ts, (q.1 = v → q.2 ∈ ks') ∧ (q.2 = v → q.1 ∈ ks')
  | 0, _, _, _, _, _, _, _, h, _, _, _, _ => by omega
  | fu + 1, ks, ws, x4, x5, x6, x7, hf, hm, hnd, hr, h0, hc => by
    have e1 : ∀ (w : List Int), fTst (f2 gtD (fB lenD (aC (fS 3) aN)) (fC (.int 0))) (J n ts ks w x4 x5 x6 x7) = some (decide ((0 : Int) < ((w.map D.int).length : Int)), J n ts ks w x4 x5 x6 x7) := fun w => rfl
    have kl : ks.length ≤ n := by
      have := sub_len (m := upN n) hnd fun x hx => mem_upN.mpr (hr x hx)
      rw [upN_len] at this
      exact this
    by_cases hw : ws = []
    · subst hw
      refine ⟨ks, x4, x5, x6, x7, ?_, hnd, hr, h0, fun v hv' => hc v hv' (by simp)⟩
      simp [whD, e1]
    · obtain ⟨ws0, p, rfl⟩ : ∃ ws0 p, ws = ws0 ++ [p] := ⟨ws.dropLast, ws.getLast hw, (List.dropLast_concat_getLast hw).symm⟩
      rw [List.length_append, List.length_singleton] at hm
      have e2 : sSet 4 (fMt 3 popD aN) (J n ts ks (ws0 ++ [p]) x4 x5 x6 x7) = some (.nx (J n ts ks ws0 (some (.int p)) x5 x6 x7)) := by
        simp [sSet, fMt, J, gt, st, aN, vals, isLst, popD]
      obtain ⟨new, y5, y6, y7, g1, g2, g3, g4⟩ := inner_all (n := n) (p := p) (ts := ts) ts ks ws0 x5 x6 x7 (by omega) (by omega) hnd
      have hr2 : ∀ v ∈ ks ++ new, 0 ≤ v ∧ v < (n : Int) := fun v hv' => by
        rcases List.mem_append.mp hv' with q | q
        · exact hr v q
        · obtain ⟨t, ht', e⟩ := g3 v q
          obtain ⟨a1, a2, a3, a4, _⟩ := hv t ht'
          rcases e with e | e <;> subst e
          · exact ⟨a1, a2⟩
          · exact ⟨a3, a4⟩
      have kl2 : (ks ++ new).length ≤ n := by
        have := sub_len (m := upN n) g2 fun x hx => mem_upN.mpr (hr2 x hx)
        rw [upN_len] at this
        exact this
      rw [List.length_append] at kl2
      obtain ⟨ks', z4, z5, z6, z7, k1, k2⟩ := outer_all hv hn ht fu (ks ++ new) (ws0 ++ new) (some (.int p)) y5 y6 y7 (by omega) (by rw [List.length_append, List.length_append]; omega) g2 hr2 (List.mem_append_left _ h0) (fun v hv' hnw q hq => by
        rcases List.mem_append.mp hv' with z | z
        · by_cases hp : v = p
          · subst hp; exact g4 q hq
          · have := hc v z (fun y => by
              rcases List.mem_append.mp y with y | y
              · exact hnw (List.mem_append_left _ y)
              · simp at y; exact hp y) q hq
            exact ⟨fun y => List.mem_append_left _ (this.1 y), fun y => List.mem_append_left _ (this.2 y)⟩
        · exact absurd (List.mem_append_right _ z) hnw)
      refine ⟨ks', z4, z5, z6, z7, ?_, k2⟩
      have e3 : lp_are_joined_2 (J n ts ks (ws0 ++ [p]) x4 x5 x6 x7) = some (.nx (J n ts (ks ++ new) (ws0 ++ new) (some (.int p)) y5 y6 y7)) := by
        unfold lp_are_joined_2
        rw [sQ_nx e2]
        show (iX (fV 1) (J n ts ks ws0 (some (.int p)) x5 x6 x7)).bind _ = _
        exact g1
      have e4 : decide ((0 : Int) < (((ws0 ++ [p]).map D.int).length : Int)) = true := by
        rw [decide_eq_true_eq, List.length_map, List.length_append, List.length_singleton]; omega
      simp only [whD, e1, e4, Option.bind_some, if_true, e3, k1]
theorem are_joined_ok {n : Nat} {ts : List (Int × Int)} (hv : VT n ts) (hj : Conn n ts) (hn0 : 0 < n) (hn : n ≤ 20) (ht : ts.length ≤ 30) : F_are_joined [.int n, .lst (ts.map pairD)] = some (.bl true, []) := by
  obtain ⟨ks', y4, y5, y6, y7, h1, h2, h3, h4, h5⟩ := outer_all hv hn ht 64 [0] [0] none none none none (Nat.le_refl _) (by simp; omega) (by simp) (fun v h => by simp at h; subst h; omega) (by simp) (fun v hv' hnw => by simp at hv' hnw; exact absurd hv' hnw)
  have len : ks'.length = n := by
    have a1 := sub_len (m := upN n) h2 fun x hx => mem_upN.mpr (h3 x hx)
    have a2 := sub_len (m := ks') (upN_nodup n) fun x hx => by
      obtain ⟨b1, b2⟩ := mem_upN.mp hx
      have := hj ks' h4 h5 x.toNat (by omega)
      rw [Int.toNat_of_nonneg b1] at this
      exact this
    rw [upN_len] at a1 a2
    omega
  have e0 : F_are_joined [.int n, .lst (ts.map pairD)] = (tl_are_joined_1 (J n ts [0] [0] none none none none)).bind (endF []) := rfl
  rw [e0]
  unfold tl_are_joined_1
  rw [sQ_nx h1]
  have e1 : sR (f2 eqD (fB lenD (aC (fS 2) aN)) (fV 0)) (J n ts ks' [] y4 y5 y6 y7) = some (.rt (.bl (((ks'.map fun k => ((.inl k : Key), D.bl true)).length : Int) == (n : Int))) (J n ts ks' [] y4 y5 y6 y7)) := rfl
  rw [e1, List.length_map, len]
  simp [endF, outsOf]
theorem net_okC {n : Nat} {ts : List (Int × Int)} (hv : VT n ts) (hj : Conn n ts) (hn0 : 0 < n) (hn : n ≤ 20) (ht : ts.length ≤ 30) : F_Net___init__ [.obj 0 [], .int n, .lst (ts.map pairD)] = some (.non, [netD n ts]) := by
  have a1 := are_ties_ok hv
  have a2 := are_joined_ok hv hj hn0 hn ht
  have a3 : ¬ ((n : Int) < 1) := by omega
  simp [F_Net___init__, b_Net___init__, runF, env0, sN, sQ, sIf, sSet, sSetO, sSetIx, sR, sRO, sX, sPar, sAsg, oP, oB, oLst, fTst, f2, fV, fS, fM, fC, fO, fB, fMt, fC0, fC1, oC0, oC1, ioArgs, fNot, fOr, fAnd, fNotV, fOrV, fAndV, fIf, fTup, aC, aN, rdB, rdAll, vals, gt, st, gN, gT, gC, gN0, iX, iR1, iR2, itms, itmsS, subSc, atI, isB, gtD, ltD, geD, leD, iiD, modD, fdivD, subD, intD, absD, lenD, lenOf, listX, listD, listK, tupleX, tupleD, tupleK, Option.some_or, Option.none_or, appD, popAtD, isLst, setD, endF, outsOf, addD, addII, mulD, powD, powB, gd, is_integer_ok, a1, a2, a3, sFldD, putFD, netD, show ¬ (("posts" : Str) = "ties") by decide]
theorem net_ok {n : Nat} {ts : List (Int × Int)} (hv : VT n ts) (hj : Joined n ts) (hn0 : 0 < n) (hn : n ≤ 20) (ht : ts.length ≤ 30) : F_Net___init__ [.obj 0 [], .int n, .lst (ts.map pairD)] = some (.non, [netD n ts]) := net_okC hv hj.conn hn0 hn ht
end LW

namespace LW
open PySem L2 DL
/-! ### further ties, what a tie is worth, the best ties -/
theorem further_ok {n : Nat} {ts us : List (Int × Int)} (V : VT n (ts ++ us)) (VU : VT n us) (J : Conn n (ts ++ us)) (h0 : 0 < n) (hn : n ≤ 20) (hl : (ts ++ us).length ≤ 30) : F_Net_further [netD n ts, .lst (us.map pairD)] = some (netD n (ts ++ us), []) := by
  have net := net_okC V J h0 hn hl
  have at' := are_ties_ok VU
  have a1 := at_ties n ts
  have a2 := at_posts n ts
  let E : DL.Env := [some (netD n ts), some (.lst (us.map pairD))]
  have aa : aS (fAt 0 "ties" (fV 0)) (aS (fV 1) aN) E = some (((ts ++ us).map pairD).map B.val, E) := by
    have h := r_aS (f := fAt 0 "ties" (fV 0)) (fa := aS (fV 1) aN) (env := E) (xs := ts.map pairD) (q_At rfl rfl a1) rfl rfl (r_aS (f := fV 1) (fa := aN) (xs := us.map pairD) rfl rfl rfl r_aN)
    rw [List.append_nil] at h
    rw [List.map_append, List.map_append]
    exact h
  have b1 : b_Net_further E = some (.rt (netD n (ts ++ us)) E) := by
    unfold b_Net_further
    exact r_Q (r_sF (r_notT (r_T (r_C0 (r_aC rfl (r_aC (q_At rfl rfl a2) r_aN)) rfl at' rfl))) rfl) (r_R (r_O (r_Mk (r_aC (q_At rfl rfl a2) (r_aC (r_O (r_lst aa (vals_map _) (by rw [List.length_map]; omega))) r_aN)) rfl net rfl)))
  exact q_run (c := c_Net_further) (fb := b_Net_further) (e0 := E) rfl b1 rfl
theorem lotsN {n : Nat} (h : 2 ≤ n) (h2 : n ≤ 6) : LOTS n ≠ [] := by
  match n, h, h2 with
  | 2, _, _ => decide
  | 3, _, _ => decide
  | 4, _, _ => decide
  | 5, _, _ => decide
  | 6, _, _ => decide
theorem seenI {n : Nat} {ts : List (Int × Int)} (h1 : 2 ≤ n) (h2 : n ≤ 6) : F_seen [netD n ts] = some (.int (minI (sizes n ts) - 1), []) := by
  have l := least_cut_ok (ts := ts) (show 1 ≤ n by omega) h2
  unfold leastD at l
  rw [lots_emp.mpr (lotsN h1 h2)] at l
  exact r_run (fl := .rt _ [some (netD n ts), some (.int (minI (sizes n ts)))]) (r_Q (r_set (r_C0 (r_aC rfl r_aN) rfl l rfl) rfl) (r_R (r_ifF (r_T (r_2 rfl rfl rfl rfl rfl)) (r_2 rfl rfl rfl rfl rfl)))) rfl
theorem toldI {n : Nat} {ts : List (Int × Int)} (h1 : 2 ≤ n) (h2 : n ≤ 6) : F_told [netD n ts] = some (.int ((minI (sizes n ts) - 1).fdiv 2), []) := by
  have l := told_ok (ts := ts) (show 1 ≤ n by omega) h2
  unfold toldD at l
  rw [lots_emp.mpr (lotsN h1 h2)] at l
  exact l
def wv (n : Nat) (us : List (Int × Int)) : Int × Int := (minI (sizes n us) - 1, (minI (sizes n us) - 1).fdiv 2)
theorem VT_snoc {n : Int} {ts : List (Int × Int)} {a b : Int} (V : VT n ts) (ha : 0 ≤ a ∧ a < n) (hb : 0 ≤ b ∧ b < n) (ne : a ≠ b) : VT n (ts ++ [(a, b)]) ∧ VT n [(a, b)] := by
  have one : VT n [(a, b)] := fun q hq => by
    rw [List.mem_singleton.mp hq]
    exact ⟨ha.1, ha.2, hb.1, hb.2, ne⟩
  exact ⟨fun q hq => (List.mem_append.mp hq).elim (V q) (one q), one⟩
theorem further_me {n : Nat} {ts us : List (Int × Int)} {env e2 : DL.Env} {fo : EF} {fa : AF} (fu : F_Net_further [netD n ts, .lst (us.map pairD)] = some (netD n (ts ++ us), [])) (ho : fo env = some (.val (netD n ts), env)) (ha : AV fa env [.lst (us.map pairD)] e2) : fMe 0 "further" 2 F_Net_further [] fo fa env = some (.val (netD n (ts ++ us)), e2) := by
  unfold netD at ho fu
  exact q_Me (ds := [.lst (us.map pairD)]) ho (by kernel_rfl) ha rfl fu rfl
theorem worth_ok {n : Nat} {ts : List (Int × Int)} {a b : Int} (h1 : 2 ≤ n) (h2 : n ≤ 6) (V : VT n ts) (J : Conn n ts) (hl : ts.length ≤ 29) (ha : 0 ≤ a ∧ a < (n : Int)) (hb : 0 ≤ b ∧ b < (n : Int)) (ne : a ≠ b) : F_worth [netD n ts, .int a, .int b] = some (pairD (wv n (ts ++ [(a, b)])), []) := by
  obtain ⟨V2, V1⟩ := VT_snoc V ha hb ne
  have fu := further_ok V2 V1 (J.more fun q hq => List.mem_append_left _ hq) (by omega) (by omega) (by rw [List.length_append, List.length_singleton]; omega)
  have se := seenI (ts := ts ++ [(a, b)]) h1 h2
  have te := toldI (ts := ts ++ [(a, b)]) h1 h2
  let E : Option D → DL.Env := fun w => [some (netD n ts), some (.int a), some (.int b), w]
  have me : fMe 0 "further" 2 F_Net_further [] (fV 0) (aC (fO (oLst (aC (fTup (aC (fV 1) (aC (fV 2) aN))) aN))) aN) (E none) = some (.val (netD n (ts ++ [(a, b)])), E none) := further_me fu rfl (av_C (r_O (q_lst (ds := [pairD (a, b)]) (av_C (q_tup (ds := [.int a, .int b]) (av_C rfl (av_C rfl av_N)) (show 2 ≤ 16777216 by decide)) av_N) (show 1 ≤ 16777216 by decide))) av_N)
  have b1 : b_worth (E none) = some (.rt (pairD (wv n (ts ++ [(a, b)]))) (E (some (netD n (ts ++ [(a, b)]))))) := by
    unfold b_worth
    exact r_Q (r_set me rfl) (r_R (q_tup (ds := [.int (minI (sizes n (ts ++ [(a, b)])) - 1), .int ((minI (sizes n (ts ++ [(a, b)])) - 1).fdiv 2)]) (av_C (r_C0 (r_aC rfl r_aN) rfl se rfl) (av_C (r_C0 (r_aC rfl r_aN) rfl te rfl) av_N)) (show 2 ≤ 16777216 by decide)))
  exact q_run (c := c_worth) (fb := b_worth) (e0 := E none) rfl b1 rfl
/-! the best ties -/
def PR0 : Nat → List (Int × Int)
  | 2 => [(0, 1)]
  | 3 => [(0, 1), (0, 2), (1, 2)]
  | 4 => [(0, 1), (0, 2), (1, 2), (0, 3), (1, 3), (2, 3)]
  | 5 => [(0, 1), (0, 2), (1, 2), (0, 3), (1, 3), (2, 3), (0, 4), (1, 4), (2, 4), (3, 4)]
  | 6 => [(0, 1), (0, 2), (1, 2), (0, 3), (1, 3), (2, 3), (0, 4), (1, 4), (2, 4), (3, 4), (0, 5), (1, 5), (2, 5), (3, 5), (4, 5)]
  | _ => []
def PRS : Nat → List (Int × Int)
  | 2 => [(0, 1)]
  | 3 => [(0, 1), (0, 2), (1, 2)]
  | 4 => [(0, 1), (0, 2), (0, 3), (1, 2), (1, 3), (2, 3)]
  | 5 => [(0, 1), (0, 2), (0, 3), (0, 4), (1, 2), (1, 3), (1, 4), (2, 3), (2, 4), (3, 4)]
  | 6 => [(0, 1), (0, 2), (0, 3), (0, 4), (0, 5), (1, 2), (1, 3), (1, 4), (1, 5), (2, 3), (2, 4), (2, 5), (3, 4), (3, 5), (4, 5)]
  | _ => []
theorem prs_in {n : Nat} (h1 : 1 ≤ n) (h2 : n ≤ 6) : (∀ q ∈ PRS n, 0 ≤ q.1 ∧ q.1 < q.2 ∧ q.2 < (n : Int)) ∧ (PRS n).length ≤ 15 := by
  match n, h1, h2 with
  | 1, _, _ => decide
  | 2, _, _ => decide
  | 3, _, _ => decide
  | 4, _, _ => decide
  | 5, _, _ => decide
  | 6, _, _ => decide
abbrev B8 (n : Nat) (ts : List (Int × Int)) (x1 x2 x3 x4 x5 : Option D) : DL.Env := [some (netD n ts), x1, x2, x3, x4, x5, none, none]
theorem prs_set {n : Nat} {ts : List (Int × Int)} (h1 : 1 ≤ n) (h2 : n ≤ 6) : sSet 1 (fO (oLc2 (iR1 (aC (fAt 0 "posts" (fV 0)) aN)) (gN 6) (iR1 (aC (fV 6) aN)) (gN 7) tYesF (fTup (aC (fV 7) (aC (fV 6) aN))) [6, 7] [7])) (B8 n ts none none none none none) = some (.nx (B8 n ts (some (.lst ((PR0 n).map pairD))) none none none none)) := by
  match n, h1, h2 with
  | 1, _, _ => kernel_rfl
  | 2, _, _ => kernel_rfl
  | 3, _, _ => kernel_rfl
  | 4, _, _ => kernel_rfl
  | 5, _, _ => kernel_rfl
  | 6, _, _ => kernel_rfl
theorem prs_sort {n : Nat} (h1 : 1 ≤ n) (h2 : n ≤ 6) : sortedD [.lst ((PR0 n).map pairD)] = some (.lst ((PRS n).map pairD)) := by
  match n, h1, h2 with
  | 1, _, _ => kernel_rfl
  | 2, _, _ => kernel_rfl
  | 3, _, _ => kernel_rfl
  | 4, _, _ => kernel_rfl
  | 5, _, _ => kernel_rfl
  | 6, _, _ => kernel_rfl
/-- one more pair looked at -/
def bestS (s : List (Int × Int) × (Int × Int)) (p v : Int × Int) : List (Int × Int) × (Int × Int) :=
  if HT.lexLt [s.2.1, s.2.2] [v.1, v.2] = true then ([p], v) else if v = s.2 then (s.1 ++ [p], s.2) else s
def bestF (val : Int × Int → Int × Int) : List (Int × Int) → List (Int × Int) × (Int × Int) → List (Int × Int) × (Int × Int)
  | [], s => s
  | p :: ps, s => bestF val ps (bestS s p (val p))
def bestV (n : Nat) (ts : List (Int × Int)) : List (Int × Int) := (bestF (fun p => wv n (ts ++ [p])) (PRS n) ([], (-1, -1))).1
theorem gt_pair (v m : Int × Int) : gtTD (pairD v) (pairD m) = some (.bl (HT.lexLt [m.1, m.2] [v.1, v.2])) := rfl
theorem eq_pair (v m : Int × Int) : eqD (pairD v) (pairD m) = some (.bl (decide (v = m))) := by
  have e : eqD (pairD v) (pairD m) = some (.bl (v.1 == m.1 && (v.2 == m.2 && true))) := rfl
  rw [e, Bool.and_true]
  have : (v.1 == m.1 && v.2 == m.2) = decide (v = m) := by
    rw [Bool.eq_iff_iff, Bool.and_eq_true, beq_iff_eq, beq_iff_eq, decide_eq_true_eq, Prod.ext_iff]
  rw [this]
theorem best_turn {n : Nat} {ts : List (Int × Int)} {x1 x5 : Option D} {p : Int × Int} {s : List (Int × Int) × (Int × Int)} {v : Int × Int} (w : F_worth [netD n ts, .int p.1, .int p.2] = some (pairD v, [])) (hl : s.1.length ≤ 1000) : lp_best_ties_1 (B8 n ts x1 (some (pairD p)) (some (.lst (s.1.map pairD))) (some (pairD s.2)) x5) = some (.nx (B8 n ts x1 (some (pairD p)) (some (.lst ((bestS s p v).1.map pairD))) (some (pairD (bestS s p v).2)) (some (pairD v)))) := by
  have p0 : subSc (pairD p) (.int 0) = some (.int p.1) := rfl
  have p1 : subSc (pairD p) (.int 1) = some (.int p.2) := rfl
  have s5 : sSet 5 (fC0 3 F_worth [] (aC (fV 0) (aC (f2 subSc (fV 2) (fC (.int 0))) (aC (f2 subSc (fV 2) (fC (.int 1))) aN)))) (B8 n ts x1 (some (pairD p)) (some (.lst (s.1.map pairD))) (some (pairD s.2)) x5) = some (.nx (B8 n ts x1 (some (pairD p)) (some (.lst (s.1.map pairD))) (some (pairD s.2)) (some (pairD v)))) := r_set (r_C0 (r_aC rfl (r_aC (r_2 rfl rfl rfl rfl p0) (r_aC (r_2 rfl rfl rfl rfl p1) r_aN))) rfl w rfl) rfl
  have gq := gt_pair v s.2
  have ext : ∀ (f ys : List (Int × Int)) (m : Int × Int) (fe : EF), f.length ≤ 1000 → ys.length ≤ 1 → fe (B8 n ts x1 (some (pairD p)) (some (.lst (f.map pairD))) (some (pairD m)) (some (pairD v))) = some (.val (.lst (ys.map pairD)), B8 n ts x1 (some (pairD p)) (some (.lst (f.map pairD))) (some (pairD m)) (some (pairD v))) → sX (fExt 3 fe) (B8 n ts x1 (some (pairD p)) (some (.lst (f.map pairD))) (some (pairD m)) (some (pairD v))) = some (.nx (B8 n ts x1 (some (pairD p)) (some (.lst ((f ++ ys).map pairD))) (some (pairD m)) (some (pairD v)))) := fun f ys m fe h1 h2 h => by
    rw [List.map_append]
    exact r_sXL (q_Ext rfl h rdb_v rfl (by rw [List.length_map, List.length_map]; omega) rfl)
  have one : ∀ e : DL.Env, gt e 2 = some (pairD p) → fO (oLst (aC (fV 2) aN)) e = some (.val (.lst ([p].map pairD)), e) := fun e h => r_O (q_lst (ds := [pairD p]) (av_C (r_V h) av_N) (show 1 ≤ 16777216 by decide))
  have non : ∀ e : DL.Env, fO (oLst aN) e = some (.val (.lst (([] : List (Int × Int)).map pairD)), e) := fun e => r_O (q_lst (ds := []) av_N (Nat.zero_le _))
  unfold lp_best_ties_1 bestS
  by_cases g : HT.lexLt [s.2.1, s.2.2] [v.1, v.2] = true
  · rw [g] at gq
    rw [if_pos g]
    have eq := eq_pair v v
    rw [decide_eq_true rfl] at eq
    refine r_Q s5 (r_Q (e1 := B8 n ts x1 (some (pairD p)) (some (.lst (([] : List (Int × Int)).map pairD))) (some (pairD v)) (some (pairD v))) (r_sT (r_T (r_2 rfl rfl rfl rfl gq)) (q_par (q_lst (ds := []) av_N (Nat.zero_le _)) (q_P rfl) rfl rfl)) ?_)
    have h := ext [] [p] v _ (Nat.zero_le _) (Nat.le_refl _) (r_ifT (g := fO (oLst aN)) (r_T (r_2 (f := fV 5) (g := fV 4) rfl rfl rfl rfl eq)) (one _ rfl))
    exact h
  · have g' : HT.lexLt [s.2.1, s.2.2] [v.1, v.2] = false := Bool.eq_false_iff.mpr g
    rw [g'] at gq
    rw [if_neg g]
    have eq := eq_pair v s.2
    have r1 : sIf (fTst (f2 gtTD (fV 5) (fV 4))) (sPar 3 4 (oLst aN) (oP (fV 5))) sN (B8 n ts x1 (some (pairD p)) (some (.lst (s.1.map pairD))) (some (pairD s.2)) (some (pairD v))) = some (.nx (B8 n ts x1 (some (pairD p)) (some (.lst (s.1.map pairD))) (some (pairD s.2)) (some (pairD v)))) := r_sF (r_T (r_2 rfl rfl rfl rfl gq)) rfl
    by_cases z : v = s.2
    · rw [decide_eq_true z] at eq
      rw [if_pos z]
      exact r_Q s5 (r_Q r1 (ext s.1 [p] s.2 _ hl (Nat.le_refl _) (r_ifT (g := fO (oLst aN)) (r_T (r_2 (f := fV 5) (g := fV 4) rfl rfl rfl rfl eq)) (one _ rfl))))
    · rw [decide_eq_false z] at eq
      rw [if_neg z]
      have h := ext s.1 [] s.2 _ hl (Nat.zero_le _) (r_ifF (f := fO (oLst (aC (fV 2) aN))) (r_T (r_2 (f := fV 5) (g := fV 4) rfl rfl rfl rfl eq)) (non _))
      rw [List.append_nil] at h
      exact r_Q s5 (r_Q r1 h)
theorem bestS_len (s : List (Int × Int) × (Int × Int)) (p v : Int × Int) : (bestS s p v).1.length ≤ s.1.length + 1 := by
  unfold bestS
  split
  · simp
  · split
    · simp
    · omega
theorem best_loop {n : Nat} {ts : List (Int × Int)} {x1 : Option D} (h1 : 2 ≤ n) (h2 : n ≤ 6) (V : VT n ts) (J : Conn n ts) (hl : ts.length ≤ 29) : ∀ (ps : List (Int × Int)) (s : List (Int × Int) × (Int × Int)) (x2 x5 : Option D), (∀ q ∈ ps, 0 ≤ q.1 ∧ q.1 < q.2 ∧ q.2 < (n : Int)) → s.1.length + ps.length ≤ 1000 →
    ∃ y2 y5, forD (gN 2) lp_best_ties_1 (ps.map pairD) (B8 n ts x1 x2 (some (.lst (s.1.map pairD))) (some (pairD s.2)) x5) = some (.nx (B8 n ts x1 y2 (some (.lst ((bestF (fun p => wv n (ts ++ [p])) ps s).1.map pairD))) (some (pairD (bestF (fun p => wv n (ts ++ [p])) ps s).2)) y5))
  | [], s, x2, x5, _, _ => ⟨x2, x5, rfl⟩
  | p :: ps, s, x2, x5, h, hs => by
    rw [List.length_cons] at hs
    obtain ⟨a, b, c⟩ := h p (List.mem_cons_self ..)
    have w := worth_ok h1 h2 V J hl (a := p.1) (b := p.2) ⟨a, by omega⟩ ⟨by omega, c⟩ (by omega)
    have t := best_turn (x1 := x1) (x5 := x5) (s := s) w (by omega)
    have bl := bestS_len s p (wv n (ts ++ [p]))
    obtain ⟨y2, y5, f⟩ := best_loop (x1 := x1) h1 h2 V J hl ps (bestS s p (wv n (ts ++ [p]))) (some (pairD p)) (some (pairD (wv n (ts ++ [p])))) (fun q hq => h q (List.mem_cons_of_mem _ hq)) (by omega)
    refine ⟨y2, y5, ?_⟩
    have e0 : gN 2 (pairD p) (B8 n ts x1 x2 (some (.lst (s.1.map pairD))) (some (pairD s.2)) x5) = some (B8 n ts x1 (some (pairD p)) (some (.lst (s.1.map pairD))) (some (pairD s.2)) x5) := rfl
    rw [List.map_cons]
    simp only [forD, e0, Option.bind_some, t]
    exact f
theorem best_ok {n : Nat} {ts : List (Int × Int)} (h1 : 2 ≤ n) (h2 : n ≤ 6) (V : VT n ts) (J : Conn n ts) (hl : ts.length ≤ 29) : F_best_ties [netD n ts] = some (.tup ((bestV n ts).map pairD), []) := by
  have s1 := prs_set (ts := ts) (show 1 ≤ n by omega) h2
  have so := prs_sort (show 1 ≤ n by omega) h2
  obtain ⟨pi, pl⟩ := prs_in (show 1 ≤ n by omega) h2
  obtain ⟨y2, y5, f⟩ := best_loop (x1 := some (.lst ((PR0 n).map pairD))) h1 h2 V J hl (PRS n) ([], (-1, -1)) none none pi (by rw [List.length_nil]; omega)
  have tx : tupleX [.lst ((bestV n ts).map pairD)] = some (.tup ((bestV n ts).map pairD)) := rfl
  have s2 : sPar 3 4 (oLst aN) (oP (fTup (aC (fNeg (fC (.int 1))) (aC (fNeg (fC (.int 1))) aN)))) (B8 n ts (some (.lst ((PR0 n).map pairD))) none none none none) = some (.nx (B8 n ts (some (.lst ((PR0 n).map pairD))) none (some (.lst (([] : List (Int × Int)).map pairD))) (some (pairD (-1, -1))) none)) := q_par (q_lst (ds := []) av_N (Nat.zero_le _)) (q_P (q_tup (ds := [.int (-1), .int (-1)]) (av_C (q_neg rfl rdb_v) (av_C (q_neg rfl rdb_v) av_N)) (show 2 ≤ 16777216 by decide))) rfl rfl
  have b1 : b_best_ties (B8 n ts none none none none none) = some (.rt (.tup ((bestV n ts).map pairD)) (B8 n ts (some (.lst ((PR0 n).map pairD))) y2 (some (.lst ((bestV n ts).map pairD))) (some (pairD (bestF (fun p => wv n (ts ++ [p])) (PRS n) ([], (-1, -1))).2)) y5)) := by
    unfold b_best_ties tl_best_ties_1
    exact r_Q s1 (r_Q s2 (r_Q (r_for (r_X (r_O (r_OB (r_aC rfl r_aN) rfl so)) rfl) f) (r_R (r_B (r_aC (r_S rfl) r_aN) rfl tx))))
  exact q_run (c := c_best_ties) (fb := b_best_ties) (e0 := B8 n ts none none none none none) rfl b1 rfl
end LW

namespace LW
open PySem L2 DL
/-! ### the text of a net; nets compared by it -/
def numS (i : Int) : Str := Str.ofString (toString i)
theorem numS_len {i : Int} (h0 : 0 ≤ i) (h1 : i < 100) : (numS i).length ≤ 2 := by
  have key : ∀ i : Fin 100, (Str.ofString (toString ((i.val : Nat) : Int))).length ≤ 2 := by decide +kernel
  obtain ⟨n, rfl⟩ : ∃ n : Nat, i = n := ⟨i.toNat, by omega⟩
  exact key ⟨n, by omega⟩
def lineS (w : Str) (ns : List Int) : Str := Txt.join " " (w :: ns.map numS)
def textS (n : Int) (ts : List (Int × Int)) : Str := Txt.join "\n" (lineS "posts" [n] :: ts.map fun q => lineS "tie" [q.1, q.2])
theorem sum_le {α : Type} {f : α → Nat} {b : Nat} : ∀ {xs : List α}, (∀ x ∈ xs, f x ≤ b) → (xs.map f).sum ≤ xs.length * b
  | [], _ => by simp
  | x :: xs, h => by
    have h1 := h x List.mem_cons_self
    have h2 := sum_le (f := f) (b := b) fun y hy => h y (List.mem_cons_of_mem x hy)
    rw [List.map_cons, List.sum_cons, List.length_cons, Nat.succ_mul]
    omega
theorem join_ok {a : Str} {ys : List Str} {b : Nat} (h : ∀ y ∈ ys, y.length ≤ b) (ha : a.length ≤ 1) (hz : ys.length * (b + 1) ≤ 16777216) : joinD (.str a) (.lst (ys.map D.str)) = some (.str (Txt.join a ys)) := by
  show (strsD (ys.map D.str)).bind _ = _
  rw [strsD_map, Option.bind_some, if_pos]
  have := sum_le (f := fun z : Str => z.length) (b := b) h
  have e : ys.length * (b + 1) = ys.length * b + ys.length := Nat.mul_succ _ _
  have l : ys.length * a.length ≤ ys.length * 1 := Nat.mul_le_mul_left _ ha
  omega
theorem line_ok {w : Str} {ns : List Int} {d : D} (hd : itms d = some (ns.map D.int)) (h : ∀ i ∈ ns, 0 ≤ i ∧ i < 100) (hn : ns.length ≤ 100) (hw : w.length ≤ 5) : F_line_of [.str w, d] = some (.str (lineS w ns), []) := by
  have lc := lcD_all (gg := gN 2) (f := fB strI (aC (fV 2) aN)) (own := [2]) (env := [some (.str w), some d, none]) D.int (fun i => D.str (numS i)) (fun i => [some (.str w), some d, some (.int i)]) ns fun i hi => by
    have := h i hi
    exact ⟨rfl, r_B (r_aC rfl r_aN) rfl (strI_small (by omega)), rfl⟩
  have e : (ns.map fun i => D.str (numS i)) = (ns.map numS).map D.str := by rw [List.map_map]; rfl
  rw [e] at lc
  have jo := join_ok (a := " ") (ys := w :: ns.map numS) (b := 5) (fun y hy => by
    rcases List.mem_cons.mp hy with z | z
    · rw [z]; exact hw
    · obtain ⟨i, hi, rfl⟩ := List.mem_map.mp z
      have := h i hi
      exact Nat.le_trans (numS_len this.1 this.2) (by decide)) (by decide) (by rw [List.length_cons, List.length_map]; omega)
  have fo : oLst (aC (fV 0) (aS (fO (oLc (iX (fV 1)) (gN 2) tYesF (fB strI (aC (fV 2) aN)) [2])) aN)) [some (.str w), some d, none] = some (.lst ((w :: ns.map numS).map D.str), [some (.str w), some d, none]) := by
    refine (r_lst (ds := D.str w :: ((ns.map numS).map D.str ++ [])) (r_aC rfl (r_aS (r_O (r_Lc (r_X rfl hd) lc rfl)) rfl rfl r_aN)) (by show (vals _).bind _ = _; rw [vals_app _ rfl]; rfl) (by rw [List.length_cons, List.length_append, List.length_map, List.length_map, List.length_nil]; omega)).trans ?_
    rw [List.append_nil]
    rfl
  exact r_run (fl := .rt (.str (lineS w ns)) [some (.str w), some d, none]) (r_R (r_2 rfl (r_O fo) rfl rfl jo)) rfl
theorem line_len {w : Str} {ns : List Int} (h : ∀ i ∈ ns, 0 ≤ i ∧ i < 100) (hn : ns.length ≤ 100) (hw : w.length ≤ 5) : (lineS w ns).length ≤ 5 + (ns.length + 1) * 6 := by
  unfold lineS
  rw [TL.join_eq]
  refine Nat.le_trans (StrLaws.join_length_le _ _) ?_
  have a := sum_le (f := fun z : Str => z.length) (b := 2) (xs := ns.map numS) fun y hy => by
    obtain ⟨i, hi, rfl⟩ := List.mem_map.mp hy
    have := h i hi
    exact numS_len this.1 this.2
  have b : (Str.ofString " ").length = 1 := by decide +kernel
  rw [List.length_map] at a
  rw [List.map_cons, List.sum_cons, List.length_cons, List.length_map]
  have c : (ns.length + 1) * (Str.ofString " ").length = ns.length + 1 := by rw [b, Nat.mul_one]
  omega
theorem text_join {n : Nat} {ts : List (Int × Int)} (hn : n ≤ 90) (V : VT n ts) (ht : ts.length ≤ 100) : joinD (.str "\n") (.lst ((lineS "posts" [(n : Int)] :: ts.map fun q => lineS "tie" [q.1, q.2]).map D.str)) = some (.str (textS n ts)) := by
  have lr : ∀ q ∈ ts, ∀ i ∈ [q.1, q.2], 0 ≤ i ∧ i < 100 := fun q hq i hi => by
    have v := V q hq
    simp only [List.mem_cons, List.not_mem_nil, or_false] at hi
    rcases hi with z | z <;> subst z <;> omega
  have l0 : (lineS "posts" [(n : Int)]).length ≤ 23 := Nat.le_trans (line_len (fun i hi => by rw [List.mem_singleton] at hi; omega) (show 1 ≤ 100 by decide) (by decide +kernel)) (show 5 + (1 + 1) * 6 ≤ 23 by decide)
  have l1 : ∀ q ∈ ts, (lineS "tie" [q.1, q.2]).length ≤ 23 := fun q hq => line_len (lr q hq) (by decide : 2 ≤ 100) (by decide +kernel)
  have jo := join_ok (a := "\n") (ys := lineS "posts" [(n : Int)] :: ts.map fun q => lineS "tie" [q.1, q.2]) (b := 23) (fun y hy => by
    rcases List.mem_cons.mp hy with z | z
    · rw [z]; exact l0
    · obtain ⟨q, hq, e⟩ := List.mem_map.mp z
      rw [← e]
      exact l1 q hq) (by decide +kernel) (by rw [List.length_cons, List.length_map]; omega)
  exact jo
theorem text_ok {n : Nat} {ts : List (Int × Int)} (hn : n ≤ 90) (V : VT n ts) (ht : ts.length ≤ 100) : F_Net___str__ [netD n ts] = some (.str (textS n ts), []) := by
  have l0 := line_ok (w := "posts") (ns := [(n : Int)]) (d := .lst [.int n]) rfl (fun i hi => by rw [List.mem_singleton] at hi; omega) (show 1 ≤ 100 by decide) (by decide +kernel)
  have lr : ∀ q ∈ ts, ∀ i ∈ [q.1, q.2], 0 ≤ i ∧ i < 100 := fun q hq i hi => by
    have v := V q hq
    simp only [List.mem_cons, List.not_mem_nil, or_false] at hi
    rcases hi with z | z <;> subst z <;> omega
  have lc := lcD_all (gg := gN 1) (f := fC0 2 F_line_of [] (aC (fC (.str "tie")) (aC (fV 1) aN))) (own := [1]) (env := [some (netD n ts), none]) pairD (fun q => D.str (lineS "tie" [q.1, q.2])) (fun q => [some (netD n ts), some (pairD q)]) ts fun q hq =>
    ⟨rfl, r_C0 (r_aC rfl (r_aC rfl r_aN)) rfl (line_ok (w := "tie") (ns := [q.1, q.2]) (d := pairD q) rfl (lr q hq) (by decide : 2 ≤ 100) (by decide +kernel)) rfl, rfl⟩
  have e : (ts.map fun q => D.str (lineS "tie" [q.1, q.2])) = (ts.map fun q => lineS "tie" [q.1, q.2]).map D.str := by rw [List.map_map]; rfl
  rw [e] at lc
  have jo := join_ok (a := "\n") (ys := lineS "posts" [(n : Int)] :: ts.map fun q => lineS "tie" [q.1, q.2]) (b := 23) (fun y hy => by
    rcases List.mem_cons.mp hy with z | z
    · rw [z]
      exact Nat.le_trans (line_len (fun i hi => by rw [List.mem_singleton] at hi; omega) (show 1 ≤ 100 by decide) (by decide +kernel)) (show 5 + (1 + 1) * 6 ≤ 23 by decide)
    · obtain ⟨q, hq, rfl⟩ := List.mem_map.mp z
      exact line_len (lr q hq) (by decide : 2 ≤ 100) (by decide +kernel)) (by decide +kernel) (by rw [List.length_cons, List.length_map]; omega)
  have it : iX (fAt 0 "ties" (fV 0)) [some (netD n ts), none] = some (ts.map pairD, [some (netD n ts), none]) := r_X (r_At rfl rfl (at_ties _ _)) rfl
  have sb : oLc (iX (fAt 0 "ties" (fV 0))) (gN 1) tYesF (fC0 2 F_line_of [] (aC (fC (.str "tie")) (aC (fV 1) aN))) [1] [some (netD n ts), none] = some (.lst ((ts.map fun q => lineS "tie" [q.1, q.2]).map D.str), [some (netD n ts), none]) := r_Lc it lc rfl
  have c0 : fC0 2 F_line_of [] (aC (fC (.str "posts")) (aC (fO (oLst (aC (fAt 0 "posts" (fV 0)) aN))) aN)) [some (netD n ts), none] = some (.val (.str (lineS "posts" [(n : Int)])), [some (netD n ts), none]) := r_C0e (ds := [.str "posts", .lst [.int n]]) (r_aC rfl (r_aC (r_O (r_lst (ds := [.int n]) (r_aC (r_At rfl rfl (at_posts _ _)) r_aN) rfl (show 1 ≤ 16777216 by decide))) r_aN)) l0 rfl
  have fo : oLst (aC (fC0 2 F_line_of [] (aC (fC (.str "posts")) (aC (fO (oLst (aC (fAt 0 "posts" (fV 0)) aN))) aN))) (aS (fO (oLc (iX (fAt 0 "ties" (fV 0))) (gN 1) tYesF (fC0 2 F_line_of [] (aC (fC (.str "tie")) (aC (fV 1) aN))) [1])) aN)) [some (netD n ts), none] = some (.lst ((lineS "posts" [(n : Int)] :: ts.map fun q => lineS "tie" [q.1, q.2]).map D.str), [some (netD n ts), none]) := by
    refine (r_lst (ds := D.str (lineS "posts" [(n : Int)]) :: ((ts.map fun q => lineS "tie" [q.1, q.2]).map D.str ++ [])) (r_aC c0 (r_aS (r_O sb) rfl rfl r_aN)) (by show (vals _).bind _ = _; rw [vals_app _ rfl]; rfl) (by rw [List.length_cons, List.length_append, List.length_map, List.length_map, List.length_nil]; omega)).trans ?_
    rw [List.append_nil]
    rfl
  exact r_run (fl := .rt (.str (textS n ts)) [some (netD n ts), none]) (r_R (r_2 rfl (r_O fo) rfl rfl jo)) rfl
theorem eqD_str (x y : Str) : eqD (.str x) (.str y) = some (.bl (decide (x = y))) := by
  show some (D.bl (x == y)) = _
  congr 2
theorem net_eq {n m : Nat} {ts us : List (Int × Int)} (hn : n ≤ 90) (hm : m ≤ 90) (V : VT n ts) (W : VT m us) (ht : ts.length ≤ 100) (hu : us.length ≤ 100) : F_Net___eq__ [netD n ts, netD m us] = some (.bl (decide (textS n ts = textS m us)), []) := by
  have e := eqD_str (textS n ts) (textS m us)
  exact r_run (fl := .rt (.bl (decide (textS n ts = textS m us))) [some (netD n ts), some (netD m us)]) (r_R (r_andVT (q_isO rfl) (r_2 (q_strO rfl (text_ok hn V ht)) (q_strO rfl (text_ok hm W hu)) rfl rfl e))) rfl
theorem net_ne_same {n : Nat} {ts : List (Int × Int)} {f g : EF} {env e1 e2 : DL.Env} (hn : n ≤ 90) (V : VT n ts) (ht : ts.length ≤ 100) (h1 : f env = some (.val (netD n ts), e1)) (h2 : g e1 = some (.val (netD n ts), e2)) : fTst (fOwn 0 F_Net___eq__ not f g) env = some (false, e2) := by
  have e := net_eq hn hn V V ht ht
  rw [decide_eq_true rfl] at e
  exact r_T (q_own h1 h2 e)
end LW

namespace LW
open PySem L2 DL
/-! ### data that is the same -/
mutual
theorem eqv_refl : ∀ d : D, DL.plain d = true → eqv d d = true
  | .non, _ => rfl
  | .bl b, _ => by cases b <;> rfl
  | .int i, _ => beq_self_eq_true i
  | .str x, _ => beq_self_eq_true x
  | .lst xs, h => eqvAll_refl xs h
  | .tup xs, h => eqvAll_refl xs h
  | .dic _, h => by cases h
  | .obj _ _, h => by cases h
  | .scr _, h => by cases h
  | .cel _, h => by cases h
termination_by structural x => x
theorem eqvAll_refl : ∀ xs : List D, plains xs = true → eqvAll xs xs = true
  | [], _ => rfl
  | x :: xs, h => by
    obtain ⟨h1, h2⟩ := andB h
    show (eqv x x && eqvAll xs xs) = true
    rw [eqv_refl x h1, eqvAll_refl xs h2]
    rfl
termination_by structural x => x
end
theorem ne_same {d : D} (h : DL.plain d = true) (hd : dp d ≤ 60) : neD d d = some (.bl false) := by
  unfold neD
  rw [if_pos, eqv_refl d h]
  · rfl
  · have : decide (min (dp d) (dp d) ≤ 60) = true := by rw [decide_eq_true_eq]; omega
    rw [h, this]
    rfl
theorem dps_intsS (l : List Int) : dps (l.map D.int) = 0 := by
  induction l with
  | nil => rfl
  | cons y l ih =>
    have e : dps ((y :: l).map D.int) = max 0 (dps (l.map D.int)) := rfl
    rw [e, ih]
    rfl
theorem dps_lotsS (ls : List (List Int)) : dps (ls.map lotD) ≤ 1 := by
  induction ls with
  | nil => exact Nat.zero_le _
  | cons l ls ih =>
    have e : dps ((l :: ls).map lotD) = max (dps (l.map D.int) + 1) (dps (ls.map lotD)) := rfl
    rw [e, dps_intsS]
    omega
theorem plains_lotsS (ls : List (List Int)) : plains (ls.map lotD) = true := by
  induction ls with
  | nil => rfl
  | cons l ls ih =>
    have e : plains ((l :: ls).map lotD) = (plains (l.map D.int) && plains (ls.map lotD)) := rfl
    rw [e, ih, plains_ints]
    rfl
theorem small_log {x : Int} (h : x.natAbs < 1000000) : x.natAbs.log2 < 100 := by
  by_cases e : x.natAbs = 0
  · rw [e]; decide
  · rw [Nat.log2_lt e]
    exact Nat.lt_of_lt_of_le h (by decide)
theorem sm_ints {l : List Int} (h : ∀ x ∈ l, x.natAbs < 1000000) : smBs (l.map D.int) = true := by
  induction l with
  | nil => rfl
  | cons y l ih =>
    have e : smBs ((y :: l).map D.int) = (decide (y.natAbs.log2 < 100) && smBs (l.map D.int)) := rfl
    rw [e, ih fun x hx => h x (List.mem_cons_of_mem _ hx), decide_eq_true (small_log (h y (List.mem_cons_self ..)))]
    rfl
theorem cnts_ints (l : List Int) : cnts (l.map D.int) = l.length := by
  induction l with
  | nil => rfl
  | cons y l ih =>
    have e : cnts ((y :: l).map D.int) = 1 + cnts (l.map D.int) := rfl
    rw [e, ih, List.length_cons]; omega
theorem sm_lots {ls : List (List Int)} (h : ∀ l ∈ ls, ∀ x ∈ l, x.natAbs < 1000000) : smBs (ls.map lotD) = true := by
  induction ls with
  | nil => rfl
  | cons l ls ih =>
    have e : smBs ((l :: ls).map lotD) = (smBs (l.map D.int) && smBs (ls.map lotD)) := rfl
    rw [e, sm_ints (h l (List.mem_cons_self ..)), ih fun m hm => h m (List.mem_cons_of_mem _ hm)]
    rfl
theorem cnts_lots {ls : List (List Int)} {b : Nat} (h : ∀ l ∈ ls, l.length ≤ b) : cnts (ls.map lotD) ≤ ls.length * (b + 1) := by
  induction ls with
  | nil => exact Nat.zero_le _
  | cons l ls ih =>
    have e : cnts ((l :: ls).map lotD) = (cnts (l.map D.int) + 1) + cnts (ls.map lotD) := rfl
    have := ih fun m hm => h m (List.mem_cons_of_mem _ hm)
    have := h l (List.mem_cons_self ..)
    rw [e, cnts_ints, List.length_cons, Nat.succ_mul]
    omega
theorem repr_lots {ls : List (List Int)} (h1 : ls.length ≤ 70) (h2 : ∀ l ∈ ls, l.length ≤ 10) (h3 : ∀ l ∈ ls, ∀ x ∈ l, x.natAbs < 1000000) : reprD [.tup (ls.map lotD)] = some (.str (toPy (.tup (ls.map lotD))).shown) := by
  have a := sm_lots h3
  have b := cnts_lots h2
  have c := dps_lotsS ls
  have d1 : dp (.tup (ls.map lotD)) = dps (ls.map lotD) + 1 := rfl
  have d2 : cnt (.tup (ls.map lotD)) = cnts (ls.map lotD) + 1 := rfl
  have e : reprB (.tup (ls.map lotD)) = true := by
    unfold reprB
    have s : smB (.tup (ls.map lotD)) = true := a
    rw [s, decide_eq_true (show dp (.tup (ls.map lotD)) ≤ 50 by omega), decide_eq_true (show cnt (.tup (ls.map lotD)) ≤ 1000 by omega)]
    rfl
  show (if reprB (.tup (ls.map lotD)) = true then some (D.str (toPy (.tup (ls.map lotD))).shown) else none) = _
  rw [if_pos e]
theorem ne_str (x : Str) : neD (.str x) (.str x) = some (.bl false) := ne_same rfl (show 0 ≤ 60 by decide)
end LW

namespace LW
open PySem L2 DL
/-! ### the law's numbers -/
def rawN (b t : Int) : Int := ((b + 104729 * (t + 1)) * 69829).fmod 2147483647
def seedN (r : Int) : Int := (r * 48271 + 30103).fmod 2147483629 + 1
theorem seedN_ok (r : Int) : 0 ≤ seedN r ∧ seedN r < 4294967296 := by
  have h1 := Int.fmod_nonneg_of_pos (r * 48271 + 30103) (show (0 : Int) < 2147483629 by decide)
  have h2 := Int.fmod_lt_of_pos (r * 48271 + 30103) (show (0 : Int) < 2147483629 by decide)
  unfold seedN
  omega
theorem take_ok {bx : D} {m : Int} (hB : Bx bx) (hm : 0 < m) (hm2 : m < 1073741824) : ∃ d bx', F__law_take [bx, .int m] = some (.int d, [bx']) ∧ 0 ≤ d ∧ d < m ∧ Bx bx' := by
  obtain ⟨a, b, t, rfl, hb, hb2⟩ := hB
  have hm0 : m ≠ 0 := by omega
  have hmn : m.natAbs < 1073741824 := by omega
  have hm3 : m < 1099511627776 := by omega
  by_cases h : 0 < a
  · refine ⟨a.fmod m, .lst [.int (a.fdiv m), .int b, .int t], ?_, Int.fmod_nonneg_of_pos _ hm, Int.fmod_lt_of_pos _ hm, _, _, _, rfl, hb, hb2⟩
    simp [F__law_take, b__law_take, runF, env0, sN, sQ, sIf, sSet, sSetO, sSetIx, sR, sRO, sX, sPar, sAsg, oP, oB, oLst, fTst, f2, fV, fS, fM, fC, fO, fB, fMt, fC0, fC1, oC0, oC1, ioArgs, fNot, fOr, fAnd, fNotV, fOrV, fAndV, fIf, fTup, aC, aN, rdB, rdAll, vals, gt, st, gN, gT, gC, gN0, iX, iR1, iR2, itms, itmsS, subSc, atI, isB, gtD, ltD, geD, leD, iiD, modD, fdivD, subD, intD, absD, lenD, lenOf, listX, listD, listK, tupleX, tupleD, tupleK, Option.some_or, Option.none_or, appD, popAtD, isLst, setD, endF, outsOf, addD, addII, mulD, powD, powB, gd, ixN, h, hm0, hmn]
  · refine ⟨((rawN b t * 2147483647 + seedN (rawN b t)).fdiv 8191).fmod m, .lst [.int a, .int (seedN (rawN b t)), .int (t + 1)], ?_, Int.fmod_nonneg_of_pos _ hm, Int.fmod_lt_of_pos _ hm, _, _, _, rfl, (seedN_ok _).1, (seedN_ok _).2⟩
    simp [F__law_take, b__law_take, runF, env0, sN, sQ, sIf, sSet, sSetO, sSetIx, sR, sRO, sX, sPar, sAsg, oP, oB, oLst, fTst, f2, fV, fS, fM, fC, fO, fB, fMt, fC0, fC1, oC0, oC1, ioArgs, fNot, fOr, fAnd, fNotV, fOrV, fAndV, fIf, fTup, aC, aN, rdB, rdAll, vals, gt, st, gN, gT, gC, gN0, iX, iR1, iR2, itms, itmsS, subSc, atI, isB, gtD, ltD, geD, leD, iiD, modD, fdivD, subD, intD, absD, lenD, lenOf, listX, listD, listK, tupleX, tupleD, tupleK, Option.some_or, Option.none_or, appD, popAtD, isLst, setD, endF, outsOf, addD, addII, mulD, powD, powB, gd, ixN, h, hm0, hmn, mulB_r, mulB_l, hm3, rawN, seedN]
/-! ### mixing -/
theorem mixed_turn {bx t2 : D} {xs left found : List D} {x2 : Option D} (hB : Bx bx) (hne : left ≠ []) (hl : left.length < 1073741824) (hf : found.length ≤ 16777215) :
    ∃ bx' i y, left[i]? = some y ∧ Bx bx' ∧ lp__law_mixed_1 [some bx, some (.lst xs), x2, some (.lst left), some (.lst found)] = some (.nx [some bx', some (.lst xs), x2, some (.lst (left.eraseIdx i)), some (.lst (found ++ [y]))]) := by
  have hpos : 0 < left.length := List.length_pos_iff.mpr hne
  obtain ⟨d, bx', h1, h2, h3, h4⟩ := take_ok hB (m := (left.length : Int)) (by omega) (by omega)
  have lt : d.toNat < left.length := by omega
  have hix : ixN left.length d = some d.toNat := by
    unfold ixN
    rw [if_pos h2, if_pos (by omega)]
  refine ⟨bx', d.toNat, left[d.toNat], List.getElem?_eq_getElem lt, h4, ?_⟩
  have hg := List.getElem?_eq_getElem lt
  simp [lp__law_mixed_1, runF, env0, sN, sQ, sIf, sSet, sSetO, sSetIx, sR, sRO, sX, sPar, sAsg, oP, oB, oLst, fTst, f2, fV, fS, fM, fC, fO, fB, fMt, fC0, fC1, oC0, oC1, ioArgs, fNot, fOr, fAnd, fNotV, fOrV, fAndV, fIf, fTup, aC, aN, rdB, rdAll, vals, gt, st, gN, gT, gC, gN0, iX, iR1, iR2, itms, itmsS, subSc, atI, isB, gtD, ltD, geD, leD, iiD, modD, fdivD, subD, intD, absD, lenD, lenOf, listX, listD, listK, tupleX, tupleD, tupleK, Option.some_or, Option.none_or, appD, popAtD, isLst, setD, endF, outsOf, addD, addII, mulD, powD, powB, gd, h1, hix, hg, hf]
theorem mixed_ok {bx : D} {xs : List D} (hB : Bx bx) (hx : xs.length ≤ 16777216) : ∃ out bx', F__law_mixed [bx, .lst xs] = some (.lst out, [bx']) ∧ Mix xs out ∧ Bx bx' := by
  have key := forD_ix (g := gN 2) (f := lp__law_mixed_1) (fun j env => ∃ bx' x2 left found, env = [some bx', some (.lst xs), x2, some (.lst left), some (.lst found)] ∧ Bx bx' ∧ left.length + j = xs.length ∧ found.length = j ∧ ∀ out, Mix left out → Mix xs (found ++ out))
    (rngD 0 xs.length) 0 [some bx, some (.lst xs), none, some (.lst xs), some (.lst [])] (fun j d env hj ⟨bx', x2, left, found, e, h1, h2, h3, h4⟩ => by
      subst e
      have hlt : j < xs.length := by
        have := (List.getElem?_eq_some_iff.mp hj).1
        simpa [rngD] using this
      refine ⟨[some bx', some (.lst xs), some d, some (.lst left), some (.lst found)], rfl, ?_⟩
      obtain ⟨bx2, i, y, q1, q2, q3⟩ := mixed_turn (x2 := some d) (t2 := d) (xs := xs) (left := left) (found := found) h1 (by intro q; subst q; simp at h2; omega) (by omega) (by omega)
      refine ⟨_, .inl q3, bx2, _, _, _, rfl, q2, ?_, by simp; omega, fun out m => ?_⟩
      · have := (List.getElem?_eq_some_iff.mp q1).1
        rw [List.length_eraseIdx, if_pos this]
        omega
      · rw [List.append_assoc]
        exact h4 _ (.cons q1 m)) ⟨bx, none, xs, [], rfl, hB, by simp, rfl, fun out m => m⟩
  obtain ⟨e', h1, bx', x2, left, found, rfl, h2, h3, h4, h5⟩ := key
  have hl : left = [] := by
    have : (rngD 0 xs.length).length = xs.length := by simp [rngD]
    rw [this] at h3
    exact List.length_eq_zero_iff.mp (by omega)
  subst hl
  refine ⟨found, bx', ?_, by simpa using h5 [] .nil, h2⟩
  have hz : (-4611686018427387904 : Int) ≤ (xs.length : Int) := by omega
  simp [F__law_mixed, b__law_mixed, tl__law_mixed_1, sFor, runF, env0, sN, sQ, sIf, sSet, sSetO, sSetIx, sR, sRO, sX, sPar, sAsg, oP, oB, oLst, fTst, f2, fV, fS, fM, fC, fO, fB, fMt, fC0, fC1, oC0, oC1, ioArgs, fNot, fOr, fAnd, fNotV, fOrV, fAndV, fIf, fTup, aC, aN, rdB, rdAll, vals, gt, st, gN, gT, gC, gN0, iX, iR1, iR2, itms, itmsS, subSc, atI, isB, gtD, ltD, geD, leD, iiD, modD, fdivD, subD, intD, absD, lenD, lenOf, listX, listD, listK, tupleX, tupleD, tupleK, Option.some_or, Option.none_or, appD, popAtD, isLst, setD, endF, outsOf, addD, addII, mulD, powD, powB, gd, hx, hz, h1, show (xs.length : Int) ≤ 16777216 by omega]
theorem box_ok (ns : List Int) (k own : Int) (hk : 0 ≤ k) : ∃ bx, F__law_box [.scr ns, .int k, .int own] = some (bx, []) ∧ Bx bx := by
  have hk' : ¬ k < 0 := by omega
  have pw : (10 : Int) ^ 18 = 1000000000000000000 := by decide
  have fin : ∀ cell : Int, ∃ a b : Int, (0 ≤ b ∧ b < 4294967296) ∧ b = (cell.fmod 2147483629 * 48271 + 40692 * (k + 11 * own)).fmod 2147483629 + 1 ∧ a = (if 1000000000000000000 ≤ cell then cell else 0) := fun cell => by
    have h1 := Int.fmod_nonneg_of_pos (cell.fmod 2147483629 * 48271 + 40692 * (k + 11 * own)) (show (0 : Int) < 2147483629 by decide)
    have h2 := Int.fmod_lt_of_pos (cell.fmod 2147483629 * 48271 + 40692 * (k + 11 * own)) (show (0 : Int) < 2147483629 by decide)
    exact ⟨_, _, ⟨by omega, by omega⟩, rfl, rfl⟩
  by_cases h : k < (ns.length : Int)
  · have lt : k.toNat < ns.length := by omega
    have hix : ixN ns.length k = some k.toNat := by
      unfold ixN
      rw [if_pos hk, if_pos h]
    have hg := List.getElem?_eq_getElem lt
    obtain ⟨a, b, hb, eb, ea⟩ := fin (if ns[k.toNat] < 0 then -ns[k.toNat] else ns[k.toNat])
    refine ⟨.lst [.int a, .int b, .int 0], ?_, a, b, 0, rfl, hb.1, hb.2⟩
    subst ea eb
    by_cases hc : 1000000000000000000 ≤ (if ns[k.toNat] < 0 then -ns[k.toNat] else ns[k.toNat])
    · simp [F__law_box, b__law_box, runF, env0, sN, sQ, sIf, sSet, sSetO, sSetIx, sR, sRO, sX, sPar, sAsg, oP, oB, oLst, fTst, f2, fV, fS, fM, fC, fO, fB, fMt, fC0, fC1, oC0, oC1, ioArgs, fNot, fOr, fAnd, fNotV, fOrV, fAndV, fIf, fTup, aC, aN, rdB, rdAll, vals, gt, st, gN, gT, gC, gN0, iX, iR1, iR2, itms, itmsS, subSc, atI, isB, gtD, ltD, geD, leD, iiD, modD, fdivD, subD, intD, absD, lenD, lenOf, listX, listD, listK, tupleX, tupleD, tupleK, Option.some_or, Option.none_or, appD, popAtD, isLst, setD, endF, outsOf, addD, addII, mulD, powD, powB, gd, mulB_l, mulB_r, h, hix, hg, pw, hc, show ixN 2 1 = some 1 from rfl]
    · simp [F__law_box, b__law_box, runF, env0, sN, sQ, sIf, sSet, sSetO, sSetIx, sR, sRO, sX, sPar, sAsg, oP, oB, oLst, fTst, f2, fV, fS, fM, fC, fO, fB, fMt, fC0, fC1, oC0, oC1, ioArgs, fNot, fOr, fAnd, fNotV, fOrV, fAndV, fIf, fTup, aC, aN, rdB, rdAll, vals, gt, st, gN, gT, gC, gN0, iX, iR1, iR2, itms, itmsS, subSc, atI, isB, gtD, ltD, geD, leD, iiD, modD, fdivD, subD, intD, absD, lenD, lenOf, listX, listD, listK, tupleX, tupleD, tupleK, Option.some_or, Option.none_or, appD, popAtD, isLst, setD, endF, outsOf, addD, addII, mulD, powD, powB, gd, mulB_l, mulB_r, h, hix, hg, pw, hc, show ixN 2 0 = some 0 from rfl]
  · by_cases h0 : ns.length = 0
    · obtain ⟨a, b, hb, eb, ea⟩ := fin (8803 * k + 104849 * own + 97)
      refine ⟨.lst [.int a, .int b, .int 0], ?_, a, b, 0, rfl, hb.1, hb.2⟩
      subst ea eb
      by_cases hc : 1000000000000000000 ≤ 8803 * k + 104849 * own + 97
      · simp [F__law_box, b__law_box, runF, env0, sN, sQ, sIf, sSet, sSetO, sSetIx, sR, sRO, sX, sPar, sAsg, oP, oB, oLst, fTst, f2, fV, fS, fM, fC, fO, fB, fMt, fC0, fC1, oC0, oC1, ioArgs, fNot, fOr, fAnd, fNotV, fOrV, fAndV, fIf, fTup, aC, aN, rdB, rdAll, vals, gt, st, gN, gT, gC, gN0, iX, iR1, iR2, itms, itmsS, subSc, atI, isB, gtD, ltD, geD, leD, iiD, modD, fdivD, subD, intD, absD, lenD, lenOf, listX, listD, listK, tupleX, tupleD, tupleK, Option.some_or, Option.none_or, appD, popAtD, isLst, setD, endF, outsOf, addD, addII, mulD, powD, powB, gd, mulB_l, mulB_r, h, hk', h0, pw, hc, show ixN 2 1 = some 1 from rfl]
      · simp [F__law_box, b__law_box, runF, env0, sN, sQ, sIf, sSet, sSetO, sSetIx, sR, sRO, sX, sPar, sAsg, oP, oB, oLst, fTst, f2, fV, fS, fM, fC, fO, fB, fMt, fC0, fC1, oC0, oC1, ioArgs, fNot, fOr, fAnd, fNotV, fOrV, fAndV, fIf, fTup, aC, aN, rdB, rdAll, vals, gt, st, gN, gT, gC, gN0, iX, iR1, iR2, itms, itmsS, subSc, atI, isB, gtD, ltD, geD, leD, iiD, modD, fdivD, subD, intD, absD, lenD, lenOf, listX, listD, listK, tupleX, tupleD, tupleK, Option.some_or, Option.none_or, appD, popAtD, isLst, setD, endF, outsOf, addD, addII, mulD, powD, powB, gd, mulB_l, mulB_r, h, hk', h0, pw, hc, show ixN 2 0 = some 0 from rfl]
    · have hp : (0 : Int) < ns.length := by omega
      have hnil : ns ≠ [] := fun q => h0 (by rw [q]; rfl)
      have hpn : 0 < ns.length := by omega
      have hne : ((ns.length : Nat) : Int) ≠ 0 := by omega
      have m1 := Int.fmod_nonneg_of_pos k hp
      have m2 := Int.fmod_lt_of_pos k hp
      have lt : (k.fmod ns.length).toNat < ns.length := by omega
      have hix : ixN ns.length (k.fmod ns.length) = some (k.fmod ns.length).toNat := by
        unfold ixN
        rw [if_pos m1, if_pos m2]
      have hg := List.getElem?_eq_getElem lt
      obtain ⟨a, b, hb, eb, ea⟩ := fin (8803 * k + 104849 * own + 97 + (if ns[(k.fmod ns.length).toNat] < 0 then -ns[(k.fmod ns.length).toNat] else ns[(k.fmod ns.length).toNat]).fmod 2147483629 * 69829)
      refine ⟨.lst [.int a, .int b, .int 0], ?_, a, b, 0, rfl, hb.1, hb.2⟩
      subst ea eb
      by_cases hc : 1000000000000000000 ≤ 8803 * k + 104849 * own + 97 + (if ns[(k.fmod ns.length).toNat] < 0 then -ns[(k.fmod ns.length).toNat] else ns[(k.fmod ns.length).toNat]).fmod 2147483629 * 69829
      · simp [F__law_box, b__law_box, runF, env0, sN, sQ, sIf, sSet, sSetO, sSetIx, sR, sRO, sX, sPar, sAsg, oP, oB, oLst, fTst, f2, fV, fS, fM, fC, fO, fB, fMt, fC0, fC1, oC0, oC1, ioArgs, fNot, fOr, fAnd, fNotV, fOrV, fAndV, fIf, fTup, aC, aN, rdB, rdAll, vals, gt, st, gN, gT, gC, gN0, iX, iR1, iR2, itms, itmsS, subSc, atI, isB, gtD, ltD, geD, leD, iiD, modD, fdivD, subD, intD, absD, lenD, lenOf, listX, listD, listK, tupleX, tupleD, tupleK, Option.some_or, Option.none_or, appD, popAtD, isLst, setD, endF, outsOf, addD, addII, mulD, powD, powB, gd, mulB_l, mulB_r, h, hk', h0, hp, hne, hnil, hpn, hix, hg, pw, hc, show ixN 2 1 = some 1 from rfl]
      · simp [F__law_box, b__law_box, runF, env0, sN, sQ, sIf, sSet, sSetO, sSetIx, sR, sRO, sX, sPar, sAsg, oP, oB, oLst, fTst, f2, fV, fS, fM, fC, fO, fB, fMt, fC0, fC1, oC0, oC1, ioArgs, fNot, fOr, fAnd, fNotV, fOrV, fAndV, fIf, fTup, aC, aN, rdB, rdAll, vals, gt, st, gN, gT, gC, gN0, iX, iR1, iR2, itms, itmsS, subSc, atI, isB, gtD, ltD, geD, leD, iiD, modD, fdivD, subD, intD, absD, lenD, lenOf, listX, listD, listK, tupleX, tupleD, tupleK, Option.some_or, Option.none_or, appD, popAtD, isLst, setD, endF, outsOf, addD, addII, mulD, powD, powB, gd, mulB_l, mulB_r, h, hk', h0, hp, hne, hnil, hpn, hix, hg, pw, hc, show ixN 2 0 = some 0 from rfl]
end LW

namespace LW
open PySem L2 DL
/-! ### the drawn net -/
def N9 (bx : D) (n most : Int) (ts : List (Int × Int)) (x4 x5 x6 x7 x8 : Option D) : DL.Env := [some bx, some (.int n), some (.int most), some (.lst (ts.map pairD)), x4, x5, x6, x7, x8]
theorem net1_ok {bx : D} {n most p : Int} {ts : List (Int × Int)} {x5 x6 x7 x8 : Option D} (hB : Bx bx) (hp : 0 < p) (hp2 : p < 1000) (hl : ts.length ≤ 1000) : ∃ bx' q y6, lp__law_net_1 (N9 bx n most ts (some (.int p)) x5 x6 x7 x8) = some (.nx (N9 bx' n most (ts ++ [q]) (some (.int p)) x5 y6 x7 x8)) ∧ Bx bx' ∧ ((q.2 = p ∧ 0 ≤ q.1 ∧ q.1 < p) ∨ (q.1 = p ∧ 0 ≤ q.2 ∧ q.2 < p)) := by
  obtain ⟨a, b1, h1, h2, h3, B1⟩ := take_ok hB hp (by omega)
  obtain ⟨d, b2, g1, g2, g3, B2⟩ := take_ok B1 (m := 2) (by decide) (by decide)
  have hl2 : ts.length ≤ 16777215 := by omega
  by_cases hd : d = 0
  · subst hd
    refine ⟨b2, (a, p), some (pairD (a, p)), ?_, B2, .inl ⟨rfl, h2, h3⟩⟩
    simp [lp__law_net_1, N9, runF, env0, sN, sQ, sIf, sSet, sSetO, sSetIx, sR, sRO, sX, sPar, sAsg, oP, oB, oLst, fTst, f2, fV, fS, fM, fC, fO, fB, fMt, fC0, fC1, oC0, oC1, ioArgs, fNot, fOr, fAnd, fNotV, fOrV, fAndV, fIf, fTup, aC, aN, rdB, rdAll, vals, gt, st, gN, gT, gC, gN0, iX, iR1, iR2, itms, itmsS, subSc, atI, isB, gtD, ltD, geD, leD, iiD, modD, fdivD, subD, intD, absD, lenD, lenOf, listX, listD, listK, tupleX, tupleD, tupleK, Option.some_or, Option.none_or, appD, popAtD, isLst, setD, endF, outsOf, addD, addII, mulD, powD, powB, gd, h1, g1, eqD_int, hl2, pairD]
  · refine ⟨b2, (p, a), some (pairD (a, p)), ?_, B2, .inr ⟨rfl, h2, h3⟩⟩
    simp [lp__law_net_1, N9, runF, env0, sN, sQ, sIf, sSet, sSetO, sSetIx, sR, sRO, sX, sPar, sAsg, oP, oB, oLst, fTst, f2, fV, fS, fM, fC, fO, fB, fMt, fC0, fC1, oC0, oC1, ioArgs, fNot, fOr, fAnd, fNotV, fOrV, fAndV, fIf, fTup, aC, aN, rdB, rdAll, vals, gt, st, gN, gT, gC, gN0, iX, iR1, iR2, itms, itmsS, subSc, atI, isB, gtD, ltD, geD, leD, iiD, modD, fdivD, subD, intD, absD, lenD, lenOf, listX, listD, listK, tupleX, tupleD, tupleK, Option.some_or, Option.none_or, appD, popAtD, isLst, setD, endF, outsOf, addD, addII, mulD, powD, powB, gd, h1, g1, eqD_int, hl2, pairD, hd, fRev, pI]
theorem net2_ok {bx : D} {n most : Int} {ts : List (Int × Int)} {x4 x5 x6 x7 x8 : Option D} (hB : Bx bx) (hp : 1 < n) (hp2 : n < 1000) (hl : ts.length ≤ 1000) : ∃ bx' q y7 y8, lp__law_net_2 (N9 bx n most ts x4 x5 x6 x7 x8) = some (.nx (N9 bx' n most (ts ++ [q]) x4 x5 x6 y7 y8)) ∧ Bx bx' ∧ (0 ≤ q.1 ∧ q.1 < n ∧ 0 ≤ q.2 ∧ q.2 < n ∧ q.1 ≠ q.2) := by
  obtain ⟨a, b1, h1, h2, h3, B1⟩ := take_ok hB (m := n) (by omega) (by omega)
  obtain ⟨d, b2, g1, g2, g3, B2⟩ := take_ok B1 (m := n - 1) (by omega) (by omega)
  have hl2 : ts.length ≤ 16777215 := by omega
  have hn0 : n ≠ 0 := by omega
  refine ⟨b2, (a, (a + 1 + d).fmod n), some (.int a), some (.int ((a + 1 + d).fmod n)), ?_, B2, h2, h3, Int.fmod_nonneg_of_pos _ (by omega), Int.fmod_lt_of_pos _ (by omega), ?_⟩
  · simp [lp__law_net_2, N9, runF, env0, sN, sQ, sIf, sSet, sSetO, sSetIx, sR, sRO, sX, sPar, sAsg, oP, oB, oLst, fTst, f2, fV, fS, fM, fC, fO, fB, fMt, fC0, fC1, oC0, oC1, ioArgs, fNot, fOr, fAnd, fNotV, fOrV, fAndV, fIf, fTup, aC, aN, rdB, rdAll, vals, gt, st, gN, gT, gC, gN0, iX, iR1, iR2, itms, itmsS, subSc, atI, isB, gtD, ltD, geD, leD, iiD, modD, fdivD, subD, intD, absD, lenD, lenOf, listX, listD, listK, tupleX, tupleD, tupleK, Option.some_or, Option.none_or, appD, popAtD, isLst, setD, endF, outsOf, addD, addII, mulD, powD, powB, gd, h1, g1, hl2, pairD, hn0]
  · show a ≠ (a + 1 + d).fmod n
    by_cases q : a + 1 + d < n
    · rw [Int.fmod_eq_of_lt (by omega) q]; omega
    · have e : a + 1 + d = (a + 1 + d - n) + n * 1 := by omega
      rw [e, Int.add_mul_fmod_self_left, Int.fmod_eq_of_lt (by omega) (by omega)]; omega
def unp : D → Int × Int
  | .tup [.int a, .int b] => (a, b)
  | _ => (0, 0)
theorem unp_map (ts : List (Int × Int)) : (ts.map pairD).map unp = ts := by
  rw [List.map_map]
  have : unp ∘ pairD = _root_.id := by funext q; rfl
  rw [this, List.map_id]
theorem mix_ties {ts : List (Int × Int)} {out : List D} (M : Mix (ts.map pairD) out) : ∃ us : List (Int × Int), out = us.map pairD ∧ us.Perm ts := by
  refine ⟨out.map unp, ?_, ?_⟩
  · rw [List.map_map]
    have : ∀ d ∈ out, (pairD ∘ unp) d = d := fun d hd => by
      obtain ⟨q, _, rfl⟩ := List.mem_map.mp (M.mem d hd)
      rfl
    exact ((List.map_congr_left this).trans (List.map_id _)).symm
  · have := M.perm.map unp
    rw [unp_map] at this
    exact this
theorem VTperm {n : Int} {ts us : List (Int × Int)} (h : VT n ts) (p : us.Perm ts) : VT n us := fun q hq => h q (p.mem_iff.mp hq)
theorem Jperm {n : Nat} {ts us : List (Int × Int)} (h : Joined n ts) (p : us.Perm ts) : Joined n us := fun k h1 h2 => by
  obtain ⟨q, hq, e⟩ := h k h1 h2
  exact ⟨q, p.mem_iff.mpr hq, e⟩
theorem draw1 {bx : D} {n : Nat} {most : Int} (hB : Bx bx) (hn : 1 ≤ n) (hn2 : n ≤ 8) : ∃ b1 ts x4 x6, forD (gN 4) lp__law_net_1 (rngD 1 (n - 1)) (N9 bx n most [] none none none none none) = some (.nx (N9 b1 n most ts x4 none x6 none none)) ∧ Bx b1 ∧ ts.length = n - 1 ∧ VT n ts ∧ Joined n ts := by
  have key1 := forD_ix (g := gN 4) (f := lp__law_net_1) (fun j env => ∃ bx' ts x4 x6, env = N9 bx' n most ts x4 none x6 none none ∧ Bx bx' ∧ ts.length = j ∧ VT n ts ∧ ∀ p : Nat, 0 < p → p < j + 1 → ∃ q ∈ ts, (q.2 = (p : Int) ∧ 0 ≤ q.1 ∧ q.1 < (p : Int)) ∨ (q.1 = (p : Int) ∧ 0 ≤ q.2 ∧ q.2 < (p : Int)))
    (rngD 1 (n - 1)) 0 (N9 bx n most [] none none none none none) (fun j d env hj ⟨bx', ts, x4, x6, e, h1, h2, h3, h4⟩ => by
      subst e
      have hlt : j < n - 1 := by
        have := (List.getElem?_eq_some_iff.mp hj).1
        simpa [rngD] using this
      have ed : d = .int ((j + 1 : Nat) : Int) := by
        have q : (rngD 1 (n - 1))[j]? = some (.int ((j + 1 : Nat) : Int)) := by
          simp [rngD, hlt]; omega
        rw [q] at hj; cases hj; rfl
      subst ed
      refine ⟨N9 bx' n most ts (some (.int ((j + 1 : Nat) : Int))) none x6 none none, rfl, ?_⟩
      obtain ⟨b2, q, y6, g1, g2, g3⟩ := net1_ok (n := n) (most := most) (ts := ts) (x5 := none) (x6 := x6) (x7 := none) (x8 := none) h1 (p := ((j + 1 : Nat) : Int)) (by omega) (by omega) (by omega)
      refine ⟨_, .inl g1, b2, _, _, _, rfl, g2, by rw [List.length_append, h2]; simp, fun t ht => ?_, fun p hp hp2 => ?_⟩
      · rcases List.mem_append.mp ht with z | z
        · exact h3 t z
        · simp at z; subst z; omega
      · by_cases hpj : p < 0 + j + 1
        · obtain ⟨t, ht, e⟩ := h4 p hp hpj
          exact ⟨t, List.mem_append_left _ ht, e⟩
        · have : p = j + 1 := by omega
          subst this
          exact ⟨q, by simp, g3⟩) ⟨bx, [], none, none, rfl, hB, rfl, fun q h => (nomatch h), fun p h1 h2 => by omega⟩
  obtain ⟨e1, f1, b1, ts, x4, x6, rfl, B1, l1, V1, J1⟩ := key1
  have ln : (rngD 1 (n - 1)).length = n - 1 := by simp [rngD]
  rw [ln, Nat.zero_add] at l1 J1
  exact ⟨b1, ts, x4, x6, f1, B1, l1, V1, fun p hp hp2 => J1 p hp (by omega)⟩
theorem draw1r {bx : D} {n : Nat} {most : Int} (hn : 1 ≤ n) (hn2 : n ≤ 8) : iR2 (aC (fC (.int 1)) (aC (fV 1) aN)) (N9 bx n most [] none none none none none) = some (rngD 1 (n - 1), N9 bx n most [] none none none none none) := by
  have e := iR2_ok (fa := aC (fC (.int 1)) (aC (fV 1) aN)) (env := N9 bx n most [] none none none none none) (i := 1) (j := n) rfl rfl (by omega) (by omega) (by omega) (by omega)
  rw [e]
  have q3 : ((n : Int) - 1).toNat = n - 1 := by omega
  rw [q3]
theorem drawc {b1 : D} {n : Nat} {most : Int} {ts : List (Int × Int)} {x4 x6 : Option D} (B1 : Bx b1) (hn : 1 ≤ n) (hn2 : n ≤ 8) (hm : 0 ≤ most) (hm2 : most ≤ 11) : ∃ (cnt : Nat) (b2 : D), iR1 (aC (fIf (fTst (f2 gtD (fV 1) (fC (.int 1)))) (fC1 2 F__law_take (aC (fS 0) (aC (f2 addD (fB minD (aC (fB intD (aC (fV 2) aN)) (aC (f2 subD (fC (.int 11)) (fV 1)) aN))) (fC (.int 1))) aN))) (fC (.int 0))) aN) (N9 b1 n most ts x4 none x6 none none) = some (rngD 0 cnt, N9 b2 n most ts x4 none x6 none none) ∧ (cnt ≤ 11 ∧ (0 < cnt → 1 < n)) ∧ (cnt : Int) ≤ most ∧ Bx b2 := by
  by_cases h1 : (1 : Int) < n
  · obtain ⟨d, b2, g1, g2, g3, B2⟩ := take_ok B1 (m := (if 11 - (n : Int) < most then 11 - (n : Int) else most) + 1) (by split <;> omega) (by split <;> omega)
    have d1 : d ≤ 11 := by revert g3; split <;> omega
    have d2 : d ≤ most := by revert g3; split <;> omega
    refine ⟨d.toNat, b2, ?_, ⟨by omega, fun _ => by omega⟩, by omega, B2⟩
    have q1 : (-4611686018427387904 : Int) ≤ d := by omega
    have q2 : d ≤ 16777216 := by omega
    simp [N9, runF, env0, sN, sQ, sIf, sSet, sSetO, sSetIx, sR, sRO, sX, sPar, sAsg, oP, oB, oLst, fTst, f2, fV, fS, fM, fC, fO, fB, fMt, fC0, fC1, oC0, oC1, ioArgs, fNot, fOr, fAnd, fNotV, fOrV, fAndV, fIf, fTup, aC, aN, rdB, rdAll, vals, gt, st, gN, gT, gC, gN0, iX, iR1, iR2, itms, itmsS, subSc, atI, isB, gtD, ltD, geD, leD, iiD, modD, fdivD, subD, intD, absD, lenD, lenOf, listX, listD, listK, tupleX, tupleD, tupleK, Option.some_or, Option.none_or, appD, popAtD, isLst, setD, endF, outsOf, addD, addII, mulD, powD, powB, gd, minD, h1, g1, q1, q2]
  · refine ⟨0, b1, ?_, ⟨by omega, fun h => by omega⟩, by omega, B1⟩
    simp [N9, runF, env0, sN, sQ, sIf, sSet, sSetO, sSetIx, sR, sRO, sX, sPar, sAsg, oP, oB, oLst, fTst, f2, fV, fS, fM, fC, fO, fB, fMt, fC0, fC1, oC0, oC1, ioArgs, fNot, fOr, fAnd, fNotV, fOrV, fAndV, fIf, fTup, aC, aN, rdB, rdAll, vals, gt, st, gN, gT, gC, gN0, iX, iR1, iR2, itms, itmsS, subSc, atI, isB, gtD, ltD, geD, leD, iiD, modD, fdivD, subD, intD, absD, lenD, lenOf, listX, listD, listK, tupleX, tupleD, tupleK, Option.some_or, Option.none_or, appD, popAtD, isLst, setD, endF, outsOf, addD, addII, mulD, powD, powB, gd, h1]
theorem draw2 {b2 : D} {n cnt : Nat} {most : Int} {ts : List (Int × Int)} {x4 x6 : Option D} (B2 : Bx b2) (hn2 : n ≤ 8) (hcl : cnt ≤ 11 ∧ (0 < cnt → 1 < n)) (l1 : ts.length = n - 1) (V1 : VT n ts) (J1 : Joined n ts) : ∃ b3 us y5 y7 y8, forD (gN 5) lp__law_net_2 (rngD 0 cnt) (N9 b2 n most ts x4 none x6 none none) = some (.nx (N9 b3 n most us x4 y5 x6 y7 y8)) ∧ Bx b3 ∧ us.length = n - 1 + cnt ∧ VT n us ∧ Joined n us := by
  have key2 := forD_ix (g := gN 5) (f := lp__law_net_2) (fun j env => ∃ bx' us x5 x7 x8, env = N9 bx' n most us x4 x5 x6 x7 x8 ∧ Bx bx' ∧ us.length = n - 1 + j ∧ VT n us ∧ Joined n us)
    (rngD 0 cnt) 0 (N9 b2 n most ts x4 none x6 none none) (fun j d env hj ⟨bx', us, x5, x7, x8, e, h1, h2, h3, h4⟩ => by
      subst e
      have hlt : j < cnt := by
        have := (List.getElem?_eq_some_iff.mp hj).1
        simpa [rngD] using this
      have hn1 := hcl.2 (by omega)
      refine ⟨N9 bx' n most us x4 (some d) x6 x7 x8, rfl, ?_⟩
      obtain ⟨b3, q, y7, y8, g1, g2, g3⟩ := net2_ok (n := n) (most := most) (ts := us) (x4 := x4) (x5 := some d) (x6 := x6) (x7 := x7) (x8 := x8) h1 (by omega) (by omega) (by omega)
      refine ⟨_, .inl g1, b3, _, _, _, _, rfl, g2, by rw [List.length_append, h2]; simp; omega, fun t ht => ?_, fun p hp hp2 => ?_⟩
      · rcases List.mem_append.mp ht with z | z
        · exact h3 t z
        · simp at z; subst z; exact g3
      · obtain ⟨t, ht, e⟩ := h4 p hp hp2
        exact ⟨t, List.mem_append_left _ ht, e⟩) ⟨b2, ts, none, none, none, rfl, B2, by omega, V1, J1⟩
  obtain ⟨e2, f2', b3, us, y5, y7, y8, rfl, B3, l3, V3, J3⟩ := key2
  have ln2 : (rngD 0 cnt).length = cnt := by simp [rngD]
  rw [ln2, Nat.zero_add] at l3
  exact ⟨b3, us, y5, y7, y8, f2', B3, l3, V3, J3⟩
theorem drawe {b3 b4 : D} {n : Nat} {most : Int} {us vs : List (Int × Int)} {x4 x5 x6 x7 x8 : Option D} (hm4 : F__law_mixed [b3, .lst (us.map pairD)] = some (.lst (vs.map pairD), [b4])) : sFrz 3 (sR (fTup (aC (fV 1) (aC (fC1 2 F__law_mixed (aC (fS 0) (aC (fV 3) aN))) aN)))) (N9 b3 n most us x4 x5 x6 x7 x8) = some (.rt (.tup [.int n, .lst (vs.map pairD)]) (N9 b4 n most us x4 x5 x6 x7 x8)) := by
  simp [N9, sFrz, Fl.wipe, runF, env0, sN, sQ, sIf, sSet, sSetO, sSetIx, sR, sRO, sX, sPar, sAsg, oP, oB, oLst, fTst, f2, fV, fS, fM, fC, fO, fB, fMt, fC0, fC1, oC0, oC1, ioArgs, fNot, fOr, fAnd, fNotV, fOrV, fAndV, fIf, fTup, aC, aN, rdB, rdAll, vals, gt, st, gN, gT, gC, gN0, iX, iR1, iR2, itms, itmsS, subSc, atI, isB, gtD, ltD, geD, leD, iiD, modD, fdivD, subD, intD, absD, lenD, lenOf, listX, listD, listK, tupleX, tupleD, tupleK, Option.some_or, Option.none_or, appD, popAtD, isLst, setD, endF, outsOf, addD, addII, mulD, powD, powB, gd, hm4]
theorem drawn_ok3 {bx : D} {n : Nat} {most : Int} (hB : Bx bx) (hn : 1 ≤ n) (hn2 : n ≤ 8) (hm : 0 ≤ most) (hm2 : most ≤ 11) : ∃ bx' ts, F__law_net [bx, .int n, .int most] = some (.tup [.int n, .lst (ts.map pairD)], [bx']) ∧ Bx bx' ∧ VT n ts ∧ Joined n ts ∧ ts.length ≤ 18 ∧ (ts.length : Int) ≤ (n : Int) - 1 + most := by
  obtain ⟨b1, ts, x4, x6, f1, B1, l1, V1, J1⟩ := draw1 (most := most) hB hn hn2
  obtain ⟨cnt, b2, hc, hcl, hcm, B2⟩ := drawc (ts := ts) (x4 := x4) (x6 := x6) B1 hn hn2 hm hm2
  obtain ⟨b3, us, y5, y7, y8, f2', B3, l3, V3, J3⟩ := draw2 (most := most) (x4 := x4) (x6 := x6) B2 hn2 hcl l1 V1 J1
  obtain ⟨out, b4, hm4, M4, B4⟩ := mixed_ok (xs := us.map pairD) B3 (by rw [List.length_map]; omega)
  obtain ⟨vs, rfl, pm⟩ := mix_ties M4
  refine ⟨b4, vs, ?_, B4, VTperm V3 pm, Jperm J3 pm, by rw [pm.length_eq]; omega, by rw [pm.length_eq]; omega⟩
  have s1 : sFor (iR2 (aC (fC (.int 1)) (aC (fV 1) aN))) (gN 4) lp__law_net_1 (N9 bx n most [] none none none none none) = some (.nx (N9 b1 n most ts x4 none x6 none none)) := by
    simp only [sFor, draw1r hn hn2, Option.bind_some, f1]
  have s2 : sFor (iR1 (aC (fIf (fTst (f2 gtD (fV 1) (fC (.int 1)))) (fC1 2 F__law_take (aC (fS 0) (aC (f2 addD (fB minD (aC (fB intD (aC (fV 2) aN)) (aC (f2 subD (fC (.int 11)) (fV 1)) aN))) (fC (.int 1))) aN))) (fC (.int 0))) aN)) (gN 5) lp__law_net_2 (N9 b1 n most ts x4 none x6 none none) = some (.nx (N9 b3 n most us x4 y5 x6 y7 y8)) := by
    simp only [sFor, hc, Option.bind_some, f2']
  have e9 : sSetO 3 (oLst aN) (env0 9 [bx, .int n, .int most]) = some (.nx (N9 bx n most [] none none none none none)) := rfl
  have e0 : b__law_net (env0 9 [bx, .int n, .int most]) = some (.rt (.tup [.int n, .lst (vs.map pairD)]) (N9 b4 n most us x4 y5 x6 y7 y8)) := by
    unfold b__law_net
    rw [sQ_nx e9]
    unfold tl__law_net_2
    rw [sQ_nx s1]
    unfold tl__law_net_1
    rw [sQ_nx s2]
    exact drawe hm4
  unfold F__law_net runF
  show (b__law_net (env0 9 [bx, .int n, .int most])).bind (endF [0]) = _
  rw [e0]
  rfl
theorem drawn_ok2 {bx : D} {n : Nat} {most : Int} (hB : Bx bx) (hn : 1 ≤ n) (hn2 : n ≤ 8) (hm : 0 ≤ most) (hm2 : most ≤ 11) : ∃ bx' ts, F__law_net [bx, .int n, .int most] = some (.tup [.int n, .lst (ts.map pairD)], [bx']) ∧ Bx bx' ∧ VT n ts ∧ Joined n ts ∧ ts.length ≤ 18 := by
  obtain ⟨b, ts, h, B, V, J, l, _⟩ := drawn_ok3 hB hn hn2 hm hm2
  exact ⟨b, ts, h, B, V, J, l⟩
theorem drawn_ok {bx : D} {n : Nat} {most : Int} (hB : Bx bx) (hn : 1 ≤ n) (hn2 : n ≤ 8) (hm : 0 ≤ most) (hm2 : most ≤ 11) : ∃ bx' ts, F__law_net [bx, .int n, .int most] = some (.tup [.int n, .lst (ts.map pairD)], [bx']) ∧ Bx bx' ∧ VT n ts ∧ Joined n ts ∧ ts.length ≤ 30 := by
  obtain ⟨b, ts, h, B, V, J, l⟩ := drawn_ok2 hB hn hn2 hm hm2
  exact ⟨b, ts, h, B, V, J, by omega⟩
end LW


namespace LW
open PySem PySem.Spec L2 DL
def d_all_lots : He.DefD := ⟨("all_lots", none), "all_lots", "all_lots", defArgs (top 2), defBody (top 2), defScope (top 2), [], []⟩
def d_lots_with_first : He.DefD := ⟨("lots_with_first", none), "lots_with_first", "lots_with_first", defArgs (top 3), defBody (top 3), defScope (top 3), [], []⟩
def d_least_cut : He.DefD := ⟨("least_cut", none), "least_cut", "least_cut", defArgs (top 5), defBody (top 5), defScope (top 5), [], []⟩
def d_seen : He.DefD := ⟨("seen", none), "seen", "seen", defArgs (top 6), defBody (top 6), defScope (top 6), [], []⟩
def d_told : He.DefD := ⟨("told", none), "told", "told", defArgs (top 7), defBody (top 7), defScope (top 7), [], []⟩
def d_worth : He.DefD := ⟨("worth", none), "worth", "worth", defArgs (top 9), defBody (top 9), defScope (top 9), [], []⟩
def d_best_ties : He.DefD := ⟨("best_ties", none), "best_ties", "best_ties", defArgs (top 10), defBody (top 10), defScope (top 10), [], []⟩
def d_is_integer : He.DefD := ⟨("is_integer", none), "is_integer", "is_integer", defArgs (top 18), defBody (top 18), defScope (top 18), [], []⟩
def d_is_number : He.DefD := ⟨("is_number", none), "is_number", "is_number", defArgs (top 19), defBody (top 19), defScope (top 19), [], []⟩
def d_is_sequence : He.DefD := ⟨("is_sequence", none), "is_sequence", "is_sequence", defArgs (top 20), defBody (top 20), defScope (top 20), [], []⟩
def d_is_pair : He.DefD := ⟨("is_pair", none), "is_pair", "is_pair", defArgs (top 24), defBody (top 24), defScope (top 24), [], []⟩
def d_are_ties : He.DefD := ⟨("are_ties", none), "are_ties", "are_ties", defArgs (top 25), defBody (top 25), defScope (top 25), [], []⟩
def d_are_joined : He.DefD := ⟨("are_joined", none), "are_joined", "are_joined", defArgs (top 26), defBody (top 26), defScope (top 26), [], []⟩
def d_line_of : He.DefD := ⟨("line_of", none), "line_of", "line_of", defArgs (top 27), defBody (top 27), defScope (top 27), [], []⟩
def d_Net___init__ : He.DefD := ⟨("Net", some "__init__"), "__init__", "Net.__init__", defArgs (topM 29 0), defBody (topM 29 0), defScope (topM 29 0), [.adr (He.dflAt ("Net", some "__init__") 0)], []⟩
def d_Net_further : He.DefD := ⟨("Net", some "further"), "further", "Net.further", defArgs (topM 29 5), defBody (topM 29 5), defScope (topM 29 5), [], []⟩
def d_Net_across : He.DefD := ⟨("Net", some "across"), "across", "Net.across", defArgs (topM 29 6), defBody (topM 29 6), defScope (topM 29 6), [], []⟩
def d_Net___eq__ : He.DefD := ⟨("Net", some "__eq__"), "__eq__", "Net.__eq__", defArgs (topM 29 12), defBody (topM 29 12), defScope (topM 29 12), [], []⟩
def d_Net___str__ : He.DefD := ⟨("Net", some "__str__"), "__str__", "Net.__str__", defArgs (topM 29 13), defBody (topM 29 13), defScope (topM 29 13), [], []⟩
def d__law_box : He.DefD := ⟨("_law_box", none), "_law_box", "_law_box", defArgs (top 31), defBody (top 31), defScope (top 31), [], []⟩
def d__law_take : He.DefD := ⟨("_law_take", none), "_law_take", "_law_take", defArgs (top 32), defBody (top 32), defScope (top 32), [], []⟩
def d__law_mixed : He.DefD := ⟨("_law_mixed", none), "_law_mixed", "_law_mixed", defArgs (top 33), defBody (top 33), defScope (top 33), [], []⟩
def d__law_net : He.DefD := ⟨("_law_net", none), "_law_net", "_law_net", defArgs (top 34), defBody (top 34), defScope (top 34), [], []⟩
def d__law_net_of : He.DefD := ⟨("_law_net_of", none), "_law_net_of", "_law_net_of", defArgs (top 35), defBody (top 35), defScope (top 35), [], []⟩
def d__law_lots : He.DefD := ⟨("_law_lots", none), "_law_lots", "_law_lots", defArgs (top 36), defBody (top 36), defScope (top 36), [], []⟩
def d__law_across : He.DefD := ⟨("_law_across", none), "_law_across", "_law_across", defArgs (top 37), defBody (top 37), defScope (top 37), [], []⟩
def d__law_worth : He.DefD := ⟨("_law_worth", none), "_law_worth", "_law_worth", defArgs (top 38), defBody (top 38), defScope (top 38), [], []⟩
def d_law : He.DefD := ⟨("law", none), "law", "law", defArgs (top 39), defBody (top 39), defScope (top 39), [], []⟩
def fn0 : List He.DefD := [d_all_lots, d_lots_with_first, d_least_cut, d_seen, d_told, d_worth, d_best_ties, d_is_integer, d_is_number, d_is_sequence, d_is_pair, d_are_ties, d_are_joined, d_line_of, d_Net___init__, d_Net_further, d_Net_across, d_Net___eq__, d_Net___str__, d__law_box, d__law_take, d__law_mixed, d__law_net, d__law_net_of, d__law_lots, d__law_across, d__law_worth, d_law]
def fn : List He.DefD := fn0
def fa0 : List He.Fa := [.glo "_law_across", .glo "_law_box", .glo "_law_lots", .glo "_law_mixed", .glo "_law_net", .glo "_law_net_of", .glo "_law_take", .glo "_law_worth", .glo "all_lots", .glo "are_joined", .glo "are_ties", .glo "best_ties", .glo "is_integer", .glo "is_number", .glo "is_pair", .glo "is_sequence", .glo "law", .glo "least_cut", .glo "line_of", .glo "lots_with_first", .glo "seen", .glo "told", .glo "worth", .glo "Net", .free "abs", .free "all", .free "bool", .free "enumerate", .free "int", .free "isinstance"]
def fa1 : List He.Fa := [.free "len", .free "list", .free "max", .free "min", .free "range", .free "repr", .free "sorted", .free "str", .free "tuple", .cls "Net", .noat "Net" "posts", .noat "Net" "ties", .meth "Net" "__eq__", .meth "Net" "__str__", .meth "Net" "across", .meth "Net" "further", .mkr "Net"]
def fa : List He.Fa := fa0 ++ fa1
def emB (a : Addr) (K : PySem.W.Frag) : Bool := match K.lookup a with | some ⟨.type c, _, .seq its _, _⟩ => decide (c = "tuple") && decide (its.toList = []) | _ => false
theorem emB_ok {a : Addr} {K : PySem.W.Frag} (h : emB a K = true) (H : Hp) : SqT K H a [] := by
  unfold emB at h
  split at h
  · next c _ its _ _ q =>
    simp only [Bool.and_eq_true, decide_eq_true_eq] at h
    refine .inr ⟨_, its, _, q, ?_, rfl, ?_, ?_⟩
    · rw [h.1]
    · rw [← Array.length_toList, h.2]; exact Nat.zero_le _
    · rw [h.2]; exact .nil
  · cases h
def ex1 (K : PySem.W.Frag) : Bool := emB (He.dflAt ("Net", some "__init__") 0 K) K && ownB (He.ga K "Net") K
def ex (K : PySem.W.Frag) : Bool := ex1 K
def loose0 : List Str := ["_wall", "all_lots", "lots_with_first", "least_cut", "seen", "told", "worth", "best_ties", "LevelError", "InvalidNet", "InvalidText", "NoTie", "DIGITS", "is_integer", "is_number", "is_sequence", "number_in", "MOST_DIGITS", "is_pair", "are_ties", "are_joined", "line_of", "numbers_of", "Net", "_law_box", "_law_take", "_law_mixed", "_law_net", "_law_net_of", "_law_lots"]
def loose1 : List Str := ["_law_across", "_law_worth"]
def loose : List Str := loose0 ++ loose1
abbrev R : PySem.W.OpenRow := PySem.W.OpenLaw.row PySem.Challenge.rw_levelties_k51_what_a_tie_is_worth
abbrev hk : PySem.W.Hook := He.hookX 6 fa fn [] [] ex
def ob (s : PySem.W.SharedT) : He.AlX := He.obsX 6 fa fn [] [] ex (HandSHeadRun.getT s)
theorem ob_eq (s : PySem.W.SharedT) : ob s = hk.obs s.abs := He.obsX_eq (HandSHeadRun.getT_eq s)
theorem run (w : World) : HandSHeadRun.RunEq R (PySem.W.view R.prog [39]) hk ob 6000 loose w := by
  intro os
  kernel_rfl
def adK (K : PySem.W.Frag) : Nat → Addr
  | 1 => He.fAd K ("all_lots", none)
  | 2 => He.fAd K ("lots_with_first", none)
  | 3 => He.fAd K ("least_cut", none)
  | 4 => He.fAd K ("seen", none)
  | 5 => He.fAd K ("told", none)
  | 6 => He.fAd K ("worth", none)
  | 7 => He.fAd K ("best_ties", none)
  | 8 => He.fAd K ("is_integer", none)
  | 9 => He.fAd K ("is_number", none)
  | 10 => He.fAd K ("is_sequence", none)
  | 12 => He.fAd K ("is_pair", none)
  | 13 => He.fAd K ("are_ties", none)
  | 14 => He.fAd K ("are_joined", none)
  | 15 => He.fAd K ("line_of", none)
  | 17 => He.fAd K ("Net", some "__init__")
  | 22 => He.fAd K ("Net", some "further")
  | 23 => He.fAd K ("Net", some "across")
  | 29 => He.fAd K ("Net", some "__eq__")
  | 30 => He.fAd K ("Net", some "__str__")
  | 31 => He.fAd K ("_law_box", none)
  | 32 => He.fAd K ("_law_take", none)
  | 33 => He.fAd K ("_law_mixed", none)
  | 34 => He.fAd K ("_law_net", none)
  | 35 => He.fAd K ("_law_net_of", none)
  | 36 => He.fAd K ("_law_lots", none)
  | 37 => He.fAd K ("_law_across", none)
  | 38 => He.fAd K ("_law_worth", none)
  | 39 => He.fAd K ("law", none)
  | 1170 => He.dflAt ("Net", some "__init__") 0 K
  | _ => 0
def cKc (K : PySem.W.Frag) : Nat → Addr
  | 0 => He.ga K "Net"
  | _ => 0
abbrev cK (K : PySem.W.Frag) : CA := ⟨cKc K, fun _ => none⟩
theorem facts {P : Program} {w : World} {K : PySem.W.Frag} {h : Heap} {mg : Str → Option Value} {f : Addr} (X : K.In h) (G : h.Ns mainGlobals mg) (hfa : mg ("law" : Str) = some (.ref f)) (c : He.SaysD fa fn K) (cx : ex K = true) :
    ∃ fd : FuncData, (∀ (s : Shared) (v : Value), BindsTo s fd ⟨[v], []⟩ [("_law_script", v)]) ∧ ∀ base : Heap, K.In base → base.Ns mainGlobals mg → FnG P w K mg base 10 f fd ["_law_script"] (spF K (cK K) [] false 1 F_law) := by
  obtain ⟨fd1, F1⟩ := c.def_ 0 (d := d_all_lots) rfl
  obtain ⟨fd2, F2⟩ := c.def_ 1 (d := d_lots_with_first) rfl
  obtain ⟨fd3, F3⟩ := c.def_ 2 (d := d_least_cut) rfl
  obtain ⟨fd4, F4⟩ := c.def_ 3 (d := d_seen) rfl
  obtain ⟨fd5, F5⟩ := c.def_ 4 (d := d_told) rfl
  obtain ⟨fd6, F6⟩ := c.def_ 5 (d := d_worth) rfl
  obtain ⟨fd7, F7⟩ := c.def_ 6 (d := d_best_ties) rfl
  obtain ⟨fd8, F8⟩ := c.def_ 7 (d := d_is_integer) rfl
  obtain ⟨fd9, F9⟩ := c.def_ 8 (d := d_is_number) rfl
  obtain ⟨fd10, F10⟩ := c.def_ 9 (d := d_is_sequence) rfl
  obtain ⟨fd12, F12⟩ := c.def_ 10 (d := d_is_pair) rfl
  obtain ⟨fd13, F13⟩ := c.def_ 11 (d := d_are_ties) rfl
  obtain ⟨fd14, F14⟩ := c.def_ 12 (d := d_are_joined) rfl
  obtain ⟨fd15, F15⟩ := c.def_ 13 (d := d_line_of) rfl
  obtain ⟨fd17, F17⟩ := c.def_ 14 (d := d_Net___init__) rfl
  obtain ⟨fd22, F22⟩ := c.def_ 15 (d := d_Net_further) rfl
  obtain ⟨fd23, F23⟩ := c.def_ 16 (d := d_Net_across) rfl
  obtain ⟨fd29, F29⟩ := c.def_ 17 (d := d_Net___eq__) rfl
  obtain ⟨fd30, F30⟩ := c.def_ 18 (d := d_Net___str__) rfl
  obtain ⟨fd31, F31⟩ := c.def_ 19 (d := d__law_box) rfl
  obtain ⟨fd32, F32⟩ := c.def_ 20 (d := d__law_take) rfl
  obtain ⟨fd33, F33⟩ := c.def_ 21 (d := d__law_mixed) rfl
  obtain ⟨fd34, F34⟩ := c.def_ 22 (d := d__law_net) rfl
  obtain ⟨fd35, F35⟩ := c.def_ 23 (d := d__law_net_of) rfl
  obtain ⟨fd36, F36⟩ := c.def_ 24 (d := d__law_lots) rfl
  obtain ⟨fd37, F37⟩ := c.def_ 25 (d := d__law_across) rfl
  obtain ⟨fd38, F38⟩ := c.def_ 26 (d := d__law_worth) rfl
  obtain ⟨fd39, F39⟩ := c.def_ 27 (d := d_law) rfl
  have e := hfa.symm.trans (He.glo_ok X G (c.fact 16 (f := .glo "law") rfl))
  cases e
  let fdf : Nat → FuncData := fun n => match n with
    | 1 => fd1
    | 2 => fd2
    | 3 => fd3
    | 4 => fd4
    | 5 => fd5
    | 6 => fd6
    | 7 => fd7
    | 8 => fd8
    | 9 => fd9
    | 10 => fd10
    | 12 => fd12
    | 13 => fd13
    | 14 => fd14
    | 15 => fd15
    | 17 => fd17
    | 22 => fd22
    | 23 => fd23
    | 29 => fd29
    | 30 => fd30
    | 31 => fd31
    | 32 => fd32
    | 33 => fd33
    | 34 => fd34
    | 35 => fd35
    | 36 => fd36
    | 37 => fd37
    | 38 => fd38
    | 39 => fd39
    | _ => fd1
  have g : Gl K mg (cKc K) (adK K) fdf := {
    f_all_lots := F1
    f_lots_with_first := F2
    f_least_cut := F3
    f_seen := F4
    f_told := F5
    f_worth := F6
    f_best_ties := F7
    f_is_integer := F8
    f_is_number := F9
    f_is_sequence := F10
    f_is_pair := F12
    f_are_ties := F13
    f_are_joined := F14
    f_line_of := F15
    f_Net___init__ := F17
    f_Net_further := F22
    f_Net_across := F23
    f_Net___eq__ := F29
    f_Net___str__ := F30
    f__law_box := F31
    f__law_take := F32
    f__law_mixed := F33
    f__law_net := F34
    f__law_net_of := F35
    f__law_lots := F36
    f__law_across := F37
    f__law_worth := F38
    f_law := F39
    g__law_across := He.glo_ok X G (c.fact 0 (f := .glo "_law_across") rfl)
    g__law_box := He.glo_ok X G (c.fact 1 (f := .glo "_law_box") rfl)
    g__law_lots := He.glo_ok X G (c.fact 2 (f := .glo "_law_lots") rfl)
    g__law_mixed := He.glo_ok X G (c.fact 3 (f := .glo "_law_mixed") rfl)
    g__law_net := He.glo_ok X G (c.fact 4 (f := .glo "_law_net") rfl)
    g__law_net_of := He.glo_ok X G (c.fact 5 (f := .glo "_law_net_of") rfl)
    g__law_take := He.glo_ok X G (c.fact 6 (f := .glo "_law_take") rfl)
    g__law_worth := He.glo_ok X G (c.fact 7 (f := .glo "_law_worth") rfl)
    g_all_lots := He.glo_ok X G (c.fact 8 (f := .glo "all_lots") rfl)
    g_are_joined := He.glo_ok X G (c.fact 9 (f := .glo "are_joined") rfl)
    g_are_ties := He.glo_ok X G (c.fact 10 (f := .glo "are_ties") rfl)
    g_best_ties := He.glo_ok X G (c.fact 11 (f := .glo "best_ties") rfl)
    g_is_integer := He.glo_ok X G (c.fact 12 (f := .glo "is_integer") rfl)
    g_is_number := He.glo_ok X G (c.fact 13 (f := .glo "is_number") rfl)
    g_is_pair := He.glo_ok X G (c.fact 14 (f := .glo "is_pair") rfl)
    g_is_sequence := He.glo_ok X G (c.fact 15 (f := .glo "is_sequence") rfl)
    g_least_cut := He.glo_ok X G (c.fact 17 (f := .glo "least_cut") rfl)
    g_line_of := He.glo_ok X G (c.fact 18 (f := .glo "line_of") rfl)
    g_lots_with_first := He.glo_ok X G (c.fact 19 (f := .glo "lots_with_first") rfl)
    g_seen := He.glo_ok X G (c.fact 20 (f := .glo "seen") rfl)
    g_told := He.glo_ok X G (c.fact 21 (f := .glo "told") rfl)
    g_worth := He.glo_ok X G (c.fact 22 (f := .glo "worth") rfl)
    fr_abs := He.free_ok X G (c.fact 24 (f := .free "abs") rfl)
    fr_all := He.free_ok X G (c.fact 25 (f := .free "all") rfl)
    fr_bool := He.free_ok X G (c.fact 26 (f := .free "bool") rfl)
    fr_enumerate := He.free_ok X G (c.fact 27 (f := .free "enumerate") rfl)
    fr_int := He.free_ok X G (c.fact 28 (f := .free "int") rfl)
    fr_isinstance := He.free_ok X G (c.fact 29 (f := .free "isinstance") rfl)
    fr_len := He.free_ok X G (c.fact 30 (f := .free "len") rfl)
    fr_list := He.free_ok X G (c.fact 31 (f := .free "list") rfl)
    fr_max := He.free_ok X G (c.fact 32 (f := .free "max") rfl)
    fr_min := He.free_ok X G (c.fact 33 (f := .free "min") rfl)
    fr_range := He.free_ok X G (c.fact 34 (f := .free "range") rfl)
    fr_repr := He.free_ok X G (c.fact 35 (f := .free "repr") rfl)
    fr_sorted := He.free_ok X G (c.fact 36 (f := .free "sorted") rfl)
    fr_str := He.free_ok X G (c.fact 37 (f := .free "str") rfl)
    fr_tuple := He.free_ok X G (c.fact 38 (f := .free "tuple") rfl)
    cl0 := He.cls_ok (c.fact 39 (f := .cls "Net") rfl)
    na0_posts := He.noat_ok (c.fact 40 (f := .noat "Net" "posts") rfl)
    na0_ties := He.noat_ok (c.fact 41 (f := .noat "Net" "ties") rfl)
    me0___eq__ := He.meth_ok (c.fact 42 (f := .meth "Net" "__eq__") rfl)
    me0___str__ := He.meth_ok (c.fact 43 (f := .meth "Net" "__str__") rfl)
    me0_across := He.meth_ok (c.fact 44 (f := .meth "Net" "across") rfl)
    me0_further := He.meth_ok (c.fact 45 (f := .meth "Net" "further") rfl)
    mk0 := He.mkr_ok (c.fact 46 (f := .mkr "Net") rfl)
    gc0 := He.glo_ok X G (c.fact 23 (f := .glo "Net") rfl)
    dt1170 := fun H => emB_ok (Bool.and_eq_true_iff.mp cx).1 H
    ow0 := ownB_ok (Bool.and_eq_true_iff.mp cx).2 }
  have b := FunD.bindsA (ps := ["_law_script"]) F39 fun _ _ _ _ _ _ us hl => match us, hl with | [_], _ => rfl
  exact ⟨fd39, fun s v => b s [v] rfl, fun base _ _ => ok_law (C := cK K) g⟩
end LW
open PySem PySem.W PySem.Calls PyProof.Rows in
theorem LW.fin (pl : ∀ ns : List Int, ns.length ≤ 63 → LW.F_law [.scr ns] = some (.bl true, [])) : PySem.Challenge.rw_levelties_k51_what_a_tie_is_worth.Holds := by
  w_on; o_law
  refine HandSHeadRun.head_any (r := OpenLaw.row PySem.Challenge.rw_levelties_k51_what_a_tie_is_worth) (q := view (OpenLaw.row PySem.Challenge.rw_levelties_k51_what_a_tie_is_worth).prog [39]) (H := LW.hk) (ob := LW.ob) (M := 6000) (loose := LW.loose) (d := HandSHeadRun.topDef (OpenLaw.row PySem.Challenge.rw_levelties_k51_what_a_tie_is_worth).prog 39) (kwd := []) LW.ob_eq
    (by kernel_rfl) (fun s => by kernel_rfl) LW.run (by kernel_rfl) (by kernel_rfl) (by kernel_rfl) (by rfl) (by first | assumption | decide +kernel) (by decide +kernel) ⟨rfl, rfl, rfl, rfl, rfl, by decide +kernel⟩ ?hw ?hc
  case hw => w_witness2
  case hc =>
    refine L2.walkG (l := PySem.Challenge.rw_levelties_k51_what_a_tie_is_worth) (n := 63) (k := 10) (y := "_law_script") rfl (by decide) (by kernel_rfl) ⟨rfl, by decide, by decide⟩ ?F
    intro w mg fa h Y G hmg0
    obtain ⟨K, KX, c⟩ := Y
    have hmg : mg ("law" : PySem.Str) = some (.ref fa) := by
      have e : (HandSHeadRun.topDef (OpenLaw.row PySem.Challenge.rw_levelties_k51_what_a_tie_is_worth).prog 39).name = ("law" : PySem.Str) := by kernel_rfl
      rw [← e]
      exact hmg0
    have cD : He.SaysD LW.fa LW.fn K := congrArg Prod.fst c.t
    obtain ⟨fd, hb, hF⟩ := LW.facts (P := (PySem.Challenge.rw_levelties_k51_what_a_tie_is_worth).prog) (w := w) KX G hmg cD c.more
    exact ⟨K, fd, DL.spF K (LW.cK K) [] false 1 LW.F_law, KX, hb, fun H a ns hl _ hS => DL.law_sp hS (pl ns hl), hF⟩

namespace LW
open PySem L2 DL
abbrev E (ns : List Int) (x1 x2 x3 x4 x5 x6 x7 x8 x9 x10 x11 x12 x13 x14 x15 x16 : Option D) : DL.Env := [some (.scr ns), x1, x2, x3, x4, x5, x6, x7, x8, x9, x10, x11, x12, x13, x14, x15, x16]
local macro_rules | `(tactic| walk_at "rdi") => `(tactic| first | exact lt_T (by omega) | exact lt_F (by omega) | exact le_T (by omega) | exact le_F (by omega) | exact gt_T (by omega) | exact gt_F (by omega) | exact ge_T (by omega) | exact ge_F (by omega) | exact eq_T (by omega) | exact eq_F (by omega) | exact ne_T (by omega) | exact ne_F (by omega))
local macro_rules | `(tactic| walk_at "rd1") => `(tactic| first
  | (with_reducible first
    | (show @Eq (Option _) _ _; assumption)
    | exact q_fC | apply q_V | apply q_S | apply gtS | exact gt0 | apply stS | exact st0
    | exact av_N | apply av_C | exact as_N | apply as_C | exact rds_N | apply rds_C | exact rdb_v | apply rdb_s
    | apply q_Q | apply th_nx | exact th_rt | exact th_bk | exact th_ct | exact r_N
    | apply r_set | apply r_setO | apply q_sIf | apply q_setIx | apply q_LenO | apply sk_T | apply sk_F | apply q_2 | apply r_T | apply q_B | apply q_C0 | apply q_C1 | apply q_OC0 | apply q_OC1 | apply q_OB | apply r_O | apply q_P
    | apply r_R | apply r_RO | apply q_not | exact nt_T | exact nt_F | apply q_and | apply q_or | apply tk_T | apply tk_F | exact tfl_ok | exact ttr_ok
    | apply q_andV | apply q_orV | apply ek_T | apply ek_F | apply q_if | apply q_notV | apply q_tup | apply q_lst | apply q_Me | apply q_At | apply q_Is | apply q_Mk | apply q_Ch | exact q_thru
    | apply q_par | apply q_par3 | apply q_par3O | apply q_aug | apply q_neg | apply r_asg | apply r_sXL | apply q_MtL | apply q_Ext | apply q_M | apply q_oSl | apply q_frz | apply wp_nx | exact wp_rt | apply wp_bk | apply wp_ct
    | apply r_for | apply q_Xv | apply r_En | apply q_fT | apply q_gUT | apply q_gUL | apply q_gN | apply q_gC | exact q_gN0 | apply q_Lc | exact wp0 | apply wpS | exact bk0 | apply bkS
    | apply q_Cel | apply q_setIxE | apply q_MeC | apply q_MeI | apply q_ixO | apply q_C0d | apply q_C00 | exact q_pN | (show @Eq (Option Fl) (some _) _; exact rfl) | apply q_MulL | exact app_N | apply app_C | exact q_Di0 | exact q_YesF | apply q_pI | apply q_En | apply q_Z | exact len_L | exact len_T
    | ((first | show @Eq Bool _ _ | show @Eq (List _) _ _ | show @Eq D _ _ | show @Eq Nat _ _); assumption))
  | ((with_reducible (first | show @Eq (Option Fl) (forD _ _ _ _) _ | show @Eq (Option Fl) (whD _ _ _ _) _ | show @Eq (Option (List D × List (Option D))) (lcD _ _ _ _ _ _ _) _)); assumption)
  | ((with_reducible show @Eq (Option D) _ _); walk_at "rdi")
  | (with_reducible apply q_ap; omega)
  | ((with_reducible (first | show @Eq (Option D) _ _ | show @Eq (Option (List D)) _ _ | show @Eq (Option Bool) _ _ | show @Eq (Option (D × D)) _ _ | show @Eq (List D) _ _ | show @Eq D _ _ | show @Eq Bool _ _ | show @Eq Nat _ _ | show @Eq (Option Key) _ _ | show @Eq B _ _ | show @Eq (List (Option D)) _ _ | show @Eq (Option (List (Option D))) _ _ | show @Eq (Option Str) _ _)); exact rfl)
  | (with_reducible apply q_R1)
  | (show @LE.le Int _ _ _; omega)
  | (show @LE.le Nat _ _ _; first | exact Nat.zero_le _ | (with_reducible exact Nat.le_of_ble_eq_true rfl) | exact Nat.le_of_ble_eq_true rfl | omega | (simp only [List.length_map, List.length_append, List.length_range, List.length_cons, List.length_nil]; omega)))
local macro_rules | `(tactic| walk_at "rd") => `(tactic| repeat' (walk_at "rd1"))
abbrev drD (n : Nat) (ts : List (Int × Int)) : D := .tup [.int (n : Nat), .lst (ts.map pairD)]
theorem net_of_ok {n : Nat} {ts : List (Int × Int)} (hv : VT n ts) (hj : Joined n ts) (hn0 : 0 < n) (hn : n ≤ 20) (ht : ts.length ≤ 30) : F__law_net_of [drD n ts] = some (netD n ts, []) := by
  have net := net_ok hv hj hn0 hn ht
  apply q_run (c := c__law_net_of) (fb := b__law_net_of) (e0 := [some (drD n ts)]) rfl
  · unfold b__law_net_of
    walk_at "rd"
  · exact rfl

theorem plains_prs (ts : List (Int × Int)) : plains (ts.map pairD) = true := by
  induction ts with
  | nil => rfl
  | cons q ts ih => exact ih
theorem dps_prs (ts : List (Int × Int)) : dps (ts.map pairD) ≤ 1 := by
  induction ts with
  | nil => exact Nat.zero_le _
  | cons q ts ih =>
    show max 1 (dps (ts.map pairD)) ≤ 1
    omega
theorem in_prs (q : Int × Int) (L : List (Int × Int)) : inD (pairD q) (.lst (L.map pairD)) = some (.bl (decide (q ∈ L))) := by
  have a : anyE (pairD q) (L.map pairD) = decide (q ∈ L) := by
    induction L with
    | nil => rfl
    | cons u L ih =>
      have e : anyE (pairD q) ((u :: L).map pairD) = ((u.1 == q.1 && (u.2 == q.2 && true)) || anyE (pairD q) (L.map pairD)) := rfl
      rw [e, ih]
      obtain ⟨u1, u2⟩ := u
      obtain ⟨q1, q2⟩ := q
      by_cases h : (q1, q2) = (u1, u2)
      · cases h; simp
      · have : ¬ (u1 = q1 ∧ u2 = q2) := fun z => h (by rw [z.1, z.2])
        have : (u1 == q1 && (u2 == q2 && true)) = false := by
          rw [Bool.and_true]
          cases hc : (u1 == q1 && u2 == q2) with
          | false => rfl
          | true => simp at hc; exact absurd hc this
        rw [this, Bool.false_or]
        exact decide_eq_decide.mpr ⟨List.mem_cons_of_mem _, fun z => (List.mem_cons.mp z).resolve_left h⟩
  have d : decide (min (dps (L.map pairD)) (dp (pairD q)) ≤ 60) = true := by
    rw [decide_eq_true_eq]
    have := dps_prs L
    omega
  show (inB (pairD q) (.lst (L.map pairD))).bind (fun b => some (D.bl b)) = _
  simp [inB, plains_prs, d, a, show DL.plain (pairD q) = true from rfl]
/-! ### the best pairs, plainly -/
def wI (m : Int) : Int × Int := (m, m.fdiv 2)
theorem wI_lt (a b : Int) : HT.lexLt [(wI a).1, (wI a).2] [(wI b).1, (wI b).2] = decide (a < b) := by
  show HT.lexLt [a, a.fdiv 2] [b, b.fdiv 2] = _
  rw [HT.lexLt_cons]
  by_cases e : a = b
  · subst e
    rw [if_pos rfl, HT.lexLt_cons, if_pos rfl, decide_eq_false (by omega)]
    rfl
  · rw [if_neg e]
theorem wI_inj {a b : Int} (h : wI a = wI b) : a = b := congrArg Prod.fst h
theorem best_spec {v : Int × Int → Int} : ∀ (ps : List (Int × Int)) (acc : List (Int × Int)) (m : Int),
    ∃ M, bestF (fun p => wI (v p)) ps (acc, wI m) = ((if M = m then acc else []) ++ ps.filter (fun p => decide (v p = M)), wI M) ∧ m ≤ M ∧ (∀ p ∈ ps, v p ≤ M) ∧ (M = m ∨ ∃ p ∈ ps, v p = M)
  | [], acc, m => ⟨m, by simp [bestF], Int.le_refl _, (fun _ h => nomatch h), .inl rfl⟩
  | p :: ps, acc, m => by
    have st : bestF (fun p => wI (v p)) (p :: ps) (acc, wI m) = bestF (fun p => wI (v p)) ps (bestS (acc, wI m) p (wI (v p))) := rfl
    rw [st]
    unfold bestS
    have lt := wI_lt m (v p)
    by_cases h : m < v p
    · rw [decide_eq_true h] at lt
      rw [if_pos lt]
      obtain ⟨M, e, h1, h2, h3⟩ := best_spec (v := v) ps [p] (v p)
      refine ⟨M, ?_, by omega, fun q hq => ?_, .inr ?_⟩
      · rw [e, if_neg (show ¬ M = m by omega), List.nil_append, List.filter_cons]
        by_cases z : v p = M
        · rw [if_pos z.symm, if_pos (decide_eq_true z)]; rfl
        · rw [if_neg (fun y => z y.symm), if_neg (by simpa using z)]; rfl
      · rcases List.mem_cons.mp hq with y | y
        · subst y; exact h1
        · exact h2 q y
      · rcases h3 with y | ⟨q, hq, y⟩
        · exact ⟨p, List.mem_cons_self, y.symm⟩
        · exact ⟨q, List.mem_cons_of_mem _ hq, y⟩
    · rw [decide_eq_false h] at lt
      rw [if_neg (by rw [lt]; decide)]
      by_cases z : v p = m
      · rw [if_pos (by rw [z])]
        obtain ⟨M, e, h1, h2, h3⟩ := best_spec (v := v) ps (acc ++ [p]) m
        refine ⟨M, ?_, h1, fun q hq => ?_, ?_⟩
        · show bestF (fun p => wI (v p)) ps (acc ++ [p], wI m) = _
          rw [e, List.filter_cons]
          by_cases y : M = m
          · rw [if_pos y, if_pos y, if_pos (by rw [z, y]; simp), List.append_assoc]; rfl
          · rw [if_neg y, if_neg y, if_neg (by rw [z]; simpa using fun w => y w.symm)]
        · rcases List.mem_cons.mp hq with y | y
          · subst y; omega
          · exact h2 q y
        · exact h3.imp _root_.id fun ⟨q, hq, y⟩ => ⟨q, List.mem_cons_of_mem _ hq, y⟩
      · rw [if_neg (fun y => z (wI_inj y))]
        obtain ⟨M, e, h1, h2, h3⟩ := best_spec (v := v) ps acc m
        refine ⟨M, ?_, h1, fun q hq => ?_, h3.imp _root_.id fun ⟨q, hq, y⟩ => ⟨q, List.mem_cons_of_mem _ hq, y⟩⟩
        · have nv : ¬ (decide (v p = M) = true) := fun y => by have := of_decide_eq_true y; omega
          rw [e, List.filter_cons (x := p), if_neg nv]
        · rcases List.mem_cons.mp hq with y | y
          · subst y; omega
          · exact h2 q y
/-- what is seen with one more tie -/
def sv (n : Nat) (ts : List (Int × Int)) (p : Int × Int) : Int := minI (sizes n (ts ++ [p])) - 1
theorem acr_cnt (ts : List (Int × Int)) (l : List Int) : (acr ts l).length = (ts.filter fun q => (decide (q.1 ∈ l) != decide (q.2 ∈ l))).length := by
  unfold acr
  rw [List.length_map]
  have e : ts = ts.zipIdx.map Prod.fst := by simp
  conv => rhs; rw [e]
  rw [List.filter_map, List.length_map]
  rfl
theorem acr_flip (ts : List (Int × Int)) (a b : Int) (S : List Int) : (acr (ts ++ [(a, b)]) S).length = (acr (ts ++ [(b, a)]) S).length := by
  rw [acr_cnt, acr_cnt, List.filter_append, List.filter_append, List.length_append, List.length_append]
  congr 1
  simp only [List.filter_cons, List.filter_nil]
  cases decide (a ∈ S) <;> cases decide (b ∈ S) <;> rfl
theorem sv_flip (n : Nat) (ts : List (Int × Int)) (a b : Int) : sv n ts (a, b) = sv n ts (b, a) := by
  unfold sv sizes
  rw [List.map_congr_left fun S _ => by rw [acr_flip ts a b S]]
theorem sv_bound {n : Nat} {ts : List (Int × Int)} {p : Int × Int} (h1 : 2 ≤ n) (h2 : n ≤ 6) (ht : ts.length ≤ 18) : -1 ≤ sv n ts p ∧ sv n ts p ≤ 20 := by
  have ne : sizes n (ts ++ [p]) ≠ [] := by
    unfold sizes
    simpa using lotsN h1 h2
  obtain ⟨S, hS, e⟩ := List.mem_map.mp (minI_mem ne)
  have : (acr (ts ++ [p]) S).length ≤ (ts ++ [p]).length := by
    unfold acr
    rw [List.length_map]
    exact Nat.le_trans (List.length_filter_le _ _) (by rw [List.length_zipIdx]; exact Nat.le_refl _)
  rw [List.length_append, List.length_singleton] at this
  have e : ((acr (ts ++ [p]) S).length : Int) = minI (sizes n (ts ++ [p])) := e
  unfold sv
  omega
def PALL (n : Nat) : List (Int × Int) := (upN n).flatMap fun a => ((upN n).filter fun b => !(b == a)).map fun b => (a, b)
theorem pall_prs {n : Nat} (h1 : 1 ≤ n) (h2 : n ≤ 6) : (PALL n).filter (fun p => decide (p.1 < p.2)) = PRS n := by
  match n, h1, h2 with
  | 1, _, _ => decide
  | 2, _, _ => decide
  | 3, _, _ => decide
  | 4, _, _ => decide
  | 5, _, _ => decide
  | 6, _, _ => decide
theorem mem_pall {n : Nat} {p : Int × Int} : p ∈ PALL n ↔ (0 ≤ p.1 ∧ p.1 < (n : Int)) ∧ (0 ≤ p.2 ∧ p.2 < (n : Int)) ∧ p.2 ≠ p.1 := by
  unfold PALL
  rw [List.mem_flatMap]
  constructor
  · rintro ⟨a, ha, h⟩
    obtain ⟨b, hb, rfl⟩ := List.mem_map.mp h
    obtain ⟨hb1, hb2⟩ := List.mem_filter.mp hb
    exact ⟨mem_upN.mp ha, mem_upN.mp hb1, by simpa using hb2⟩
  · rintro ⟨h1, h2, h3⟩
    exact ⟨p.1, mem_upN.mpr h1, List.mem_map.mpr ⟨p.2, List.mem_filter.mpr ⟨mem_upN.mpr h2, by simpa using h3⟩, rfl⟩⟩
/-- no pair is worth more -/
def bigP (n : Nat) (ts : List (Int × Int)) (p : Int × Int) : Bool := (PALL n).all fun q => !decide (sv n ts p < sv n ts q)
theorem bestV_is {n : Nat} {ts : List (Int × Int)} (h1 : 2 ≤ n) (h2 : n ≤ 6) (ht : ts.length ≤ 18) (pos : ∀ p ∈ PRS n, 0 ≤ sv n ts p) : bestV n ts = (PALL n).filter fun p => decide (p.1 < p.2) && bigP n ts p := by
  obtain ⟨M, e, m1, m2, m3⟩ := best_spec (v := sv n ts) (PRS n) [] (-1)
  have pr := pall_prs (show 1 ≤ n by omega) h2
  have e0 : bestV n ts = (PRS n).filter fun p => decide (sv n ts p = M) := by
    unfold bestV
    have : bestF (fun p => wv n (ts ++ [p])) (PRS n) ([], (-1, -1)) = _ := e
    rw [this]
    split <;> rfl
  rw [e0, ← pr, List.filter_filter]
  refine List.filter_congr fun p hp => ?_
  rw [Bool.and_comm]
  by_cases lt : p.1 < p.2
  · rw [decide_eq_true lt, Bool.true_and, Bool.true_and, Bool.eq_iff_iff, decide_eq_true_eq]
    have inP : p ∈ PRS n := by rw [← pr]; exact List.mem_filter.mpr ⟨hp, decide_eq_true lt⟩
    have up : ∀ q ∈ PALL n, sv n ts q ≤ M := fun q hq => by
      by_cases ql : q.1 < q.2
      · exact m2 q (by rw [← pr]; exact List.mem_filter.mpr ⟨hq, decide_eq_true ql⟩)
      · obtain ⟨x, y⟩ := q
        rw [sv_flip]
        obtain ⟨q1, q2, q3⟩ := mem_pall.mp hq
        refine m2 (y, x) ?_
        rw [← pr]
        refine List.mem_filter.mpr ⟨mem_pall.mpr ⟨q2, q1, fun z => q3 z.symm⟩, decide_eq_true ?_⟩
        simp only at ql q3 ⊢
        omega
    constructor
    · intro h
      refine List.all_eq_true.mpr fun q hq => ?_
      have := up q hq
      rw [decide_eq_false (by omega)]
      rfl
    · intro h
      have := m2 p inP
      rcases m3 with z | ⟨q, hq, z⟩
      · have := pos p inP
        omega
      · have qa : q ∈ PALL n := by
          rw [← pr] at hq
          exact (List.mem_filter.mp hq).1
        have := List.all_eq_true.mp h q qa
        simp only [Bool.not_eq_true', decide_eq_false_iff_not] at this
        omega
  · rw [decide_eq_false lt, Bool.false_and, Bool.false_and]
/-! ### the law's own worth -/
theorem law_worth_ok {n : Nat} {ts : List (Int × Int)} {p : Int × Int} (h1 : 2 ≤ n) (h2 : n ≤ 6) (ht : ts.length ≤ 100) : F__law_worth [drD n ts, pairD p] = some (pairD (wI (sv n ts p)), []) := by
  have lo := law_lots_ok (n := n) (by omega) h2
  have sb : subSc (drD n ts) (.int 0) = some (.int (n : Nat)) := rfl
  have sb1 : subSc (drD n ts) (.int 1) = some (.lst (ts.map pairD)) := rfl
  have ad : addD (.lst (ts.map pairD)) (.lst [pairD p]) = some (.lst ((ts ++ [p]).map pairD)) := by
    rw [List.map_append]
    show gd _ _ = _
    unfold gd
    rw [if_pos (by rw [List.length_map, List.length_singleton]; omega)]
    rfl
  have ne : sizes n (ts ++ [p]) ≠ [] := by
    unfold sizes
    simpa using lotsN h1 h2
  let E1 : Option D → Option D → DL.Env := fun x y => [some (drD n ts), some (pairD p), some (drD n (ts ++ [p])), x, y]
  have lc := lcD_all (gg := gN 4) (f := fB lenD (aC (fC0 2 F__law_across [] (aC (fV 2) (aC (fV 4) aN))) aN)) (own := [4]) (env := E1 none none) lotD (fun S => D.int ((acr (ts ++ [p]) S).length : Nat)) (fun S => E1 none (some (lotD S))) (LOTS n) fun S _ =>
    ⟨rfl, r_B (r_aC (r_C0 (r_aC rfl (r_aC rfl r_aN)) rfl (law_across_ok (n := (n : Int)) (ts ++ [p]) S) rfl) r_aN) rfl (by
      show some (D.int ((numsD (acr (ts ++ [p]) S)).length : Nat)) = _
      unfold numsD
      rw [List.length_map]), rfl⟩
  have em : ((LOTS n).map fun S => D.int ((acr (ts ++ [p]) S).length : Nat)) = (sizes n (ts ++ [p])).map D.int := by
    unfold sizes
    rw [List.map_map]
    rfl
  rw [em] at lc
  have m : minD [.lst ((sizes n (ts ++ [p])).map D.int)] = some (.int (minI (sizes n (ts ++ [p])))) := by
    show (intsNE ((sizes n (ts ++ [p])).map D.int)).bind _ = _
    unfold intsNE
    rw [intsD_map]
    cases q : sizes n (ts ++ [p]) with
    | nil => exact absurd q ne
    | cons x xs => rfl
  have b1 : b__law_worth [some (drD n ts), some (pairD p), none, none, none] = some (.rt (pairD (wI (sv n ts p))) (E1 (some (.int (minI (sizes n (ts ++ [p]))))) none)) := by
    unfold b__law_worth
    refine r_Q (e1 := E1 none none) (r_set (q_tup (ds := [.int (n : Nat), .lst ((ts ++ [p]).map pairD)]) (av_C (r_2 rfl rfl rfl rfl sb) (av_C (r_2 (r_2 rfl rfl rfl rfl sb1) (r_O (q_lst (ds := [pairD p]) (av_C rfl av_N) (show 1 ≤ 16777216 by decide))) rfl rfl ad) av_N)) (show 2 ≤ 16777216 by decide)) rfl) ?_
    refine r_Q (e1 := E1 (some (.int (minI (sizes n (ts ++ [p]))))) none) (r_set (r_B (r_aC (r_O (r_Lc (r_X (r_C0 (r_aC (r_2 rfl rfl rfl rfl sb) r_aN) rfl lo rfl) rfl) lc rfl)) r_aN) rfl m) rfl) ?_
    exact r_R (q_tup (ds := [.int (sv n ts p), .int ((sv n ts p).fdiv 2)]) (av_C (r_2 rfl rfl rfl rfl rfl) (av_C (r_2 (r_2 rfl rfl rfl rfl rfl) rfl rfl rfl rfl) av_N)) (show 2 ≤ 16777216 by decide))
  exact q_run (c := c__law_worth) (fb := b__law_worth) (e0 := [some (drD n ts), some (pairD p), none, none, none]) rfl b1 rfl
/-! ### one pair of posts -/
def entD (n : Nat) (ts : List (Int × Int)) (p : Int × Int) : D := .tup [pairD (wI (sv n ts p)), pairD p]
theorem repr_pr {p : Int × Int} (h1 : p.1.natAbs < 1000000) (h2 : p.2.natAbs < 1000000) : reprD [pairD p] = some (.str (toPy (pairD p)).shown) := by
  have e : reprB (pairD p) = true := by
    unfold reprB
    have s : smB (pairD p) = true := by
      show (decide (p.1.natAbs.log2 < 100) && (decide (p.2.natAbs.log2 < 100) && true)) = true
      rw [decide_eq_true (small_log h1), decide_eq_true (small_log h2)]
      rfl
    rw [s]
    rfl
  exact if_pos e
theorem pair_turn {ns : List Int} {x1 x2 x3 x4 x7 x8 x12 x13 x14 x15 x16 : Option D} {n : Nat} {ts K : List (Int × Int)} {a b : Int} (h2 : n ≤ 6) (V : VT n ts) (J : Conn n ts) (ht : ts.length ≤ 18) (ha : 0 ≤ a ∧ a < (n : Int)) (hb : 0 ≤ b ∧ b < (n : Int)) (ne : b ≠ a) (hK : K.length ≤ 1000) : ∃ y8, lp_law_1 (E ns x1 x2 x3 x4 (some (drD n ts)) (some (.int a)) x7 x8 (some (netD n ts)) (some (.lst (K.map (entD n ts)))) (some (.int b)) x12 x13 x14 x15 x16) = some (.nx (E ns x1 x2 x3 x4 (some (drD n ts)) (some (.int a)) x7 y8 (some (netD n ts)) (some (.lst ((K ++ [(a, b)]).map (entD n ts)))) (some (.int b)) x12 x13 x14 x15 x16)) := by
  have h1 : 2 ≤ n := by omega
  have lw := law_worth_ok (n := n) (ts := ts) (p := (a, b)) h1 h2 (by omega)
  have w := worth_ok h1 h2 V J (by omega) ha hb ne.symm
  have w : F_worth [netD n ts, .int a, .int b] = some (pairD (wI (sv n ts (a, b))), []) := w
  obtain ⟨s1, s2⟩ := sv_bound (p := (a, b)) h1 h2 ht
  have rp := repr_pr (p := wI (sv n ts (a, b))) (show (sv n ts (a, b)).natAbs < 1000000 by omega) (show ((sv n ts (a, b)).fdiv 2).natAbs < 1000000 by rw [Int.fdiv_eq_ediv_of_nonneg _ (by decide)]; omega)
  generalize (toPy (pairD (wI (sv n ts (a, b))))).shown = sh at rp
  have nn := ne_str sh
  have ap : appD (.lst (K.map (entD n ts))) [entD n ts (a, b)] = some (.non, .lst ((K ++ [(a, b)]).map (entD n ts))) := by
    rw [List.map_append]
    exact q_ap (by rw [List.length_map]; omega)
  refine ⟨some (pairD (wI (sv n ts (a, b)))), ?_⟩
  unfold lp_law_1
  refine r_Q (e1 := E ns x1 x2 x3 x4 (some (drD n ts)) (some (.int a)) x7 (some (pairD (wI (sv n ts (a, b))))) (some (netD n ts)) (some (.lst (K.map (entD n ts)))) (some (.int b)) x12 x13 x14 x15 x16) (r_set (r_C0e (ds := [drD n ts, pairD (a, b)]) (r_aC rfl (r_aC (q_tup (ds := [.int a, .int b]) (av_C rfl (av_C rfl av_N)) (show 2 ≤ 16777216 by decide)) r_aN)) lw rfl) rfl) ?_
  refine r_Q (e1 := E ns x1 x2 x3 x4 (some (drD n ts)) (some (.int a)) x7 (some (pairD (wI (sv n ts (a, b))))) (some (netD n ts)) (some (.lst (K.map (entD n ts)))) (some (.int b)) x12 x13 x14 x15 x16) (r_sF (r_T (r_2 (r_B (r_aC (r_C0 (r_aC rfl (r_aC rfl (r_aC rfl r_aN))) rfl w rfl) r_aN) rfl rp) (r_B (r_aC rfl r_aN) rfl rp) rfl rfl nn)) rfl) ?_
  exact r_sXL (q_MtL (ds := [entD n ts (a, b)]) rfl (av_C (q_tup (ds := [pairD (wI (sv n ts (a, b))), pairD (a, b)]) (av_C rfl (av_C (q_tup (ds := [.int a, .int b]) (av_C rfl (av_C rfl av_N)) (show 2 ≤ 16777216 by decide)) av_N)) (show 2 ≤ 16777216 by decide)) av_N) rfl ap rfl)
theorem row_turn {ns : List Int} {x1 x2 x3 x4 x7 x12 x13 x14 x15 x16 : Option D} {n : Nat} {ts : List (Int × Int)} {a : Int} (h2 : n ≤ 6) (V : VT n ts) (J : Conn n ts) (ht : ts.length ≤ 18) (ha : 0 ≤ a ∧ a < (n : Int)) : ∀ (bs : List Int) (K : List (Int × Int)) (x8 x11 : Option D), (∀ b ∈ bs, (0 ≤ b ∧ b < (n : Int)) ∧ b ≠ a) → K.length + bs.length ≤ 1000 → ∃ y8 y11, forD (gN 11) lp_law_1 (bs.map D.int) (E ns x1 x2 x3 x4 (some (drD n ts)) (some (.int a)) x7 x8 (some (netD n ts)) (some (.lst (K.map (entD n ts)))) x11 x12 x13 x14 x15 x16) = some (.nx (E ns x1 x2 x3 x4 (some (drD n ts)) (some (.int a)) x7 y8 (some (netD n ts)) (some (.lst ((K ++ bs.map fun b => (a, b)).map (entD n ts)))) y11 x12 x13 x14 x15 x16))
  | [], K, x8, x11, _, _ => ⟨x8, x11, by rw [List.map_nil, List.map_nil, List.append_nil]; rfl⟩
  | b :: bs, K, x8, x11, h, hK => by
    rw [List.length_cons] at hK
    obtain ⟨hb, ne⟩ := h b List.mem_cons_self
    obtain ⟨z8, w⟩ := pair_turn (ns := ns) (x1 := x1) (x2 := x2) (x3 := x3) (x4 := x4) (x7 := x7) (x8 := x8) (x12 := x12) (x13 := x13) (x14 := x14) (x15 := x15) (x16 := x16) (K := K) h2 V J ht ha hb ne (by omega)
    obtain ⟨y8, y11, w2⟩ := row_turn (ns := ns) (x1 := x1) (x2 := x2) (x3 := x3) (x4 := x4) (x7 := x7) (x12 := x12) (x13 := x13) (x14 := x14) (x15 := x15) (x16 := x16) h2 V J ht ha bs (K ++ [(a, b)]) z8 (some (.int b)) (fun c hc => h c (List.mem_cons_of_mem _ hc)) (by rw [List.length_append, List.length_singleton]; omega)
    refine ⟨y8, y11, r_forC rfl w ?_⟩
    rw [List.map_cons, show K ++ (a, b) :: bs.map (fun b => (a, b)) = K ++ [(a, b)] ++ bs.map fun b => (a, b) from List.append_cons ..]
    exact w2
def rowP (n : Nat) (a : Int) : List (Int × Int) := ((upN n).filter fun b => !(b == a)).map fun b => (a, b)
theorem rowP_len (n : Nat) (a : Int) : (rowP n a).length ≤ n := by
  unfold rowP
  rw [List.length_map]
  refine Nat.le_trans (List.length_filter_le _ _) ?_
  rw [upN_len]
  exact Nat.le_refl _
theorem rngU (n : Nat) : rngD 0 n = (upN n).map D.int := by
  unfold upN
  simp [rngD]
theorem all_turn {ns : List Int} {x1 x2 x3 x7 x12 x13 x14 x15 x16 : Option D} {n : Nat} {ts : List (Int × Int)} (h2 : n ≤ 6) (V : VT n ts) (J : Conn n ts) (ht : ts.length ≤ 18) : ∀ (as : List Int) (K : List (Int × Int)) (x6 x8 x11 : Option D), (∀ a ∈ as, 0 ≤ a ∧ a < (n : Int)) → K.length + as.length * 6 ≤ 900 → ∃ y6 y8 y11, forD (gN 6) lp_law_2 (as.map D.int) (E ns x1 x2 x3 (some (.int (n : Nat))) (some (drD n ts)) x6 x7 x8 (some (netD n ts)) (some (.lst (K.map (entD n ts)))) x11 x12 x13 x14 x15 x16) = some (.nx (E ns x1 x2 x3 (some (.int (n : Nat))) (some (drD n ts)) y6 x7 y8 (some (netD n ts)) (some (.lst ((K ++ as.flatMap (rowP n)).map (entD n ts)))) y11 x12 x13 x14 x15 x16))
  | [], K, x6, x8, x11, _, _ => ⟨x6, x8, x11, by rw [List.flatMap_nil, List.append_nil]; rfl⟩
  | a :: as, K, x6, x8, x11, h, hK => by
    rw [List.length_cons] at hK
    have ha := h a List.mem_cons_self
    have rl := rowP_len n a
    obtain ⟨z8, z11, w⟩ := row_turn (ns := ns) (x1 := x1) (x2 := x2) (x3 := x3) (x4 := some (.int (n : Nat))) (x7 := x7) (x12 := x12) (x13 := x13) (x14 := x14) (x15 := x15) (x16 := x16) h2 V J ht ha ((upN n).filter fun b => !(b == a)) K x8 x11 (fun b hb => by
      obtain ⟨hb1, hb2⟩ := List.mem_filter.mp hb
      exact ⟨mem_upN.mp hb1, by simpa using hb2⟩) (by unfold rowP at rl; rw [List.length_map] at rl; omega)
    obtain ⟨y6, y8, y11, w2⟩ := all_turn (ns := ns) (x1 := x1) (x2 := x2) (x3 := x3) (x7 := x7) (x12 := x12) (x13 := x13) (x14 := x14) (x15 := x15) (x16 := x16) h2 V J ht as (K ++ rowP n a) (some (.int a)) z8 z11 (fun c hc => h c (List.mem_cons_of_mem _ hc)) (by rw [List.length_append]; omega)
    refine ⟨y6, y8, y11, ?_⟩
    have lc := lcD_map0 (gg := gN 12) (tt := fTst (f2 neD (fV 12) (fV 6))) (f := fV 12) (own := [12]) (env := E ns x1 x2 x3 (some (.int (n : Nat))) (some (drD n ts)) (some (.int a)) x7 x8 (some (netD n ts)) (some (.lst (K.map (entD n ts)))) x11 none x13 x14 x15 x16) D.int D.int (fun i => !(i == a)) (fun i => E ns x1 x2 x3 (some (.int (n : Nat))) (some (drD n ts)) (some (.int a)) x7 x8 (some (netD n ts)) (some (.lst (K.map (entD n ts)))) x11 (some (.int i)) x13 x14 x15 x16) (upN n) fun i _ => ⟨rfl, r_T (r_2 rfl rfl rfl rfl (neD_int i a)), fun _ => rfl, rfl⟩
    rw [← rngU] at lc
    have rg : iR1 (aC (fV 4) aN) (E ns x1 x2 x3 (some (.int (n : Nat))) (some (drD n ts)) (some (.int a)) x7 x8 (some (netD n ts)) (some (.lst (K.map (entD n ts)))) x11 x12 x13 x14 x15 x16) = some (rngD 0 n, E ns x1 x2 x3 (some (.int (n : Nat))) (some (drD n ts)) (some (.int a)) x7 x8 (some (netD n ts)) (some (.lst (K.map (entD n ts)))) x11 x12 x13 x14 x15 x16) := iR1_ok (j := n) (r_aC rfl r_aN) rfl (by omega) (by omega)
    have st : lp_law_2 (E ns x1 x2 x3 (some (.int (n : Nat))) (some (drD n ts)) (some (.int a)) x7 x8 (some (netD n ts)) (some (.lst (K.map (entD n ts)))) x11 x12 x13 x14 x15 x16) = some (.nx (E ns x1 x2 x3 (some (.int (n : Nat))) (some (drD n ts)) (some (.int a)) x7 z8 (some (netD n ts)) (some (.lst ((K ++ rowP n a).map (entD n ts)))) z11 x12 x13 x14 x15 x16)) := by
      unfold lp_law_2
      exact r_for (r_X (r_O (r_Lc rg lc rfl)) rfl) w
    refine r_forC rfl st ?_
    rw [List.flatMap_cons, ← List.append_assoc]
    exact w2
/-! ### the most, and the best ties -/
theorem pall_flat (n : Nat) : (upN n).flatMap (rowP n) = PALL n := rfl
theorem best_is {n : Nat} {ts : List (Int × Int)} (h1 : 1 ≤ n) (h2 : n ≤ 6) (V : VT n ts) (J : Conn n ts) (ht : ts.length ≤ 18) : F_best_ties [netD n ts] = some (.tup (((PALL n).filter fun p => decide (p.1 < p.2) && bigP n ts p).map pairD), []) := by
  by_cases e : n = 1
  · subst e
    have s1 := prs_set (n := 1) (ts := ts) (by decide) (by decide)
    have so := prs_sort (n := 1) (by decide) (by decide)
    have tx : tupleX [.lst (([] : List (Int × Int)).map pairD)] = some (.tup (([] : List (Int × Int)).map pairD)) := rfl
    have s2 : sPar 3 4 (oLst aN) (oP (fTup (aC (fNeg (fC (.int 1))) (aC (fNeg (fC (.int 1))) aN)))) (B8 1 ts (some (.lst ((PR0 1).map pairD))) none none none none) = some (.nx (B8 1 ts (some (.lst ((PR0 1).map pairD))) none (some (.lst (([] : List (Int × Int)).map pairD))) (some (pairD (-1, -1))) none)) := q_par (q_lst (ds := []) av_N (Nat.zero_le _)) (q_P (q_tup (ds := [.int (-1), .int (-1)]) (av_C rfl (av_C rfl av_N)) (show 2 ≤ 16777216 by decide))) rfl rfl
    have b1 : b_best_ties (B8 1 ts none none none none none) = some (.rt (.tup (([] : List (Int × Int)).map pairD)) (B8 1 ts (some (.lst ((PR0 1).map pairD))) none (some (.lst (([] : List (Int × Int)).map pairD))) (some (pairD (-1, -1))) none)) := by
      unfold b_best_ties tl_best_ties_1
      exact r_Q s1 (r_Q s2 (r_Q (r_for (r_X (r_O (r_OB (r_aC rfl r_aN) rfl so)) rfl) rfl) (r_R (r_B (r_aC (r_S rfl) r_aN) rfl tx))))
    exact q_run (c := c_best_ties) (fb := b_best_ties) (e0 := B8 1 ts none none none none none) rfl b1 rfl
  · have n2 : 2 ≤ n := by omega
    rw [← bestV_is n2 h2 ht fun p hp => ?_]
    · exact best_ok n2 h2 V J (by omega)
    · have ne : sizes n (ts ++ [p]) ≠ [] := by
        unfold sizes
        simpa using lotsN n2 h2
      obtain ⟨S, hS, e⟩ := List.mem_map.mp (minI_mem ne)
      have e : ((acr (ts ++ [p]) S).length : Int) = minI (sizes n (ts ++ [p])) := e
      have := lot_cut h2 (J.more (us := ts ++ [p]) fun q hq => List.mem_append_left _ hq) hS
      unfold sv
      omega
theorem most_lc {ns : List Int} {x1 x2 x3 x4 x5 x6 x7 x9 x11 x12 x14 : Option D} {n : Nat} {ts : List (Int × Int)} {d8 d13 : Option D} : lcD (gT 2 (gC (gN 8) (gC (gN 13) gN0))) (fTst (f2 eqD (fO (oLc (iX (fV 10)) (gT 2 (gC (gN 15) (gC (gN 16) gN0))) (fTst (f2 gtTD (fV 15) (fV 8))) (fC (.int 1)) [15, 16])) (fO (oLst aN)))) (fV 8) [8, 13] ((PALL n).map (entD n ts)) (E ns x1 x2 x3 x4 x5 x6 x7 none x9 (some (.lst ((PALL n).map (entD n ts)))) x11 x12 none x14 x15 x16) [] = some (((PALL n).filter (bigP n ts)).map (fun p => pairD (wI (sv n ts p))), E ns x1 x2 x3 x4 x5 x6 x7 none x9 (some (.lst ((PALL n).map (entD n ts)))) x11 x12 none x14 x15 x16) :=
  lcD_map0 (gg := gT 2 (gC (gN 8) (gC (gN 13) gN0))) (f := fV 8) (own := [8, 13]) (env := E ns x1 x2 x3 x4 x5 x6 x7 none x9 (some (.lst ((PALL n).map (entD n ts)))) x11 x12 none x14 x15 x16) (entD n ts) (fun p => pairD (wI (sv n ts p))) (bigP n ts) (fun p => E ns x1 x2 x3 x4 x5 x6 x7 (some (pairD (wI (sv n ts p)))) x9 (some (.lst ((PALL n).map (entD n ts)))) x11 x12 (some (pairD p)) x14 x15 x16) (PALL n) fun p _ => by
    have lc := lcD_map0 (gg := gT 2 (gC (gN 15) (gC (gN 16) gN0))) (tt := fTst (f2 gtTD (fV 15) (fV 8))) (f := fC (.int 1)) (own := [15, 16]) (env := E ns x1 x2 x3 x4 x5 x6 x7 (some (pairD (wI (sv n ts p)))) x9 (some (.lst ((PALL n).map (entD n ts)))) x11 x12 (some (pairD p)) x14 none none) (entD n ts) (fun _ => D.int 1) (fun q => decide (sv n ts p < sv n ts q)) (fun q => E ns x1 x2 x3 x4 x5 x6 x7 (some (pairD (wI (sv n ts p)))) x9 (some (.lst ((PALL n).map (entD n ts)))) x11 x12 (some (pairD p)) x14 (some (pairD (wI (sv n ts q)))) (some (pairD q))) (PALL n) fun q _ => by
      have g := gt_pair (wI (sv n ts q)) (wI (sv n ts p))
      rw [wI_lt] at g
      exact ⟨rfl, r_T (r_2 rfl rfl rfl rfl g), fun _ => rfl, rfl⟩
    have pl : plains (((PALL n).filter fun q => decide (sv n ts p < sv n ts q)).map fun _ => D.int 1) = true := plains_iff.mpr fun d hd => by
      obtain ⟨_, _, rfl⟩ := List.mem_map.mp hd
      rfl
    have eq := eq_nilD pl
    have e : (((PALL n).filter fun q => decide (sv n ts p < sv n ts q)).map fun _ => D.int 1).isEmpty = bigP n ts p := by
      unfold bigP
      rw [Bool.eq_iff_iff, List.isEmpty_iff, List.map_eq_nil_iff, List.filter_eq_nil_iff, List.all_eq_true]
      simp only [decide_eq_true_eq, Bool.not_eq_true', decide_eq_false_iff_not]
    rw [e] at eq
    exact ⟨rfl, r_T (r_2 (r_O (r_Lc (r_X rfl rfl) lc rfl)) (r_O (r_lst r_aN rfl (Nat.zero_le _))) rfl rfl eq), fun _ => rfl, rfl⟩
theorem due_lc {ns : List Int} {x1 x2 x3 x4 x5 x6 x8 x9 x11 x12 x15 x16 : Option D} {n : Nat} {ts : List (Int × Int)} : lcD (gT 2 (gC (gN 14) (gC (gN 13) gN0))) (fAnd (fTst (f2 ltD (f2 subSc (fV 13) (fC (.int 0))) (f2 subSc (fV 13) (fC (.int 1))))) (fTst (f2 inD (fV 14) (fV 7)))) (fV 13) [14, 13] ((PALL n).map (entD n ts)) (E ns x1 x2 x3 x4 x5 x6 (some (.lst (((PALL n).filter (bigP n ts)).map (fun p => pairD (wI (sv n ts p)))))) x8 x9 (some (.lst ((PALL n).map (entD n ts)))) x11 x12 none none x15 x16) [] = some (((PALL n).filter fun p => decide (p.1 < p.2) && bigP n ts p).map pairD, E ns x1 x2 x3 x4 x5 x6 (some (.lst (((PALL n).filter (bigP n ts)).map (fun p => pairD (wI (sv n ts p)))))) x8 x9 (some (.lst ((PALL n).map (entD n ts)))) x11 x12 none none x15 x16) := by
  have em : (((PALL n).filter (bigP n ts)).map (fun p => pairD (wI (sv n ts p)))) = (((PALL n).filter (bigP n ts)).map fun p => wI (sv n ts p)).map pairD := by rw [List.map_map]; rfl
  exact lcD_map0 (gg := gT 2 (gC (gN 14) (gC (gN 13) gN0))) (f := fV 13) (own := [14, 13]) (env := E ns x1 x2 x3 x4 x5 x6 (some (.lst (((PALL n).filter (bigP n ts)).map (fun p => pairD (wI (sv n ts p)))))) x8 x9 (some (.lst ((PALL n).map (entD n ts)))) x11 x12 none none x15 x16) (entD n ts) pairD (fun p => decide (p.1 < p.2) && bigP n ts p) (fun p => E ns x1 x2 x3 x4 x5 x6 (some (.lst (((PALL n).filter (bigP n ts)).map (fun p => pairD (wI (sv n ts p)))))) x8 x9 (some (.lst ((PALL n).map (entD n ts)))) x11 x12 (some (pairD p)) (some (pairD (wI (sv n ts p)))) x15 x16) (PALL n) fun p hp => by
    have i0 : subSc (pairD p) (.int 0) = some (.int p.1) := rfl
    have i1 : subSc (pairD p) (.int 1) = some (.int p.2) := rfl
    have lt : ltD (.int p.1) (.int p.2) = some (.bl (decide (p.1 < p.2))) := rfl
    have ii : inD (pairD (wI (sv n ts p))) (.lst (((PALL n).filter (bigP n ts)).map (fun p => pairD (wI (sv n ts p))))) = some (.bl (bigP n ts p)) := by
      rw [em, in_prs]
      congr 2
      rw [Bool.eq_iff_iff, decide_eq_true_eq, List.mem_map]
      constructor
      · rintro ⟨q, hq, e⟩
        have e := wI_inj e
        have b := (List.mem_filter.mp hq).2
        unfold bigP at b ⊢
        rw [← e]
        exact b
      · intro h
        exact ⟨p, List.mem_filter.mpr ⟨hp, h⟩, rfl⟩
    refine ⟨rfl, ?_, fun _ => rfl, rfl⟩
    cases hb : decide (p.1 < p.2) with
    | false =>
      rw [hb] at lt
      exact r_andF (r_T (r_2 (r_2 rfl rfl rfl rfl i0) (r_2 rfl rfl rfl rfl i1) rfl rfl lt))
    | true =>
      rw [hb] at lt
      rw [Bool.true_and]
      exact r_andT (r_T (r_2 (r_2 rfl rfl rfl rfl i0) (r_2 rfl rfl rfl rfl i1) rfl rfl lt)) (r_T (r_2 rfl rfl rfl rfl ii))
theorem pall_len {n : Nat} (h1 : 1 ≤ n) (h2 : n ≤ 6) : (PALL n).length ≤ 30 := by
  match n, h1, h2 with
  | 1, _, _ => decide
  | 2, _, _ => decide
  | 3, _, _ => decide
  | 4, _, _ => decide
  | 5, _, _ => decide
  | 6, _, _ => decide
theorem repr_prs {n : Nat} {ls : List (Int × Int)} (h1 : ls.length ≤ 70) (h2 : ∀ p ∈ ls, p ∈ PALL n) (hn : n ≤ 6) : ∃ s, reprD [.tup (ls.map pairD)] = some (.str s) := by
  have e : ls.map pairD = (ls.map fun p => [p.1, p.2]).map lotD := by rw [List.map_map]; rfl
  rw [e]
  refine ⟨_, repr_lots (by rw [List.length_map]; exact h1) (fun l hl => ?_) fun l hl x hx => ?_⟩
  · obtain ⟨p, _, rfl⟩ := List.mem_map.mp hl
    exact (by decide : 2 ≤ 10)
  · obtain ⟨p, hp, rfl⟩ := List.mem_map.mp hl
    have := mem_pall.mp (h2 p hp)
    simp only [List.mem_cons, List.not_mem_nil, or_false] at hx
    rcases hx with z | z <;> subst z <;> omega
theorem net_turn {ns : List Int} {x1 x3 x4 x5 x6 x7 x8 x9 x10 x11 x12 x13 x14 x15 x16 : Option D} {bx : D} (hB : Bx bx) : ∃ bx' y4 y5 y6 y7 y8 y9 y10 y11 y12 y13 y14 y15 y16, lp_law_3 (E ns x1 (some bx) x3 x4 x5 x6 x7 x8 x9 x10 x11 x12 x13 x14 x15 x16) = some (.nx (E ns x1 (some bx') x3 y4 y5 y6 y7 y8 y9 y10 y11 y12 y13 y14 y15 y16)) ∧ Bx bx' := by
  obtain ⟨d0, b1, t0, q0, q1, B1⟩ := take_ok hB (m := 6) (by decide) (by decide)
  obtain ⟨m, rfl⟩ : ∃ m : Nat, d0 = (m : Nat) := ⟨d0.toNat, by omega⟩
  obtain ⟨b2, ts, w1, B2, V, Jn, l⟩ := drawn_ok2 (n := 1 + m) (most := 9 - (1 + m : Nat)) B1 (by omega) (by omega) (by omega) (by omega)
  have e1 : (1 : Int) + (m : Nat) = ((1 + m : Nat) : Int) := by omega
  generalize hn : 1 + m = n at w1 V Jn e1
  have h1 : 1 ≤ n := by omega
  have h2 : n ≤ 6 := by omega
  have J := Jn.conn
  have no := net_of_ok V Jn (by omega) (by omega) (by omega)
  have ad : addD (.int 1) (.int (m : Nat)) = some (.int (n : Nat)) := by
    show some (D.int (1 + (m : Nat))) = _
    rw [e1]
  have sb9 : subD (.int 9) (.int (n : Nat)) = some (.int (9 - (n : Nat))) := rfl
  have sb1 : subSc (drD n ts) (.int 1) = some (.lst (ts.map pairD)) := rfl
  obtain ⟨y6, y8, y11, f⟩ := all_turn (ns := ns) (x1 := x1) (x2 := some b2) (x3 := x3) (x6 := x6) (x7 := x7) (x8 := x8) (x11 := x11) (x12 := x12) (x13 := x13) (x14 := x14) (x15 := x15) (x16 := x16) h2 V J l (upN n) [] (fun a ha => mem_upN.mp ha) (by rw [upN_len, List.length_nil]; omega)
  rw [List.nil_append, pall_flat, ← rngU] at f
  have lc1 := most_lc (ns := ns) (x1 := x1) (x2 := some b2) (x3 := x3) (x4 := some (.int (n : Nat))) (x5 := some (drD n ts)) (x6 := y6) (x7 := x7) (x9 := some (netD n ts)) (x11 := y11) (x12 := x12) (x14 := x14) (x15 := x15) (x16 := x16) (n := n) (ts := ts) (d8 := none) (d13 := none)
  have lc2 := due_lc (ns := ns) (x1 := x1) (x2 := some b2) (x3 := x3) (x4 := some (.int (n : Nat))) (x5 := some (drD n ts)) (x6 := y6) (x8 := y8) (x9 := some (netD n ts)) (x11 := y11) (x12 := x12) (x15 := x15) (x16 := x16) (n := n) (ts := ts)
  have be := best_is h1 h2 V J l
  have pl := pall_len h1 h2
  obtain ⟨sh, rp⟩ := repr_prs (n := n) (ls := (PALL n).filter fun p => decide (p.1 < p.2) && bigP n ts p) (Nat.le_trans (List.length_filter_le _ _) (by omega)) (fun p hp => (List.mem_filter.mp hp).1) h2
  have nn := ne_str sh
  generalize hD : ((PALL n).filter fun p => decide (p.1 < p.2) && bigP n ts p).map pairD = DU at lc2 be rp
  generalize hM : ((PALL n).filter (bigP n ts)).map (fun p => pairD (wI (sv n ts p))) = MO at lc1 lc2
  let E2 : Option D → Option D → DL.Env := fun a b => E ns x1 (some b2) x3 (some (.int (n : Nat))) (some (drD n ts)) y6 a b (some (netD n ts)) (some (.lst ((PALL n).map (entD n ts)))) y11 x12 x13 x14 x15 x16
  have rg : iR1 (aC (fV 4) aN) (E ns x1 (some b2) x3 (some (.int (n : Nat))) (some (drD n ts)) x6 x7 x8 (some (netD n ts)) (some (.lst [])) x11 x12 x13 x14 x15 x16) = some (rngD 0 n, E ns x1 (some b2) x3 (some (.int (n : Nat))) (some (drD n ts)) x6 x7 x8 (some (netD n ts)) (some (.lst [])) x11 x12 x13 x14 x15 x16) := iR1_ok (j := n) (r_aC rfl r_aN) rfl (by omega) (by omega)
  have tx : tupleX [.lst DU] = some (.tup DU) := rfl
  have ne := net_ne_same (f := fV 9) (g := fC0 1 F__law_net_of [] (aC (fV 5) aN)) (env := E2 (some (.lst MO)) (some (.tup DU))) (by omega) V (by omega) rfl (r_C0 (r_aC rfl r_aN) rfl no rfl)
  have tl : tl_law_1 (E ns x1 (some b2) x3 (some (.int (n : Nat))) (some (drD n ts)) x6 x7 x8 (some (netD n ts)) (some (.lst [])) x11 x12 x13 x14 x15 x16) = some (.nx (E ns x1 (some b2) x3 (some (.int (n : Nat))) (some (drD n ts)) y6 (some (.lst MO)) (some (.tup DU)) (some (netD n ts)) none y11 x12 x13 x14 x15 x16)) := by
    unfold tl_law_1
    refine r_Q (r_for rg f) (q_frz (fl := .nx (E2 (some (.lst MO)) (some (.tup DU)))) ?_ rfl)
    refine r_Q (e1 := E2 (some (.lst MO)) y8) (r_set (r_O (r_Lc (r_X rfl rfl) lc1 rfl)) rfl) ?_
    refine r_Q (e1 := E2 (some (.lst MO)) (some (.tup DU))) (r_set (r_B (r_aC (r_O (r_Lc (r_X rfl rfl) lc2 rfl)) r_aN) rfl tx) rfl) ?_
    exact r_sF (r_orF (r_T (r_2 (r_B (r_aC (r_C0 (r_aC rfl r_aN) rfl be rfl) r_aN) rfl rp) (r_B (r_aC rfl r_aN) rfl rp) rfl rfl nn)) ne) rfl
  refine ⟨b2, some (.int (n : Nat)), some (drD n ts), y6, some (.lst MO), some (.tup DU), some (netD n ts), none, y11, x12, x13, x14, x15, x16, ?_, B2⟩
  unfold lp_law_3
  walk_at "rd"
theorem one_ok : F_Net___init__ [.obj 0 [], .int 1, .tup []] = some (.non, [netD 1 []]) := by kernel_rfl
theorem best_one : F_best_ties [netD 1 []] = some (.tup [], []) :=
  best_is (n := 1) (ts := []) (by decide) (by decide) (fun q hq => nomatch hq) (Joined.conn fun k h1 h2 => absurd h1 (by omega)) (by decide)
theorem tail_ok (e : DL.Env) : f2 eqD (fC0 1 F_best_ties [] (aC (fO (oMk 0 3 F_Net___init__ [(.tup [])] (aC (fC (.int 1)) aN))) aN)) (fTup aN) e = some (.val (.bl true), e) :=
  r_2 (r_C0 (r_aC (r_O (r_Mk (r_aC rfl r_aN) rfl one_ok rfl)) r_aN) rfl best_one rfl) (q_tup (ds := []) av_N (Nat.zero_le _)) rfl rfl rfl
theorem cell_ok {ns : List Int} (i : Nat) {x2 x3 x4 x5 x6 x7 x8 x9 x10 x11 x12 x13 x14 x15 x16 : Option D} : ∃ y2 y3 y4 y5 y6 y7 y8 y9 y10 y11 y12 y13 y14 y15 y16, lp_law_4 (E ns (some (.int i)) x2 x3 x4 x5 x6 x7 x8 x9 x10 x11 x12 x13 x14 x15 x16) = some (.nx (E ns (some (.int i)) y2 y3 y4 y5 y6 y7 y8 y9 y10 y11 y12 y13 y14 y15 y16)) := by
  obtain ⟨bx, hb, B1⟩ := box_ok ns i 51 (by omega)
  obtain ⟨e', h1, b', y3, y4, y5, y6, y7, y8, y9, y10, y11, y12, y13, y14, y15, y16, rfl, _⟩ := forD_inv (g := gN 3) (f := lp_law_3) (fun env => ∃ b y3 y4 y5 y6 y7 y8 y9 y10 y11 y12 y13 y14 y15 y16, env = E ns (some (.int i)) (some b) y3 y4 y5 y6 y7 y8 y9 y10 y11 y12 y13 y14 y15 y16 ∧ Bx b) (fun _ => True) (fun d env _ ⟨b, y3, y4, y5, y6, y7, y8, y9, y10, y11, y12, y13, y14, y15, y16, e, B⟩ => by
    subst e
    obtain ⟨b', z4, z5, z6, z7, z8, z9, z10, z11, z12, z13, z14, z15, z16, h, B'⟩ := net_turn (ns := ns) (x1 := some (.int i)) (x3 := some d) (x4 := y4) (x5 := y5) (x6 := y6) (x7 := y7) (x8 := y8) (x9 := y9) (x10 := y10) (x11 := y11) (x12 := y12) (x13 := y13) (x14 := y14) (x15 := y15) (x16 := y16) B
    exact ⟨_, rfl, _, .inl h, b', some d, z4, z5, z6, z7, z8, z9, z10, z11, z12, z13, z14, z15, z16, rfl, B'⟩) (rngD 0 4) (E ns (some (.int i)) (some bx) x3 x4 x5 x6 x7 x8 x9 x10 x11 x12 x13 x14 x15 x16) (fun _ _ => trivial) ⟨bx, _, _, _, _, _, _, _, _, _, _, _, _, _, _, rfl, B1⟩
  exact ⟨some b', y3, y4, y5, y6, y7, y8, y9, y10, y11, y12, y13, y14, y15, y16, r_Q (r_setO (r_OC0 (r_aC rfl (r_aC rfl (r_aC rfl r_aN))) rfl hb rfl) rfl) (r_for (iR1_ok (j := 4) (r_aC rfl r_aN) rfl (by decide) (by decide)) h1)⟩
theorem plain (ns : List Int) (hn : ns.length ≤ 63) : F_law [.scr ns] = some (.bl true, []) := by
  obtain ⟨n, hr⟩ := rng_ok (ns := ns) (e := E ns none none none none none none none none none none none none none none none none) rfl 1 3 (by decide) (by decide) (by decide)
  obtain ⟨e', h1, y1, y2, y3, y4, y5, y6, y7, y8, y9, y10, y11, y12, y13, y14, y15, y16, rfl⟩ := forD_inv (g := gN 1) (f := lp_law_4) (fun env => ∃ y1 y2 y3 y4 y5 y6 y7 y8 y9 y10 y11 y12 y13 y14 y15 y16, env = E ns y1 y2 y3 y4 y5 y6 y7 y8 y9 y10 y11 y12 y13 y14 y15 y16) (fun d => ∃ i : Nat, d = .int (i : Nat)) (fun d env ⟨i, hi⟩ ⟨y1, y2, y3, y4, y5, y6, y7, y8, y9, y10, y11, y12, y13, y14, y15, y16, e⟩ => by
    subst e hi
    obtain ⟨z2, z3, z4, z5, z6, z7, z8, z9, z10, z11, z12, z13, z14, z15, z16, h⟩ := cell_ok (ns := ns) i (x2 := y2) (x3 := y3) (x4 := y4) (x5 := y5) (x6 := y6) (x7 := y7) (x8 := y8) (x9 := y9) (x10 := y10) (x11 := y11) (x12 := y12) (x13 := y13) (x14 := y14) (x15 := y15) (x16 := y16)
    exact ⟨_, rfl, _, .inl h, some (.int i), z2, z3, z4, z5, z6, z7, z8, z9, z10, z11, z12, z13, z14, z15, z16, rfl⟩) (rngD 0 n) (E ns none none none none none none none none none none none none none none none none) (fun d hd => let ⟨i, _, h⟩ := rngD_mem hd; ⟨i, h⟩) ⟨_, _, _, _, _, _, _, _, _, _, _, _, _, _, _, _, rfl⟩
  exact r_run (fl := .rt (.bl true) _) (r_Q (r_for hr h1) (r_R (tail_ok _))) rfl
end LW
theorem PySem.Challenge.cw_levelties_k51_what_a_tie_is_worth_holds : PySem.Challenge.rw_levelties_k51_what_a_tie_is_worth.Holds :=
  LW.fin LW.plain


