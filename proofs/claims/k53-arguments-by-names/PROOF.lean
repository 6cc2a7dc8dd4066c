import PyProof.Rows.All
import Wide.All
import OpenK.AllK
import Wide.FinOn
import HandS.ForMost
import HandS.More
import HandS.Defaults
import HandS.Walk
import HandS.Lambda
import KE.DataEq
import HandS.SortInts
import HandS.Style
import HandS.Star
import KE.GoesEnum
import KE.GoesMore
import HandS.IsInst
import KE.SortKeyed
import KE.DataCmp
import HandS.TupAny
import HandS.TupMul
import HandS.Conv
import HandS.OwnEq
import HandS.TryOnly
import HandS.DictComp
import OpenK.KOps
import KE.KRevSl
import HandS.Zip
import KE.KDictSum
import PyProof.ReprRoads
import PyProof.ReprLen
import PyProof.CallFns
import HandS.HeadEnd
import HandS.SetFor
import HandS.Strs
import HandS.Text
import HandS.ListItems
import HandS.ForExc
import HandS.ExcInit
import HandS.ExcCtx
import HandS.ExcSuper
import HandS.ExcField
import HandS.ExcIs
import KE.KExcSuper
import KE.KSuper
import KE.KExcIs
import KE.KFmtOwn
import KE.KCallOwn
import HandS.Codes
import HandS.NamedTupSort
import HandS.List
import HandS.HeadHook4
import HandS.Property
import KE.KDictPairs
import HandS.Exc
import HandS.Dict
import HandS.MakeKw
import HandS.Iter
import HandS.DictTup
import KE.KDictCopyH
import HandS.HeadWalk
import HandS.ReplaceLit
import HandS.ClsMeth
import HandS.CallLocal
import KE.KStateDown
import HandS.Head0
import HandS.Head1
import HandS.Head2
import HandS.HeadHook1
import HandS.HeadHook2
import HandS.HeadHook3
import PySem.Challenge.RW_levelties_k53_arguments_by_names
set_option Elab.async false
set_option linter.all false
set_option maxRecDepth 100000
set_option maxHeartbeats 4000000
namespace DL
open PySem L2

/-! ### data -/
inductive D where
  | non
  | bl (b : Bool)
  | int (i : Int)
  | str (s : Str)
  | lst (xs : List D)
  | tup (xs : List D)
  | dic (kvs : List (Key × D))
  | obj (k : Nat) (fs : List (Str × D))
  | scr (ns : List Int)
  /-- the list that stands in cell j -/
  | cel (j : Nat)
  /-- a dict with tuples as keys -/
  | dtu (kvs : List (List Key × D))
  /-- a tuple whose object is known to have no dict -/
  | btu (xs : List D)
/-- the classes' addresses: 0 Net, 1 Flow, 2 Live, 3 Desk -/
structure CA where
  cls : Nat → Addr
  /-- where the list of a cell stands -/
  cel : Nat → Option Addr := fun _ => none
instance : CoeFun CA (fun _ => Nat → Addr) := ⟨CA.cls⟩
def pairD (q : Int × Int) : D := .tup [.int q.1, .int q.2]
def netD (p : Int) (ts : List (Int × Int)) : D := .obj 0 [("posts", .int p), ("ties", .tup (ts.map pairD))]

mutual
inductive Rp (K : PySem.W.Frag) (C : CA) (F : Hp) : V → D → Prop
  | non : Rp K C F .non .non
  | bl (b : Bool) : Rp K C F (.bl b) (.bl b)
  | int (i : Int) : Rp K C F (.int i) (.int i)
  | str (x : Str) : Rp K C F (.str x) (.str x)
  | lst {a : Addr} {vs : List V} {ds : List D} : F a = some (.lst vs) → vs.length ≤ sizeLine → RpAll K C F vs ds → Rp K C F (.ref a) (.lst ds)
  | scr {a : Addr} {ns : List Int} : SqL K F a (ns.map V.int) → Rp K C F (.ref a) (.scr ns)
  | tup {a : Addr} {vs : List V} {ds : List D} : SqT K F a vs → vs.length ≤ sizeLine → RpAll K C F vs ds → Rp K C F (.ref a) (.tup ds)
  | dic {a : Addr} {od : Obj} {kvs : List (Key × V)} {ks : List (Key × D)} : F a = some (.frz od (.dK kvs)) → RpKV K C F kvs ks → Rp K C F (.ref a) (.dic ks)
  | obj {a dx : Addr} {k : Nat} {vs : List (Str × V)} {fs : List (Str × D)} : F a = some (.ins (C k) dx vs) → RpFs K C F vs fs → Rp K C F (.ref a) (.obj k fs)
  | cel {a : Addr} (j : Nat) : C.cel j = some a → Rp K C F (.ref a) (.cel j)
  | dtu {a : Addr} {od : Obj} {kvs : List (List Key × V)} {ks : List (List Key × D)} : F a = some (.frz od (.dT kvs)) → RpTV K C F kvs ks → Rp K C F (.ref a) (.dtu ks)
  | btu {a : Addr} {od : Obj} {vs : List V} {ds : List D} : F a = some (.frz od (.tup vs)) → od.dict = none → vs.length ≤ sizeLine → RpAll K C F vs ds → Rp K C F (.ref a) (.btu ds)
inductive RpAll (K : PySem.W.Frag) (C : CA) (F : Hp) : List V → List D → Prop
  | nil : RpAll K C F [] []
  | cons {v : V} {vs : List V} {d : D} {ds : List D} : Rp K C F v d → RpAll K C F vs ds → RpAll K C F (v :: vs) (d :: ds)
inductive RpKV (K : PySem.W.Frag) (C : CA) (F : Hp) : List (Key × V) → List (Key × D) → Prop
  | nil : RpKV K C F [] []
  | cons {k : Key} {v : V} {vs : List (Key × V)} {d : D} {ds : List (Key × D)} : Rp K C F v d → RpKV K C F vs ds → RpKV K C F ((k, v) :: vs) ((k, d) :: ds)
inductive RpFs (K : PySem.W.Frag) (C : CA) (F : Hp) : List (Str × V) → List (Str × D) → Prop
  | nil : RpFs K C F [] []
  | cons {k : Str} {v : V} {vs : List (Str × V)} {d : D} {ds : List (Str × D)} : Rp K C F v d → RpFs K C F vs ds → RpFs K C F ((k, v) :: vs) ((k, d) :: ds)
inductive RpTV (K : PySem.W.Frag) (C : CA) (F : Hp) : List (List Key × V) → List (List Key × D) → Prop
  | nil : RpTV K C F [] []
  | cons {k : List Key} {v : V} {vs : List (List Key × V)} {d : D} {ds : List (List Key × D)} : Rp K C F v d → RpTV K C F vs ds → RpTV K C F ((k, v) :: vs) ((k, d) :: ds)
end

section
variable {K : PySem.W.Frag} {C : CA} {F F' H H' : Hp}
theorem SqL.sub {a : Addr} {xs : List V} (e : Same F F') (h : SqL K F a xs) : SqL K F' a xs := e.seq h
theorem SqT.sub {a : Addr} {xs : List V} (e : Same F F') (h : SqT K F a xs) : SqT K F' a xs := by
  rcases h with (h | ⟨o, h⟩) | h
  · exact .inl (.inl (e _ _ h))
  · exact .inl (.inr ⟨o, e _ _ h⟩)
  · exact .inr h
theorem Rd.sub {a : Addr} {u : HO} (e : Same F F') (h : Rd F a u) : Rd F' a u := by
  rcases h with h | ⟨o, h⟩
  · exact .inl (e _ _ h)
  · exact .inr ⟨o, e _ _ h⟩
mutual
theorem Rp.mono (e : Same F F') {v : V} {d : D} (h : Rp K C F v d) : Rp K C F' v d := match h with
  | .non => .non
  | .bl b => .bl b
  | .int i => .int i
  | .str x => .str x
  | .lst h1 hl h2 => .lst (e _ _ h1) hl (h2.mono e)
  | .scr h1 => .scr (SqL.sub e h1)
  | .tup h1 hl h2 => .tup (SqT.sub e h1) hl (h2.mono e)
  | .dic h1 h2 => .dic (e _ _ h1) (h2.mono e)
  | .obj h1 h2 => .obj (e _ _ h1) (h2.mono e)
  | .cel j h => .cel j h
  | .dtu h1 h2 => .dtu (e _ _ h1) (h2.mono e)
  | .btu h1 h2 h3 h4 => .btu (e _ _ h1) h2 h3 (h4.mono e)
theorem RpAll.mono (e : Same F F') {vs : List V} {ds : List D} (h : RpAll K C F vs ds) : RpAll K C F' vs ds := match h with
  | .nil => .nil
  | .cons h1 h2 => .cons (h1.mono e) (h2.mono e)
theorem RpKV.mono (e : Same F F') {vs : List (Key × V)} {ds : List (Key × D)} (h : RpKV K C F vs ds) : RpKV K C F' vs ds := match h with
  | .nil => .nil
  | .cons h1 h2 => .cons (h1.mono e) (h2.mono e)
theorem RpFs.mono (e : Same F F') {vs : List (Str × V)} {ds : List (Str × D)} (h : RpFs K C F vs ds) : RpFs K C F' vs ds := match h with
  | .nil => .nil
  | .cons h1 h2 => .cons (h1.mono e) (h2.mono e)
theorem RpTV.mono (e : Same F F') {vs : List (List Key × V)} {ds : List (List Key × D)} (h : RpTV K C F vs ds) : RpTV K C F' vs ds := match h with
  | .nil => .nil
  | .cons h1 h2 => .cons (h1.mono e) (h2.mono e)
end
theorem RpAll.length {vs : List V} {ds : List D} (h : RpAll K C F vs ds) : vs.length = ds.length := by
  induction vs generalizing ds with
  | nil => cases h; rfl
  | cons v vs ih => cases h with | cons h1 h2 => simp [ih h2]
theorem RpAll.app {vs ws : List V} {ds es : List D} (h : RpAll K C F vs ds) (g : RpAll K C F ws es) : RpAll K C F (vs ++ ws) (ds ++ es) := by
  induction vs generalizing ds with
  | nil => cases h; exact g
  | cons v vs ih => cases h with | cons h1 h2 => exact .cons h1 (ih h2)
theorem RpAll.get {vs : List V} {ds : List D} (h : RpAll K C F vs ds) {i : Nat} {v : V} (e : vs[i]? = some v) : ∃ d, ds[i]? = some d ∧ Rp K C F v d := by
  induction vs generalizing ds i with
  | nil => simp at e
  | cons w vs ih =>
    cases h with
    | cons h1 h2 =>
      cases i with
      | zero => simp at e; subst e; exact ⟨_, rfl, h1⟩
      | succ i => simpa using ih h2 (by simpa using e)
theorem RpAll.get' {vs : List V} {ds : List D} (h : RpAll K C F vs ds) {i : Nat} {d : D} (e : ds[i]? = some d) : ∃ v, vs[i]? = some v ∧ Rp K C F v d := by
  induction vs generalizing ds i with
  | nil => cases h; simp at e
  | cons w vs ih =>
    cases h with
    | cons h1 h2 =>
      cases i with
      | zero => simp at e; subst e; exact ⟨_, rfl, h1⟩
      | succ i => simpa using ih h2 (by simpa using e)
theorem RpAll.take {vs : List V} {ds : List D} (h : RpAll K C F vs ds) (n : Nat) : RpAll K C F (vs.take n) (ds.take n) := by
  induction vs generalizing ds n with
  | nil => cases h; simp; exact .nil
  | cons w vs ih => cases h with | cons h1 h2 => cases n with
    | zero => exact .nil
    | succ n => exact .cons h1 (ih h2 n)
theorem RpAll.drop {vs : List V} {ds : List D} (h : RpAll K C F vs ds) (n : Nat) : RpAll K C F (vs.drop n) (ds.drop n) := by
  induction vs generalizing ds n with
  | nil => cases h; simp; exact .nil
  | cons w vs ih => cases h with | cons h1 h2 => cases n with
    | zero => exact .cons h1 h2
    | succ n => exact ih h2 n
theorem RpAll.set {vs : List V} {ds : List D} (h : RpAll K C F vs ds) {v : V} {d : D} (r : Rp K C F v d) (n : Nat) : RpAll K C F (vs.set n v) (ds.set n d) := by
  induction vs generalizing ds n with
  | nil => cases h; simp; exact .nil
  | cons w vs ih => cases h with | cons h1 h2 => cases n with
    | zero => exact .cons r h2
    | succ n => exact .cons h1 (ih h2 n)
theorem RpAll.dropLast {vs : List V} {ds : List D} (h : RpAll K C F vs ds) : RpAll K C F vs.dropLast ds.dropLast := by
  rw [List.dropLast_eq_take, List.dropLast_eq_take, h.length]
  exact h.take _
theorem RpAll.one {v : V} {d : D} (r : Rp K C F v d) : RpAll K C F [v] [d] := .cons r .nil
end

/-- what stands there once the object is data: a dict is locked -/
def Fz (u u' : HO) : Prop := match u with
  | .dK _ => ∃ od, u' = .frz od u
  | .dT _ => ∃ od, u' = .frz od u
  | _ => u' = u
theorem upd_self {H : Hp} {a : Addr} {o : HO} (h : H a = some o) : upd H a o = H := by
  funext b
  by_cases e : b = a
  · subst e; rw [upd_same, h]
  · rw [upd_ne e]
theorem Inv_fz {X : Cx} {pins : List (Addr × Obj)} {σ : St} {H : Hp} {s : Shared} {a : Addr} {u : HO} (I : Inv X pins σ H s) (h : H a = some u) : ∃ u', Fz u u' ∧ Inv X pins σ (upd H a u') s := by
  cases u with
  | dK kvs =>
    obtain ⟨od, I'⟩ := I.lock h trivial
    exact ⟨_, ⟨od, rfl⟩, I'⟩
  | dT kvs =>
    obtain ⟨od, I'⟩ := I.lock h trivial
    exact ⟨_, ⟨od, rfl⟩, I'⟩
  | _ => exact ⟨_, rfl, by rw [upd_self h]; exact I⟩

/-! ### a mutable object of one's own -/
/-- the name of the lambdas of a law -/
def lamQ : Str := "law.<locals>.<lambda>"
def Own (K : PySem.W.Frag) (C : CA) (F H : Hp) (a : Addr) : D → Prop
  | .lst ds => ∃ vs, H a = some (.lst vs) ∧ vs.length ≤ sizeLine ∧ RpAll K C F vs ds
  | .dic ks => ∃ kvs, H a = some (.dK kvs) ∧ RpKV K C F kvs ks
  | .obj k fs => ∃ dx vs, H a = some (.ins (C k) dx vs) ∧ RpFs K C F vs fs
  | .dtu ks => ∃ kvs, H a = some (.dT kvs) ∧ RpTV K C F kvs ks
  | .cel j => C.cel j = some a ∧ ∃ ps : Array Value, H a = some (.tbl ps) ∧ TriplesOk ps.toList ∧ ∀ (pos : Pos) (cv : Value), codeAmong pos ps.toList = some cv → ∃ c, cv = .ref c ∧ F c = some (LamX.CodeO c lamQ)
  | _ => False
section
variable {K : PySem.W.Frag} {C : CA} {F F' H H' : Hp} {a : Addr} {d : D}
theorem Own.some (h : Own K C F H a d) : ∃ o, H a = some o := by
  cases d <;> simp only [Own] at h
  · obtain ⟨vs, e, _⟩ := h; exact ⟨_, e⟩
  · obtain ⟨vs, e, _⟩ := h; exact ⟨_, e⟩
  · obtain ⟨dx, vs, e, _⟩ := h; exact ⟨_, e⟩
  · obtain ⟨_, ps, e, _⟩ := h; exact ⟨_, e⟩
  · obtain ⟨vs, e, _⟩ := h; exact ⟨_, e⟩
theorem Own.mono (h : Own K C F H a d) (e : Same F F') (k : H' a = H a) : Own K C F' H' a d := by
  cases d <;> simp only [Own] at h ⊢
  · obtain ⟨vs, q, l, r⟩ := h; exact ⟨vs, k.trans q, l, r.mono e⟩
  · obtain ⟨vs, q, r⟩ := h; exact ⟨vs, k.trans q, r.mono e⟩
  · obtain ⟨dx, vs, q, r⟩ := h; exact ⟨dx, vs, k.trans q, r.mono e⟩
  · obtain ⟨q0, ps, q, q2, r⟩ := h
    exact ⟨q0, ps, k.trans q, q2, fun pos cv hc => let ⟨c, e1, e2⟩ := r pos cv hc; ⟨c, e1, e _ _ e2⟩⟩
  · obtain ⟨vs, q, r⟩ := h; exact ⟨vs, k.trans q, r.mono e⟩
/-- an own object that is not written any more is data -/
theorem Own.froze (h : Own K C F H a d) (e : Same F F') {o o' : HO} (ho : H a = Option.some o) (fz : Fz o o') (k : F' a = Option.some o') : Rp K C F' (.ref a) d := by
  cases d <;> simp only [Own] at h
  · obtain ⟨vs, q, l, r⟩ := h; rw [ho] at q; cases q; cases fz; exact .lst k l (r.mono e)
  · obtain ⟨vs, q, r⟩ := h; rw [ho] at q; cases q; obtain ⟨od, rfl⟩ := fz; exact .dic k (r.mono e)
  · obtain ⟨dx, vs, q, r⟩ := h; rw [ho] at q; cases q; cases fz; exact .obj k (r.mono e)
  · exact .cel _ h.1
  · obtain ⟨vs, q, r⟩ := h; rw [ho] at q; cases q; obtain ⟨od, rfl⟩ := fz; exact .dtu k (r.mono e)
end

/-- what can be read as d just now -/
def Rb (K : PySem.W.Frag) (C : CA) (F H : Hp) (v : V) (d : D) : Prop := Rp K C F v d ∨ ∃ a, v = .ref a ∧ Own K C F H a d
section
variable {K : PySem.W.Frag} {C : CA} {F F' H H' : Hp} {v : V}
theorem Rb.lst (s : Same F H) {ds : List D} (h : Rb K C F H v (.lst ds)) : ∃ a vs, v = .ref a ∧ H a = some (.lst vs) ∧ vs.length ≤ sizeLine ∧ RpAll K C F vs ds := by
  rcases h with h | ⟨a, rfl, vs, h, l, r⟩
  · cases h with | lst h1 hl h2 => exact ⟨_, _, rfl, s _ _ h1, hl, h2⟩
  · exact ⟨a, vs, rfl, h, l, r⟩
theorem Rb.tup (s : Same F H) {ds : List D} (h : Rb K C F H v (.tup ds)) : ∃ a vs, v = .ref a ∧ SqT K H a vs ∧ vs.length ≤ sizeLine ∧ RpAll K C F vs ds := by
  rcases h with h | ⟨a, rfl, h⟩
  · cases h with | tup h1 hl h2 => exact ⟨_, _, rfl, SqT.sub s h1, hl, h2⟩
  · exact h.elim
theorem Rb.dic (s : Same F H) {ks : List (Key × D)} (h : Rb K C F H v (.dic ks)) : ∃ a kvs, v = .ref a ∧ Rd H a (.dK kvs) ∧ RpKV K C F kvs ks := by
  rcases h with h | ⟨a, rfl, vs, h, r⟩
  · cases h with | dic h1 h2 => exact ⟨_, _, rfl, .inr ⟨_, s _ _ h1⟩, h2⟩
  · exact ⟨a, vs, rfl, .inl h, r⟩
theorem Rb.int {i : Int} (h : Rb K C F H v (.int i)) : v = .int i := by
  rcases h with h | ⟨a, rfl, h⟩
  · cases h; rfl
  · exact h.elim
theorem Rb.bl {i : Bool} (h : Rb K C F H v (.bl i)) : v = .bl i := by
  rcases h with h | ⟨a, rfl, h⟩
  · cases h; rfl
  · exact h.elim
theorem Rb.str {i : Str} (h : Rb K C F H v (.str i)) : v = .str i := by
  rcases h with h | ⟨a, rfl, h⟩
  · cases h; rfl
  · exact h.elim
theorem Rb.non (h : Rb K C F H v .non) : v = .non := by
  rcases h with h | ⟨a, rfl, h⟩
  · cases h; rfl
  · exact h.elim
theorem Rb.scr (s : Same F H) {ns : List Int} (h : Rb K C F H v (.scr ns)) : ∃ a, v = .ref a ∧ SqL K H a (ns.map V.int) := by
  rcases h with h | ⟨a, rfl, h⟩
  · cases h with | scr h1 => exact ⟨_, rfl, SqL.sub s h1⟩
  · exact h.elim
theorem Rb.obj (s : Same F H) {k : Nat} {fs : List (Str × D)} (h : Rb K C F H v (.obj k fs)) : ∃ a dx vs, v = .ref a ∧ H a = some (.ins (C k) dx vs) ∧ RpFs K C F vs fs := by
  rcases h with h | ⟨a, rfl, dx, vs, h, r⟩
  · cases h with | obj h1 h2 => exact ⟨_, _, _, rfl, s _ _ h1, h2⟩
  · exact ⟨a, dx, vs, rfl, h, r⟩
theorem RpFs.look {vs : List (Str × V)} {fs : List (Str × D)} (h : RpFs K C F vs fs) {f : Str} {d : D} (e : fs.lookup f = some d) : ∃ v, vs.lookup f = some v ∧ Rp K C F v d := by
  induction vs generalizing fs with
  | nil => cases h; cases e
  | cons p vs ih =>
    cases h with
    | @cons k v _ d' ds h1 h2 =>
      rw [List.lookup_cons] at e ⊢
      cases q : (f == k) with
      | true => rw [q] at e; cases e; exact ⟨v, rfl, h1⟩
      | false => rw [q] at e; exact ih h2 e
theorem RpFs.look_none {vs : List (Str × V)} {fs : List (Str × D)} (h : RpFs K C F vs fs) {f : Str} (e : fs.lookup f = none) : vs.lookup f = none := by
  induction vs generalizing fs with
  | nil => rfl
  | cons p vs ih =>
    cases h with
    | @cons k v _ d' ds h1 h2 =>
      rw [List.lookup_cons] at e ⊢
      cases q : (f == k) with
      | true => rw [q] at e; cases e
      | false => rw [q] at e; exact ih h2 e
theorem RpFs.length {vs : List (Str × V)} {fs : List (Str × D)} (h : RpFs K C F vs fs) : vs.length = fs.length := by
  induction vs generalizing fs with
  | nil => cases h; rfl
  | cons p vs ih => cases h with | cons h1 h2 => simp [ih h2]
end

/-- a step that writes nothing that stood -/
structure Ext (F H F' H' : Hp) : Prop where
  sub : Same F F'
  inn : Same F' H'
  keep : Same H H'
  new : ∀ b o, F' b = some o → F b = some o ∨ H b = none
theorem Ext.rfl' {F H : Hp} (s : Same F H) : Ext F H F H := ⟨Same.refl _, s, Same.refl _, fun _ _ h => .inl h⟩
theorem same_upd {H : Hp} {p : Addr} {o : HO} (h : H p = none) : Same H (upd H p o) := fun b q e => by rw [upd_ne (ne_of_none e h)]; exact e
/-- a new object laid, and held as data -/
theorem Ext.laid {F H : Hp} (s : Same F H) {p : Addr} {o : HO} (h : H p = none) : Ext F H (upd F p o) (upd H p o) := by
  refine ⟨same_upd (s.free h), fun b q e => ?_, same_upd h, fun b q e => ?_⟩
  · by_cases hb : b = p
    · subst hb; rw [upd_same] at e ⊢; exact e
    · rw [upd_ne hb] at e ⊢; exact s _ _ e
  · by_cases hb : b = p
    · subst hb; exact .inr h
    · rw [upd_ne hb] at e; exact .inl e
theorem Ext.trans {F H F1 H1 F2 H2 : Hp} (a : Ext F H F1 H1) (b : Ext F1 H1 F2 H2) : Ext F H F2 H2 :=
  ⟨a.sub.trans b.sub, b.inn, a.keep.trans b.keep, fun c o h => by
    rcases b.new c o h with q | q
    · exact a.new c o q
    · exact .inr (a.keep.free q)⟩

/-! ### the slots' data -/
abbrev Env := List (Option D)
def gt : Env → Nat → Option D
  | [], _ => none
  | x :: _, 0 => x
  | _ :: xs, n + 1 => gt xs n
def st : Env → Nat → Option D → Env
  | [], _, _ => []
  | _ :: xs, 0, d => d :: xs
  | x :: xs, n + 1, d => x :: st xs n d
theorem st_length (e : Env) (i : Nat) (d : Option D) : (st e i d).length = e.length := by
  induction e generalizing i with
  | nil => rfl
  | cons x xs ih => cases i with
    | zero => rfl
    | succ i => simp [st, ih]
theorem gt_st_ne {e : Env} {i j : Nat} {d : Option D} (h : i ≠ j) : gt (st e i d) j = gt e j := by
  induction e generalizing i j with
  | nil => rfl
  | cons x xs ih => cases i with
    | zero => cases j with
      | zero => exact absurd rfl h
      | succ j => rfl
    | succ i => cases j with
      | zero => rfl
      | succ j => exact ih (fun q => h (by rw [q]))
theorem gt_st {e : Env} {i : Nat} {d : Option D} (h : i < e.length) : gt (st e i d) i = d := by
  induction e generalizing i with
  | nil => simp at h
  | cons x xs ih => cases i with
    | zero => rfl
    | succ i => exact ih (by simpa using h)
theorem gt_lt {e : Env} {i : Nat} {d : D} (h : gt e i = some d) : i < e.length := by
  induction e generalizing i with
  | nil => cases h
  | cons x xs ih => cases i with
    | zero => simp
    | succ i => simpa using ih h
theorem gt_st_none {e : Env} {i j : Nat} {d : D} (h : gt (st e i none) j = some d) : i ≠ j ∧ gt e j = some d := by
  by_cases q : i = j
  · subst q
    by_cases l : i < e.length
    · rw [gt_st l] at h; cases h
    · have := gt_lt h; rw [st_length] at this; exact absurd this l
  · rw [gt_st_ne q] at h; exact ⟨q, h⟩

/-- what is told of a def's slots: O those that hold an object of one's own (whenever they hold something), io those whose object is the caller's -/
structure Cs where
  n : Nat
  O : List Nat
  io : List Nat
  ci : List Nat := []
  cn : List Nat := []
/-- the entry -/
structure Zn where
  F0 : Hp
  H0 : Hp
  ioA : List Addr
  gh : List (Addr × D) := []

structure SRo (K : PySem.W.Frag) (C : CA) (c : Cs) (z : Zn) (F : Hp) (env : Env) (σ : St) (H : Hp) : Prop where
  sub : Same F H
  f0 : Same z.F0 F
  new : ∀ b o, F b = some o → z.F0 b = some o ∨ z.H0 b = none
  keep : ∀ b o, z.H0 b = some o → b ∉ z.ioA → H b = some o
  len : env.length = σ.length
  num : env.length = c.n
  pur : ∀ i d, gt env i = some d → i ∉ c.O → ∃ v, σ[i]? = some (some v) ∧ Rp K C F v d
  own : ∀ i d, gt env i = some d → i ∈ c.O → ∃ a, σ[i]? = some (some (.ref a)) ∧ F a = none ∧ Own K C F H a d ∧ (z.H0 a = none ∨ i ∈ c.io ∧ a ∈ z.ioA)
  dist : ∀ i j di dj a, i ∈ c.O → j ∈ c.O → i ≠ j → gt env i = some di → gt env j = some dj → σ[i]? = some (some (.ref a)) → σ[j]? ≠ some (some (.ref a))
  iol : z.ioA.length = c.io.length
  gho : ∀ a d, (a, d) ∈ z.gh → F a = none ∧ Own K C F H a d ∧ z.H0 a = none
  ghd : ∀ a d i e, (a, d) ∈ z.gh → i ∈ c.O → gt env i = some e → σ[i]? ≠ some (some (.ref a))
  ghn : (z.gh.map (·.1)).Nodup
  ios : ∀ (k i : Nat), c.io[k]? = some i → i ∈ c.O ∧ ∃ a d, z.ioA[k]? = some a ∧ σ[i]? = some (some (.ref a)) ∧ gt env i = some d

section
variable {K : PySem.W.Frag} {C : CA} {c : Cs} {z : Zn} {F F' : Hp} {env env' : Env} {σ : St} {H H' : Hp}
/-- what stood at the entry stands -/
theorem SRo.stands (S : SRo K C c z F env σ H) {b : Addr} {o : HO} (h0 : z.H0 b = some o) : ∃ o', H b = some o' := by
  by_cases hb : b ∈ z.ioA
  · obtain ⟨k, hk⟩ := List.getElem?_of_mem hb
    have lk : k < c.io.length := by
      have := (List.getElem?_eq_some_iff.mp hk).1
      rw [← S.iol]; exact this
    obtain ⟨hO, a, d, ha, hs, hd⟩ := S.ios k c.io[k] (List.getElem?_eq_getElem lk)
    rw [hk] at ha; cases ha
    obtain ⟨a', hs', _, ho, _⟩ := S.own _ d hd hO
    rw [hs] at hs'; cases hs'
    exact ho.some
  · exact ⟨o, S.keep b o h0 hb⟩
theorem SRo.free0 (S : SRo K C c z F env σ H) {b : Addr} (h : H b = none) : z.H0 b = none := by
  cases h0 : z.H0 b with
  | none => rfl
  | some o => obtain ⟨o', q⟩ := S.stands h0; rw [h] at q; cases q
theorem SRo.ext (S : SRo K C c z F env σ H) (e : Ext F H F' H') : SRo K C c z F' env σ H' where
  sub := e.inn
  f0 := S.f0.trans e.sub
  new := fun b o h => by
    rcases e.new b o h with q | q
    · exact S.new b o q
    · exact .inr (S.free0 q)
  keep := fun b o h hb => e.keep _ _ (S.keep b o h hb)
  len := S.len
  num := S.num
  pur := fun i d h hi => let ⟨v, h1, h2⟩ := S.pur i d h hi; ⟨v, h1, h2.mono e.sub⟩
  own := fun i d h hi => by
    obtain ⟨a, h1, h2, h3, h4⟩ := S.own i d h hi
    obtain ⟨o, ho⟩ := h3.some
    refine ⟨a, h1, ?_, h3.mono e.sub ((e.keep _ _ ho).trans ho.symm), h4⟩
    cases q : F' a with
    | none => rfl
    | some o' =>
      rcases e.new a o' q with r | r
      · rw [h2] at r; cases r
      · rw [r] at ho; cases ho
  dist := S.dist
  iol := S.iol
  gho := fun a d h => by
    obtain ⟨h2, h3, h4⟩ := S.gho a d h
    obtain ⟨o, ho⟩ := h3.some
    refine ⟨?_, h3.mono e.sub ((e.keep _ _ ho).trans ho.symm), h4⟩
    cases q : F' a with
    | none => rfl
    | some o' =>
      rcases e.new a o' q with r | r
      · rw [h2] at r; cases r
      · rw [r] at ho; cases ho
  ghd := S.ghd
  ghn := S.ghn
  ios := S.ios
/-- an own slot's object is written -/
theorem SRo.write (S : SRo K C c z F env σ H) {i : Nat} {d d' : D} {a : Addr} {o : HO} (hi : i ∈ c.O) (hd : gt env i = some d) (ha : σ[i]? = some (some (.ref a))) (ho : Own K C F (upd H a o) a d') :
    SRo K C c z F (st env i (some d')) σ (upd H a o) := by
  obtain ⟨a1, h1, fa, o1, z1⟩ := S.own i d hd hi
  rw [ha] at h1; cases h1
  have lt : i < env.length := gt_lt hd
  have same : ∀ b u, F b = some u → b ≠ a := fun b u h q => by subst q; rw [fa] at h; cases h
  refine ⟨fun b u h => by rw [upd_ne (same b u h)]; exact S.sub _ _ h, S.f0, S.new, fun b u h hb => ?_, by rw [st_length]; exact S.len, by rw [st_length]; exact S.num, fun j e h hj => ?_, fun j e h hj => ?_, fun j k dj dk b hj hk hjk ej ek sj sk => ?_, S.iol, fun b e h => ?_, fun b e j e2 h hj ej => ?_, S.ghn, fun k j hk => ?_⟩
  · have hne : b ≠ a := by
      rintro rfl
      rcases z1 with q | ⟨_, q⟩
      · rw [h] at q; cases q
      · exact hb q
    rw [upd_ne hne]; exact S.keep b u h hb
  · have hij : i ≠ j := fun q => hj (q ▸ hi)
    rw [gt_st_ne hij] at h
    exact S.pur j e h hj
  · by_cases hij : i = j
    · subst hij
      rw [gt_st lt] at h; cases h
      exact ⟨a, ha, fa, ho, z1⟩
    · rw [gt_st_ne hij] at h
      obtain ⟨b, h1, h2, h3, h4⟩ := S.own j e h hj
      have hne : b ≠ a := by
        rintro rfl
        exact S.dist i j d e b hi hj hij hd h ha h1
      exact ⟨b, h1, h2, h3.mono (Same.refl _) (upd_ne hne), h4⟩
  · have old : ∀ m e, gt (st env i (some d')) m = some e → ∃ e', gt env m = some e' := fun m e h => by
      by_cases him : i = m
      · subst him; exact ⟨d, hd⟩
      · rw [gt_st_ne him] at h; exact ⟨e, h⟩
    obtain ⟨e1, h1⟩ := old j dj ej
    obtain ⟨e2, h2⟩ := old k dk ek
    exact S.dist j k e1 e2 b hj hk hjk h1 h2 sj sk
  · obtain ⟨h1, h2, h3⟩ := S.gho b e h
    have hne : b ≠ a := fun q => S.ghd b e i d h hi hd (q ▸ ha)
    exact ⟨h1, h2.mono (Same.refl _) (upd_ne hne), h3⟩
  · by_cases hij : i = j
    · subst hij; exact S.ghd b e i d h hi hd
    · rw [gt_st_ne hij] at ej; exact S.ghd b e j e2 h hj ej
  · obtain ⟨h1, b, e, h2, h3, h4⟩ := S.ios k j hk
    refine ⟨h1, b, ?_⟩
    by_cases hij : i = j
    · subst hij; exact ⟨d', h2, h3, gt_st lt⟩
    · exact ⟨e, h2, h3, by rw [gt_st_ne hij]; exact h4⟩
/-- an own slot is given away as data -/
theorem SRo.freeze (S : SRo K C c z F env σ H) {i : Nat} {d : D} {a : Addr} {o o' : HO} (hi : i ∈ c.O) (hio : i ∉ c.io) (hd : gt env i = some d) (ha : σ[i]? = some (some (.ref a))) (ho : H a = some o) (fz : Fz o o') :
    SRo K C c z (upd F a o') (st env i none) σ (upd H a o') ∧ Same F (upd F a o') ∧ Rp K C (upd F a o') (.ref a) d := by
  obtain ⟨a1, h1, fa, o1, z1⟩ := S.own i d hd hi
  rw [ha] at h1; cases h1
  have sF : Same F (upd F a o') := same_upd fa
  have za : z.H0 a = none := z1.elim id fun q => absurd q.1 hio
  refine ⟨⟨fun b u h => ?_, S.f0.trans sF, fun b u h => ?_, fun b u h hb => ?_, by rw [st_length]; exact S.len, by rw [st_length]; exact S.num, fun j e h hj => ?_, fun j e h hj => ?_, fun j k dj dk b hj hk hjk ej ek sj sk => ?_, S.iol, fun b e h => ?_, fun b e j e2 h hj ej => S.ghd b e j e2 h hj (gt_st_none ej).2, S.ghn, fun k j hk => ?_⟩, sF, o1.froze sF ho fz upd_same⟩
  · by_cases hb : b = a
    · subst hb; rw [upd_same] at h ⊢; exact h
    · rw [upd_ne hb] at h ⊢; exact S.sub _ _ h
  · by_cases hb : b = a
    · subst hb; exact .inr za
    · rw [upd_ne hb] at h; exact S.new _ _ h
  · have hne : b ≠ a := by rintro rfl; rw [za] at h; cases h
    rw [upd_ne hne]; exact S.keep b u h hb
  · obtain ⟨_, h⟩ := gt_st_none h
    obtain ⟨v, h1, h2⟩ := S.pur j e h hj
    exact ⟨v, h1, h2.mono sF⟩
  · obtain ⟨hij, h⟩ := gt_st_none h
    obtain ⟨b, h1, h2, h3, h4⟩ := S.own j e h hj
    have hne : b ≠ a := by
      rintro rfl
      exact S.dist i j d e b hi hj hij hd h ha h1
    exact ⟨b, h1, by rw [upd_ne hne]; exact h2, h3.mono sF (upd_ne hne), h4⟩
  · exact S.dist j k dj dk b hj hk hjk (gt_st_none ej).2 (gt_st_none ek).2 sj sk
  · obtain ⟨h1, h2, h3⟩ := S.gho b e h
    have hne : b ≠ a := fun q => S.ghd b e i d h hi hd (q ▸ ha)
    exact ⟨by rw [upd_ne hne]; exact h1, h2.mono sF (upd_ne hne), h3⟩
  · obtain ⟨h1, b, e, h2, h3, h4⟩ := S.ios k j hk
    have hij : i ≠ j := fun q => hio (q ▸ List.mem_of_getElem? hk)
    exact ⟨h1, b, e, h2, h3, by rw [gt_st_ne hij]; exact h4⟩
/-- a plain slot is stored -/
theorem SRo.setP (S : SRo K C c z F env σ H) {i : Nat} {d : D} {v : V} (hi : i ∉ c.O) (ln : i < c.n) (r : Rp K C F v d) : SRo K C c z F (st env i (some d)) (σ.set i (some v)) H := by
  have le : i < env.length := by rw [S.num]; exact ln
  have lt : i < σ.length := by rw [← S.len]; exact le
  refine ⟨S.sub, S.f0, S.new, S.keep, by rw [st_length, List.length_set]; exact S.len, by rw [st_length]; exact S.num, fun j e h hj => ?_, fun j e h hj => ?_, fun j k dj dk b hj hk hjk ej ek sj sk => ?_, S.iol, S.gho, fun b e j e2 h hj ej => by
      have h1 : i ≠ j := fun q => hi (q ▸ hj)
      rw [gt_st_ne h1] at ej
      rw [List.getElem?_set_ne h1]
      exact S.ghd b e j e2 h hj ej, S.ghn, fun k j hk => ?_⟩
  · by_cases hij : i = j
    · subst hij
      rw [gt_st le] at h; cases h
      exact ⟨v, List.getElem?_set_self lt, r⟩
    · rw [gt_st_ne hij] at h
      rw [List.getElem?_set_ne hij]
      exact S.pur j e h hj
  · have hij : i ≠ j := fun q => hi (q ▸ hj)
    rw [gt_st_ne hij] at h
    rw [List.getElem?_set_ne hij]
    exact S.own j e h hj
  · have h1 : i ≠ j := fun q => hi (q ▸ hj)
    have h2 : i ≠ k := fun q => hi (q ▸ hk)
    rw [gt_st_ne h1] at ej
    rw [gt_st_ne h2] at ek
    rw [List.getElem?_set_ne h1] at sj
    rw [List.getElem?_set_ne h2] at sk
    exact S.dist j k dj dk b hj hk hjk ej ek sj sk
  · obtain ⟨h1, b, e, h2, h3, h4⟩ := S.ios k j hk
    have hij : i ≠ j := fun q => hi (q ▸ h1)
    exact ⟨h1, b, e, h2, by rw [List.getElem?_set_ne hij]; exact h3, by rw [gt_st_ne hij]; exact h4⟩
/-- an own slot is stored: a new object -/
theorem SRo.setO (S : SRo K C c z F env σ H) {i : Nat} {d : D} {a : Addr} (hi : i ∈ c.O) (hio : i ∉ c.io) (ln : i < c.n) (fa : F a = none) (za : z.H0 a = none) (ho : Own K C F H a d) (ap : ∀ j e, j ∈ c.O → gt env j = some e → σ[j]? ≠ some (some (.ref a))) (ng : ∀ e, (a, e) ∉ z.gh) :
    SRo K C c z F (st env i (some d)) (σ.set i (some (.ref a))) H := by
  have le : i < env.length := by rw [S.num]; exact ln
  have lt : i < σ.length := by rw [← S.len]; exact le
  refine ⟨S.sub, S.f0, S.new, S.keep, by rw [st_length, List.length_set]; exact S.len, by rw [st_length]; exact S.num, fun j e h hj => ?_, fun j e h hj => ?_, fun j k dj dk b hj hk hjk ej ek sj sk => ?_, S.iol, S.gho, fun b e j e2 h hj ej => by
      by_cases h1 : i = j
      · subst h1
        rw [List.getElem?_set_self lt]
        intro q; cases q
        exact ng e h
      · rw [gt_st_ne h1] at ej
        rw [List.getElem?_set_ne h1]
        exact S.ghd b e j e2 h hj ej, S.ghn, fun k j hk => ?_⟩
  · have hij : i ≠ j := fun q => hj (q ▸ hi)
    rw [gt_st_ne hij] at h
    rw [List.getElem?_set_ne hij]
    exact S.pur j e h hj
  · by_cases hij : i = j
    · subst hij
      rw [gt_st le] at h; cases h
      exact ⟨a, List.getElem?_set_self lt, fa, ho, .inl za⟩
    · rw [gt_st_ne hij] at h
      rw [List.getElem?_set_ne hij]
      exact S.own j e h hj
  · by_cases h1 : i = j
    · subst h1
      have h2 : i ≠ k := hjk
      rw [List.getElem?_set_self lt] at sj; cases sj
      rw [gt_st_ne h2] at ek
      rw [List.getElem?_set_ne h2] at sk
      exact ap k dk hk ek sk
    · rw [gt_st_ne h1] at ej
      rw [List.getElem?_set_ne h1] at sj
      by_cases h2 : i = k
      · subst h2
        rw [List.getElem?_set_self lt] at sk; cases sk
        exact ap j dj hj ej sj
      · rw [gt_st_ne h2] at ek
        rw [List.getElem?_set_ne h2] at sk
        exact S.dist j k dj dk b hj hk hjk ej ek sj sk
  · obtain ⟨h1, b, e, h2, h3, h4⟩ := S.ios k j hk
    have hij : i ≠ j := fun q => hio (q ▸ List.mem_of_getElem? hk)
    exact ⟨h1, b, e, h2, by rw [List.getElem?_set_ne hij]; exact h3, by rw [gt_st_ne hij]; exact h4⟩
/-- an object of nobody's is given away as data -/
theorem SRo.freezeN (S : SRo K C c z F env σ H) {d : D} {a : Addr} {o o' : HO} (fa : F a = none) (za : z.H0 a = none) (ow : Own K C F H a d) (ho : H a = some o) (fz : Fz o o') (ap : ∀ j e, j ∈ c.O → gt env j = some e → σ[j]? ≠ some (some (.ref a))) (ng : ∀ e, (a, e) ∉ z.gh) :
    SRo K C c z (upd F a o') env σ (upd H a o') ∧ Same F (upd F a o') ∧ Rp K C (upd F a o') (.ref a) d := by
  have sF : Same F (upd F a o') := same_upd fa
  refine ⟨⟨fun b u h => ?_, S.f0.trans sF, fun b u h => ?_, fun b u h hb => ?_, S.len, S.num, fun j e h hj => ?_, fun j e h hj => ?_, S.dist, S.iol, fun b e h => ?_, S.ghd, S.ghn, S.ios⟩, sF, ow.froze sF ho fz upd_same⟩
  · by_cases hb : b = a
    · subst hb; rw [upd_same] at h ⊢; exact h
    · rw [upd_ne hb] at h ⊢; exact S.sub _ _ h
  · by_cases hb : b = a
    · subst hb; exact .inr za
    · rw [upd_ne hb] at h; exact S.new _ _ h
  · have hne : b ≠ a := by rintro rfl; rw [za] at h; cases h
    rw [upd_ne hne]; exact S.keep b u h hb
  · obtain ⟨v, h1, h2⟩ := S.pur j e h hj
    exact ⟨v, h1, h2.mono sF⟩
  · obtain ⟨b, h1, h2, h3, h4⟩ := S.own j e h hj
    have hne : b ≠ a := by
      rintro rfl
      exact ap j e hj h h1
    exact ⟨b, h1, by rw [upd_ne hne]; exact h2, h3.mono sF (upd_ne hne), h4⟩
  · obtain ⟨h1, h2, h3⟩ := S.gho b e h
    have hne : b ≠ a := fun q => ng e (q ▸ h)
    exact ⟨by rw [upd_ne hne]; exact h1, h2.mono sF (upd_ne hne), h3⟩
theorem SRo.freezeL (S : SRo K C c z F env σ H) {ds : List D} {a : Addr} (fa : F a = none) (za : z.H0 a = none) (ow : Own K C F H a (.lst ds)) (ap : ∀ j e, j ∈ c.O → gt env j = some e → σ[j]? ≠ some (some (.ref a))) (ng : ∀ e, (a, e) ∉ z.gh) :
    ∃ o, SRo K C c z (upd F a o) env σ H ∧ Same F (upd F a o) ∧ Rp K C (upd F a o) (.ref a) (.lst ds) := by
  have ow' := ow
  obtain ⟨vs, q, _, _⟩ := ow'
  obtain ⟨h1, h2, h3⟩ := S.freezeN fa za ow q (o' := .lst vs) rfl ap ng
  rw [upd_self q] at h1
  exact ⟨_, h1, h2, h3⟩
/-- a new object is kept in mind while more is reckoned -/
theorem SRo.ghost (S : SRo K C c z F env σ H) {d : D} {a : Addr} (fa : F a = none) (za : z.H0 a = none) (ow : Own K C F H a d) (ap : ∀ j e, j ∈ c.O → gt env j = some e → σ[j]? ≠ some (some (.ref a))) (ng : ∀ e, (a, e) ∉ z.gh) :
    SRo K C c { z with gh := (a, d) :: z.gh } F env σ H :=
  ⟨S.sub, S.f0, S.new, S.keep, S.len, S.num, S.pur, S.own, S.dist, S.iol, fun b e h => by
    rcases List.mem_cons.mp h with q | q
    · cases q; exact ⟨fa, ow, za⟩
    · exact S.gho b e q, fun b e j e2 h hj ej => by
    rcases List.mem_cons.mp h with q | q
    · cases q; exact ap j e2 hj ej
    · exact S.ghd b e j e2 q hj ej, by
    rw [List.map_cons, List.nodup_cons]
    refine ⟨fun h => ?_, S.ghn⟩
    obtain ⟨p, hp, e⟩ := List.mem_map.mp h
    have e' : p.1 = a := e
    exact ng p.2 (by rw [← e']; exact hp), S.ios⟩
theorem SRo.unghost {d : D} {a : Addr} {gs : List (Addr × D)} (S : SRo K C c { z with gh := (a, d) :: gs } F env σ H) :
    SRo K C c { z with gh := gs } F env σ H ∧ F a = none ∧ z.H0 a = none ∧ Own K C F H a d ∧ (∀ j e, j ∈ c.O → gt env j = some e → σ[j]? ≠ some (some (.ref a))) ∧ ∀ e, (a, e) ∉ gs := by
  obtain ⟨h1, h2, h3⟩ := S.gho a d (List.mem_cons_self ..)
  have nd := S.ghn
  rw [List.map_cons, List.nodup_cons] at nd
  refine ⟨⟨S.sub, S.f0, S.new, S.keep, S.len, S.num, S.pur, S.own, S.dist, S.iol, fun b e h => S.gho b e (List.mem_cons_of_mem _ h), fun b e j e2 h hj ej => S.ghd b e j e2 (List.mem_cons_of_mem _ h) hj ej, nd.2, S.ios⟩, h1, h3, h2, fun j e hj ej => S.ghd a d j e (List.mem_cons_self ..) hj ej, fun e h => nd.1 (List.mem_map.mpr ⟨_, h, rfl⟩)⟩
end

/-! ### cells: mutable lists that data points to (ci: the caller's, cn: made here); cell j stands at C.cel j -/
def Cs.cs (c : Cs) : List Nat := c.ci ++ c.cn
def Cs.ixi (c : Cs) : List Nat := (List.range c.ci.length).map fun k => c.n + k
def Cs.ixs (c : Cs) : List Nat := (List.range c.cs.length).map fun k => c.n + k
def Cs.x (c : Cs) : Cs := ⟨c.n + c.cs.length, c.O ++ c.ixs, c.io ++ c.ixi, [], []⟩
def cells (C : CA) (c : Cs) : St := c.cs.map fun j => (C.cel j).map V.ref
/-- nothing of the def's own stands at a -/
def Apt (C : CA) (c : Cs) (env : Env) (σ : St) (a : Addr) : Prop := ∀ j e, j ∈ c.x.O → gt env j = some e → (σ ++ cells C c)[j]? ≠ some (some (.ref a))
structure SR (K : PySem.W.Frag) (C : CA) (c : Cs) (z : Zn) (F : Hp) (env : Env) (σ : St) (H : Hp) : Prop where
  b : SRo K C c.x z F env (σ ++ cells C c) H
  ln : σ.length = c.n
  hO : ∀ i ∈ c.O, i < c.n
  hio : ∀ i ∈ c.io, i ∈ c.O
section
variable {K : PySem.W.Frag} {C : CA} {c : Cs} {z : Zn} {F F' : Hp} {env env' : Env} {σ : St} {H H' : Hp}
theorem ixs_ge {c : Cs} {i : Nat} (h : i ∈ c.ixs) : c.n ≤ i := by
  obtain ⟨k, _, e⟩ := List.mem_map.mp h
  omega
theorem ixi_ge {c : Cs} {i : Nat} (h : i ∈ c.ixi) : c.n ≤ i := by
  obtain ⟨k, _, e⟩ := List.mem_map.mp h
  omega
theorem x_mem {i : Nat} (h : i ∈ c.O) : i ∈ c.x.O := List.mem_append_left _ h
theorem x_notO {i : Nat} (h : i ∉ c.O) (hn : i < c.n) : i ∉ c.x.O := fun q => (List.mem_append.mp q).elim h fun z => by have := ixs_ge z; omega
theorem x_notio {i : Nat} (h : i ∉ c.io) (hn : i < c.n) : i ∉ c.x.io := fun q => (List.mem_append.mp q).elim h fun z => by have := ixi_ge z; omega
theorem x_io {i : Nat} (h : i ∈ c.x.io) (hn : i < c.n) : i ∈ c.io := (List.mem_append.mp h).elim id fun z => by have := ixi_ge z; omega
theorem SR.at (S : SR K C c z F env σ H) {i : Nat} (h : i < c.n) : (σ ++ cells C c)[i]? = σ[i]? := List.getElem?_append_left (by rw [S.ln]; exact h)
theorem SR.sub (S : SR K C c z F env σ H) : Same F H := S.b.sub
theorem SR.f0 (S : SR K C c z F env σ H) : Same z.F0 F := S.b.f0
theorem SR.new (S : SR K C c z F env σ H) : ∀ b o, F b = some o → z.F0 b = some o ∨ z.H0 b = none := S.b.new
theorem SR.keep (S : SR K C c z F env σ H) : ∀ b o, z.H0 b = some o → b ∉ z.ioA → H b = some o := S.b.keep
theorem SR.num (S : SR K C c z F env σ H) : env.length = c.x.n := S.b.num
theorem SR.gho (S : SR K C c z F env σ H) : ∀ a d, (a, d) ∈ z.gh → F a = none ∧ Own K C F H a d ∧ z.H0 a = none := S.b.gho
theorem SR.ghn (S : SR K C c z F env σ H) : (z.gh.map (·.1)).Nodup := S.b.ghn
theorem SR.pur (S : SR K C c z F env σ H) (i : Nat) (d : D) (h : gt env i = some d) (hi : i ∉ c.O) (hn : i < c.n) : ∃ v, σ[i]? = some (some v) ∧ Rp K C F v d := by
  obtain ⟨v, h1, h2⟩ := S.b.pur i d h (x_notO hi hn)
  rw [S.at hn] at h1
  exact ⟨v, h1, h2⟩
theorem SR.own (S : SR K C c z F env σ H) (i : Nat) (d : D) (h : gt env i = some d) (hi : i ∈ c.O) : ∃ a, σ[i]? = some (some (.ref a)) ∧ F a = none ∧ Own K C F H a d ∧ (z.H0 a = none ∨ i ∈ c.io ∧ a ∈ z.ioA) := by
  obtain ⟨a, h1, h2, h3, h4⟩ := S.b.own i d h (x_mem hi)
  rw [S.at (S.hO i hi)] at h1
  exact ⟨a, h1, h2, h3, h4.elim .inl fun q => .inr ⟨x_io q.1 (S.hO i hi), q.2⟩⟩
theorem SR.dist (S : SR K C c z F env σ H) (i j : Nat) (di dj : D) (a : Addr) (hi : i ∈ c.O) (hj : j ∈ c.O) (hij : i ≠ j) (ei : gt env i = some di) (ej : gt env j = some dj) (si : σ[i]? = some (some (.ref a))) : σ[j]? ≠ some (some (.ref a)) := by
  have := S.b.dist i j di dj a (x_mem hi) (x_mem hj) hij ei ej (by rw [S.at (S.hO i hi)]; exact si)
  rwa [S.at (S.hO j hj)] at this
theorem SR.ghd (S : SR K C c z F env σ H) (a : Addr) (d : D) (i : Nat) (e : D) (h : (a, d) ∈ z.gh) (hi : i ∈ c.O) (ei : gt env i = some e) : σ[i]? ≠ some (some (.ref a)) := by
  have := S.b.ghd a d i e h (x_mem hi) ei
  rwa [S.at (S.hO i hi)] at this
theorem SR.ios (S : SR K C c z F env σ H) (k i : Nat) (h : c.io[k]? = some i) : i ∈ c.O ∧ ∃ a d, z.ioA[k]? = some a ∧ σ[i]? = some (some (.ref a)) ∧ gt env i = some d := by
  have hO := S.hio i (List.mem_of_getElem? h)
  have lt := (List.getElem?_eq_some_iff.mp h).1
  obtain ⟨_, a, d, h1, h2, h3⟩ := S.b.ios k i (by show (c.io ++ c.ixi)[k]? = _; rw [List.getElem?_append_left lt]; exact h)
  rw [S.at (S.hO i hO)] at h2
  exact ⟨hO, a, d, h1, h2, h3⟩
theorem SR.stands (S : SR K C c z F env σ H) {b : Addr} {o : HO} (h0 : z.H0 b = some o) : ∃ o', H b = some o' := S.b.stands h0
theorem SR.free0 (S : SR K C c z F env σ H) {b : Addr} (h : H b = none) : z.H0 b = none := S.b.free0 h
theorem SR.ext (S : SR K C c z F env σ H) (e : Ext F H F' H') : SR K C c z F' env σ H' := ⟨S.b.ext e, S.ln, S.hO, S.hio⟩
theorem SR.write (S : SR K C c z F env σ H) {i : Nat} {d d' : D} {a : Addr} {o : HO} (hi : i ∈ c.O) (hd : gt env i = some d) (ha : σ[i]? = some (some (.ref a))) (ho : Own K C F (upd H a o) a d') :
    SR K C c z F (st env i (some d')) σ (upd H a o) := ⟨S.b.write (x_mem hi) hd (by rw [S.at (S.hO i hi)]; exact ha) ho, S.ln, S.hO, S.hio⟩
theorem SR.freeze (S : SR K C c z F env σ H) {i : Nat} {d : D} {a : Addr} {o o' : HO} (hi : i ∈ c.O) (hio : i ∉ c.io) (hd : gt env i = some d) (ha : σ[i]? = some (some (.ref a))) (ho : H a = some o) (fz : Fz o o') :
    SR K C c z (upd F a o') (st env i none) σ (upd H a o') ∧ Same F (upd F a o') ∧ Rp K C (upd F a o') (.ref a) d := by
  obtain ⟨h1, h2, h3⟩ := S.b.freeze (x_mem hi) (x_notio hio (S.hO i hi)) hd (by rw [S.at (S.hO i hi)]; exact ha) ho fz
  exact ⟨⟨h1, S.ln, S.hO, S.hio⟩, h2, h3⟩
theorem SR.setC (S : SR K C c z F env σ H) {i : Nat} {v : Option V} (ln : i < c.n) : (σ ++ cells C c).set i v = σ.set i v ++ cells C c := List.set_append_left _ _ (by rw [S.ln]; exact ln)
theorem SR.setP (S : SR K C c z F env σ H) {i : Nat} {d : D} {v : V} (hi : i ∉ c.O) (ln : i < c.n) (r : Rp K C F v d) : SR K C c z F (st env i (some d)) (σ.set i (some v)) H := by
  have h := S.b.setP (x_notO hi ln) (Nat.lt_of_lt_of_le ln (Nat.le_add_right _ _)) r
  rw [S.setC ln] at h
  exact ⟨h, by rw [List.length_set]; exact S.ln, S.hO, S.hio⟩
theorem SR.setO (S : SR K C c z F env σ H) {i : Nat} {d : D} {a : Addr} (hi : i ∈ c.O) (hio : i ∉ c.io) (ln : i < c.n) (fa : F a = none) (za : z.H0 a = none) (ho : Own K C F H a d) (ap : Apt C c env σ a) (ng : ∀ e, (a, e) ∉ z.gh) :
    SR K C c z F (st env i (some d)) (σ.set i (some (.ref a))) H := by
  have h := S.b.setO (x_mem hi) (x_notio hio ln) (Nat.lt_of_lt_of_le ln (Nat.le_add_right _ _)) fa za ho ap ng
  rw [S.setC ln] at h
  exact ⟨h, by rw [List.length_set]; exact S.ln, S.hO, S.hio⟩
theorem SR.freezeN (S : SR K C c z F env σ H) {d : D} {a : Addr} {o o' : HO} (fa : F a = none) (za : z.H0 a = none) (ow : Own K C F H a d) (ho : H a = some o) (fz : Fz o o') (ap : Apt C c env σ a) (ng : ∀ e, (a, e) ∉ z.gh) :
    SR K C c z (upd F a o') env σ (upd H a o') ∧ Same F (upd F a o') ∧ Rp K C (upd F a o') (.ref a) d := by
  obtain ⟨h1, h2, h3⟩ := S.b.freezeN fa za ow ho fz ap ng
  exact ⟨⟨h1, S.ln, S.hO, S.hio⟩, h2, h3⟩
theorem SR.freezeL (S : SR K C c z F env σ H) {ds : List D} {a : Addr} (fa : F a = none) (za : z.H0 a = none) (ow : Own K C F H a (.lst ds)) (ap : Apt C c env σ a) (ng : ∀ e, (a, e) ∉ z.gh) :
    ∃ o, SR K C c z (upd F a o) env σ H ∧ Same F (upd F a o) ∧ Rp K C (upd F a o) (.ref a) (.lst ds) := by
  obtain ⟨o, h1, h2, h3⟩ := S.b.freezeL fa za ow ap ng
  exact ⟨o, ⟨h1, S.ln, S.hO, S.hio⟩, h2, h3⟩
theorem SR.ghost (S : SR K C c z F env σ H) {d : D} {a : Addr} (fa : F a = none) (za : z.H0 a = none) (ow : Own K C F H a d) (ap : Apt C c env σ a) (ng : ∀ e, (a, e) ∉ z.gh) :
    SR K C c { z with gh := (a, d) :: z.gh } F env σ H := ⟨S.b.ghost fa za ow ap ng, S.ln, S.hO, S.hio⟩
theorem SR.unghost {d : D} {a : Addr} {gs : List (Addr × D)} (S : SR K C c { z with gh := (a, d) :: gs } F env σ H) :
    SR K C c { z with gh := gs } F env σ H ∧ F a = none ∧ z.H0 a = none ∧ Own K C F H a d ∧ Apt C c env σ a ∧ ∀ e, (a, e) ∉ gs := by
  obtain ⟨h1, h2, h3, h4, h5, h6⟩ := S.b.unghost
  exact ⟨⟨h1, S.ln, S.hO, S.hio⟩, h2, h3, h4, h5, h6⟩
theorem SR.aptP (S : SR K C c z F env σ H) {i : Nat} {d : Option D} {v : Option V} {b : Addr} (hi : i ∉ c.O) (ln : i < c.n) (ap : Apt C c env σ b) : Apt C c (st env i d) (σ.set i v) b := fun l e hl hd => by
  have hil : i ≠ l := fun q => x_notO hi ln (q ▸ hl)
  rw [gt_st_ne hil] at hd
  rw [← S.setC ln, List.getElem?_set_ne hil]
  exact ap l e hl hd
theorem SR.aptO (S : SR K C c z F env σ H) {i : Nat} {d : Option D} {a b : Addr} (ln : i < c.n) (hba : b ≠ a) (ap : Apt C c env σ b) : Apt C c (st env i d) (σ.set i (some (.ref a))) b := fun l e hl hd => by
  rw [← S.setC ln]
  by_cases hil : i = l
  · subst hil
    have lt : i < (σ ++ cells C c).length := by rw [List.length_append, S.ln]; omega
    rw [List.getElem?_set_self lt]
    intro q; cases q; exact hba rfl
  · rw [gt_st_ne hil] at hd
    rw [List.getElem?_set_ne hil]
    exact ap l e hl hd
/-! no cells -/
theorem x_nil (h1 : c.ci = []) (h2 : c.cn = []) : c.x = c := by
  cases c
  cases h1
  cases h2
  simp [Cs.x, Cs.cs, Cs.ixs, Cs.ixi]
theorem cells_nil (h1 : c.ci = []) (h2 : c.cn = []) : cells C c = [] := by
  unfold cells Cs.cs
  rw [h1, h2]
  rfl
theorem SR.o (S : SR K C c z F env σ H) (h1 : c.ci = []) (h2 : c.cn = []) : SRo K C c z F env σ H := by
  have h := S.b
  rw [x_nil h1 h2, cells_nil h1 h2, List.append_nil] at h
  exact h
theorem SRo.up (S : SRo K C c z F env σ H) (h1 : c.ci = []) (h2 : c.cn = []) (hO : ∀ i ∈ c.O, i < c.n) : SR K C c z F env σ H :=
  ⟨by rw [x_nil h1 h2, cells_nil h1 h2, List.append_nil]; exact S, by rw [← S.len, S.num], hO, fun i hi => by
    obtain ⟨k, hk⟩ := List.getElem?_of_mem hi
    exact (S.ios k i hk).1⟩
end
end DL

namespace DL
open PySem L2

theorem PE.imp {X : Cx} {e : Expr} {t t' : TE} (h : PE X e t) (i : ∀ σ H Q, t' σ H Q → t σ H Q) : PE X e t' := ⟨fun pins s σ H Q I q => h.run pins s σ H Q I (i σ H Q q)⟩
theorem PE.fz {X : Cx} {e : Expr} {t : TE} (h : PE X e t) : PE X e (fun σ H Q => t σ H fun v H1 => ∃ a u, H1 a = some u ∧ ∀ u', Fz u u' → Q v (upd H1 a u')) :=
  ⟨fun pins s σ H Q I q => thn (h.run pins s σ H _ I q) fun v s1 ⟨x, H1, I1, r, a, u, hu, q1⟩ => by
    obtain ⟨u', fz, I2⟩ := Inv_fz I1 hu
    exact ⟨x, _, I2, r, q1 u' fz⟩⟩
theorem PE.or {X : Cx} {e : Expr} {t t' : TE} (h : PE X e t) (h' : PE X e t') : PE X e (fun σ H Q => t σ H Q ∨ t' σ H Q) := ⟨fun pins s σ H Q I q => q.elim (h.run pins s σ H Q I) (h'.run pins s σ H Q I)⟩
theorem PT.imp {X : Cx} {e : Expr} {t t' : TT} (h : PT X e t) (i : ∀ σ H Q, t' σ H Q → t σ H Q) : PT X e t' := ⟨fun pins s σ H Q I q => h.run pins s σ H Q I (i σ H Q q)⟩
theorem PW.imp {X : Cx} {e : Expr} {t t' : TT} (h : PW X e t) (i : ∀ σ H Q, t' σ H Q → t σ H Q) : PW X e t' := ⟨fun w pins s σ H Q I q => h.run w pins s σ H Q I (i σ H Q q)⟩
theorem PA.imp {X : Cx} {e : List Expr} {t t' : TA} (h : PA X e t) (i : ∀ σ H Q, t' σ H Q → t σ H Q) : PA X e t' := ⟨fun pos pins s σ H Q I q => h.run pos pins s σ H Q I (i σ H Q q)⟩
theorem PS.imp {X : Cx} {e : Stmt} {t t' : TS} (h : PS X e t) (i : ∀ Dn σ H, t' Dn σ H → t Dn σ H) : PS X e t' := ⟨fun pins s σ H Q I q => h.run pins s σ H Q I (i Q σ H q)⟩
theorem PS.or {X : Cx} {e : Stmt} {t t' : TS} (h : PS X e t) (h' : PS X e t') : PS X e (fun Dn σ H => t Dn σ H ∨ t' Dn σ H) := ⟨fun pins s σ H Dn I q => q.elim (h.run pins s σ H Dn I) (h'.run pins s σ H Dn I)⟩
theorem PSs.imp {X : Cx} {e : List Stmt} {t t' : TS} (h : PSs X e t) (i : ∀ Dn σ H, t' Dn σ H → t Dn σ H) : PSs X e t' := ⟨fun pins s σ H Q I q => h.run pins s σ H Q I (i Q σ H q)⟩
theorem PG.imp {X : Cx} {e : Expr} {t t' : TG} (h : PG X e t) (i : ∀ v σ H Q, t' v σ H Q → t v σ H Q) : PG X e t' := ⟨fun pins s σ H v u Q I r q => h.run pins s σ H v u Q I r (i v σ H Q q)⟩

/-! ### what an expression gives: data, or a slot's own object -/
inductive B where
  | val (d : D)
  | slot (i : Nat)
def rdB (env : Env) : B → Option D
  | .val d => some d
  | .slot i => gt env i
def RB (K : PySem.W.Frag) (C : CA) (c : Cs) (F : Hp) (σ : St) (v : V) : B → Prop
  | .val d => Rp K C F v d
  | .slot i => i ∈ c.x.O ∧ (σ ++ cells C c)[i]? = some (some v)
abbrev EF := Env → Option (B × Env)
abbrev TF := Env → Option (Bool × Env)
abbrev AF := Env → Option (List B × Env)
/-- a new object's content -/
abbrev OF := Env → Option (D × Env)
inductive RBs (K : PySem.W.Frag) (C : CA) (c : Cs) (F : Hp) (σ : St) : List V → List B → Prop
  | nil : RBs K C c F σ [] []
  | cons {v : V} {vs : List V} {b : B} {bs : List B} : RB K C c F σ v b → RBs K C c F σ vs bs → RBs K C c F σ (v :: vs) (b :: bs)
section
variable {K : PySem.W.Frag} {C : CA} {c : Cs} {z : Zn} {F F' : Hp} {env env' : Env} {σ : St} {H H' : Hp}
theorem RB.mono {v : V} {b : B} (h : RB K C c F σ v b) (s : Same F F') : RB K C c F' σ v b := by
  cases b with
  | val d => exact Rp.mono s h
  | slot i => exact h
theorem RBs.mono {vs : List V} {bs : List B} (h : RBs K C c F σ vs bs) (s : Same F F') : RBs K C c F' σ vs bs := by
  induction h with
  | nil => exact .nil
  | cons h _ ih => exact .cons (h.mono s) ih
theorem RB.rb (S : SR K C c z F env σ H) {v : V} {b : B} {d : D} (h : RB K C c F σ v b) (e : rdB env b = some d) : Rb K C F H v d := by
  cases b with
  | val d' => cases e; exact .inl h
  | slot i =>
    obtain ⟨hO, hv⟩ := h
    obtain ⟨a, h1, _, h3, _⟩ := S.b.own i d e hO
    rw [hv] at h1; cases h1
    exact .inr ⟨a, rfl, h3⟩
end

def tE (K : PySem.W.Frag) (C : CA) (c : Cs) (f : EF) : TE := fun σ H Q => ∃ z F env b env', SR K C c z F env σ H ∧ f env = some (b, env') ∧
  ∀ v F' H', Same F F' → SR K C c z F' env' σ H' → RB K C c F' σ v b → Q v H'
def tT (K : PySem.W.Frag) (C : CA) (c : Cs) (f : TF) : TT := fun σ H Q => ∃ z F env b env', SR K C c z F env σ H ∧ f env = some (b, env') ∧
  ∀ F' H', Same F F' → SR K C c z F' env' σ H' → Q b H'
def tAr (K : PySem.W.Frag) (C : CA) (c : Cs) (f : AF) : TA := fun σ H Q => ∃ z F env b env', SR K C c z F env σ H ∧ f env = some (b, env') ∧
  ∀ vs F' H', Same F F' → SR K C c z F' env' σ H' → RBs K C c F' σ vs b → Q vs H'
/-- a new object, nobody's yet -/
def tO (K : PySem.W.Frag) (C : CA) (c : Cs) (f : OF) : TE := fun σ H Q => ∃ z F env d env', SR K C c z F env σ H ∧ f env = some (d, env') ∧
  ∀ a F' H', Same F F' → SR K C c z F' env' σ H' → F' a = none → z.H0 a = none → Own K C F' H' a d → (Apt C c env' σ a) → (∀ e, (a, e) ∉ z.gh) → Q (.ref a) H'
def DE (X : Cx) (C : CA) (c : Cs) (e : Expr) (f : EF) : Prop := PE X e (tE X.K C c f)
def DT (X : Cx) (C : CA) (c : Cs) (e : Expr) (f : TF) : Prop := PT X e (tT X.K C c f)
def DW (X : Cx) (C : CA) (c : Cs) (e : Expr) (f : TF) : Prop := PW X e (tT X.K C c f)
def DA (X : Cx) (C : CA) (c : Cs) (e : List Expr) (f : AF) : Prop := PA X e (tAr X.K C c f)
def DO (X : Cx) (C : CA) (c : Cs) (e : Expr) (f : OF) : Prop := PE X e (tO X.K C c f)

/-! ### names, constants -/
section
variable {X : Cx} {C : CA} {c : Cs} {a b : Expr} {f g : EF} {pos : Pos}
def fV (i : Nat) : EF := fun env => (gt env i).bind fun d => some (.val d, env)
def fS (i : Nat) : EF := fun env => (gt env i).bind fun _ => some (.slot i, env)
def fM (i : Nat) : EF := fun env => (gt env i).bind fun d => some (.val d, st env i none)
def fC (d : D) : EF := fun env => some (.val d, env)
theorem de_var (i : Nat) {x : Str} (hO : i ∉ c.O := by decide) (hn : i < c.n := by decide) (hN : X.N[i]? = some x := by rfl) (hv : Vis X.env.scope x := by first | exact Or.inl rfl | exact Or.inr (Or.inl rfl) | exact Or.inr (Or.inr rfl)) (hd : (x == ("__debug__" : Str)) = false := by decide)
    (hcd : (x == ("__classdict__" : Str)) = false := by decide) : DE X C c (.Name x pos) (fV i) :=
  PE.imp (pe_var hN hv hd hcd) fun σ H Q ⟨z, F, env, b, env', S, e, k⟩ => by
    obtain ⟨d, h1, e2⟩ := Option.bind_eq_some_iff.mp e
    cases e2
    obtain ⟨v, hv, r⟩ := S.pur i d h1 hO hn
    exact ⟨v, hv, k v F H (Same.refl _) S r⟩
theorem de_slot (i : Nat) {x : Str} (hO : i ∈ c.O := by decide) (hN : X.N[i]? = some x := by rfl) (hv : Vis X.env.scope x := by first | exact Or.inl rfl | exact Or.inr (Or.inl rfl) | exact Or.inr (Or.inr rfl)) (hd : (x == ("__debug__" : Str)) = false := by decide)
    (hcd : (x == ("__classdict__" : Str)) = false := by decide) : DE X C c (.Name x pos) (fS i) :=
  PE.imp (pe_var hN hv hd hcd) fun σ H Q ⟨z, F, env, b, env', S, e, k⟩ => by
    obtain ⟨d, h1, e2⟩ := Option.bind_eq_some_iff.mp e
    cases e2
    obtain ⟨a, hv, _⟩ := S.own i d h1 hO
    exact ⟨_, hv, k _ F H (Same.refl _) S ⟨x_mem hO, by rw [S.at (S.hO i hO)]; exact hv⟩⟩
/-- the slot's object is given away as data -/
theorem de_move (i : Nat) {x : Str} (hO : i ∈ c.O := by decide) (hio : i ∉ c.io := by decide) (hN : X.N[i]? = some x := by rfl) (hv : Vis X.env.scope x := by first | exact Or.inl rfl | exact Or.inr (Or.inl rfl) | exact Or.inr (Or.inr rfl)) (hd : (x == ("__debug__" : Str)) = false := by decide)
    (hcd : (x == ("__classdict__" : Str)) = false := by decide) : DE X C c (.Name x pos) (fM i) :=
  PE.imp (PE.fz (pe_var hN hv hd hcd)) fun σ H Q ⟨z, F, env, b, env', S, e, k⟩ => by
    obtain ⟨d, h1, e2⟩ := Option.bind_eq_some_iff.mp e
    cases e2
    obtain ⟨a, hv, _, ho, _⟩ := S.own i d h1 hO
    obtain ⟨o, hao⟩ := ho.some
    refine ⟨_, hv, a, o, hao, fun o' fz => ?_⟩
    obtain ⟨S', s', r⟩ := S.freeze hO hio h1 hv hao fz
    exact k _ _ _ s' S' r
theorem de_c {v : V} {d : D} {e : Expr} (h : PE X e (tC v)) (r : ∀ F, Rp X.K C F v d) : DE X C c e (fC d) :=
  PE.imp h fun σ H Q ⟨z, F, env, b, env', S, e, k⟩ => by
    cases e
    exact k v F H (Same.refl _) S (r F)
theorem de_int {i : Int} {j : Nat} : DE X C c (.Constant (.int i) j pos) (fC (.int i)) := de_c pe_int fun _ => .int i
theorem de_bl {i : Bool} {j : Nat} : DE X C c (.Constant (.bool i) j pos) (fC (.bl i)) := de_c pe_bl fun _ => .bl i
theorem de_str {i : Str} {j : Nat} : DE X C c (.Constant (.str i) j pos) (fC (.str i)) := de_c pe_str fun _ => .str i
theorem de_non {j : Nat} : DE X C c (.Constant .none j pos) (fC .non) := de_c pe_non fun _ => .non
/-- a module's int or text -/
theorem de_glob {x : Str} {v : V} {d : D} {u : Value} (hm : X.mg x = some u) (r : RelV v u) (rd : ∀ F, Rp X.K C F v d) (hg : Gl X x := by rfl) (hd : (x == ("__debug__" : Str)) = false := by decide) : DE X C c (.Name x pos) (fC d) := de_c (pe_glob hg hm r hd) rd

/-! ### operators -/
def OpD (X : Cx) (C : CA) (g : Value → Value → Sem Value) (op : D → D → Option D) : Prop := ∃ r : R2, OpR X g r ∧
  ∀ F H x y dx dy d Q, Same F H → Rb X.K C F H x dx → Rb X.K C F H y dy → op dx dy = some d → (∀ v F' H', Ext F H F' H' → Rp X.K C F' v d → Q v H') → r x y H Q
def f2 (op : D → D → Option D) (f g : EF) : EF := fun env => (f env).bind fun p => (g p.2).bind fun q => (rdB q.2 p.1).bind fun x => (rdB q.2 q.1).bind fun y => (op x y).bind fun d => some (.val d, q.2)
theorem de_op {op : Operator} {o : D → D → Option D} (ho : OpD X C (binaryOp op) o) (ha : DE X C c a f) (hb : DE X C c b g) : DE X C c (.BinOp a op b pos) (f2 o f g) := by
  obtain ⟨r, hr, hw⟩ := ho
  refine PE.imp (pe_op hr ha hb) fun σ H Q ⟨z, F, env, b, env', S, e, k⟩ => ?_
  simp only [f2, Option.bind_eq_some_iff] at e
  obtain ⟨⟨b1, e1⟩, h1, ⟨b2, e2⟩, h2, x, hx, y, hy, d, hd, e⟩ := e
  cases e
  exact ⟨z, F, env, b1, e1, S, h1, fun v F1 H1 s1 S1 r1 => ⟨z, F1, e1, b2, e2, S1, h2, fun w F2 H2 s2 S2 r2 => 
    hw F2 H2 v w x y d Q S2.sub ((r1.mono s2).rb S2 hx) (r2.rb S2 hy) hd fun u F3 H3 ex ru => k u F3 H3 (s1.trans (s2.trans ex.sub)) (S2.ext ex) ru⟩⟩
theorem de_cmp {op : CmpOp} {o : D → D → Option D} (ho : OpD X C (compareOp op) o) (ha : DE X C c a f) (hb : DE X C c b g) (hm : behindInMarks op b = false := by first | exact nomark _ | rfl) : DE X C c (.Compare a [op] [b] pos) (f2 o f g) := by
  obtain ⟨r, hr, hw⟩ := ho
  refine PE.imp (pe_cmpR hr ha hb hm) fun σ H Q ⟨z, F, env, b, env', S, e, k⟩ => ?_
  simp only [f2, Option.bind_eq_some_iff] at e
  obtain ⟨⟨b1, e1⟩, h1, ⟨b2, e2⟩, h2, x, hx, y, hy, d, hd, e⟩ := e
  cases e
  exact ⟨z, F, env, b1, e1, S, h1, fun v F1 H1 s1 S1 r1 => ⟨z, F1, e1, b2, e2, S1, h2, fun w F2 H2 s2 S2 r2 => 
    hw F2 H2 v w x y d Q S2.sub ((r1.mono s2).rb S2 hx) (r2.rb S2 hy) hd fun u F3 H3 ex ru => k u F3 H3 (s1.trans (s2.trans ex.sub)) (S2.ext ex) ru⟩⟩
/-- .. as a test -/
def isB : D → Option Bool
  | .bl k => some k
  | _ => none
def fTst (f : EF) : TF := fun env => (f env).bind fun p => match p.1 with
  | .val d => (isB d).bind fun k => some (k, p.2)
  | .slot _ => none
theorem fTst_some {f : EF} {env env' : Env} {k : Bool} (h : fTst f env = some (k, env')) : f env = some (.val (.bl k), env') := by
  simp only [fTst, Option.bind_eq_some_iff] at h
  obtain ⟨⟨b, e1⟩, h1, h⟩ := h
  cases b with
  | slot i => cases h
  | val d =>
    obtain ⟨k', h2, h3⟩ := Option.bind_eq_some_iff.mp h
    cases d <;> cases h2
    cases h3
    exact h1
theorem dt_cmp {op : CmpOp} {o : D → D → Option D} (ho : OpD X C (compareOp op) o) (ha : DE X C c a f) (hb : DE X C c b g) (hm : behindInMarks op b = false := by first | exact nomark _ | rfl) : DT X C c (.Compare a [op] [b] pos) (fTst (f2 o f g)) := by
  obtain ⟨r, hr, hw⟩ := ho
  refine PT.imp (pt_cmpR hr ha hb hm) fun σ H Q ⟨z, F, env, b, env', S, e, k⟩ => ?_
  have e := fTst_some e
  simp only [f2, Option.bind_eq_some_iff] at e
  obtain ⟨⟨b1, e1⟩, h1, ⟨b2, e2⟩, h2, x, hx, y, hy, d, hd, e⟩ := e
  cases e
  exact ⟨z, F, env, b1, e1, S, h1, fun v F1 H1 s1 S1 r1 => ⟨z, F1, e1, b2, e2, S1, h2, fun w F2 H2 s2 S2 r2 => 
    hw F2 H2 v w x y _ _ S2.sub ((r1.mono s2).rb S2 hx) (r2.rb S2 hy) hd fun u F3 H3 ex ru => by
      cases ru
      exact ⟨_, rfl, k F3 H3 (s1.trans (s2.trans ex.sub)) (S2.ext ex)⟩⟩⟩
theorem dt_val {e : Expr} (h : DE X C c e f) (he : ∀ whole, isTrue e X.env whole = (do let v ← whole; standAt e.pos; holding [v] (truthy v)) := by intro _; rfl) : DT X C c e (fTst f) := by
  refine PT.imp (pt_val h he) fun σ H Q ⟨z, F, env, b, env', S, e, k⟩ => ?_
  have e := fTst_some e
  exact ⟨z, F, env, _, _, S, e, fun v F1 H1 s1 S1 r1 => by
    cases r1
    exact ⟨_, rfl, k F1 H1 s1 S1⟩⟩

/-! ### and, or, not -/
variable {rest : List Expr} {p q : TF}
def fAnd (p q : TF) : TF := fun env => (p env).bind fun r => if r.1 = true then q r.2 else some (false, r.2)
def fOr (p q : TF) : TF := fun env => (p env).bind fun r => if r.1 = true then some (true, r.2) else q r.2
def fNot (p : TF) : TF := fun env => (p env).bind fun r => some (!r.1, r.2)
theorem dw_and1 (h : DT X C c a p) : DW X C c (.BoolOp .And [a] pos) p := pw_and1 h
theorem dw_or1 (h : DT X C c a p) : DW X C c (.BoolOp .Or [a] pos) p := pw_or1 h
theorem DW.dt {e : Expr} (h : DW X C c e p) : DT X C c e p := PW.pt h
theorem dw_and (ha : DT X C c a p) (hb : DW X C c (.BoolOp .And (b :: rest) pos) q) : DW X C c (.BoolOp .And (a :: b :: rest) pos) (fAnd p q) := by
  refine PW.imp (pw_and ha hb) fun σ H Q ⟨z, F, env, b, env', S, e, k⟩ => ?_
  obtain ⟨⟨k1, e1⟩, h1, e⟩ := Option.bind_eq_some_iff.mp e
  refine ⟨z, F, env, k1, e1, S, h1, fun F1 H1 s1 S1 => ?_⟩
  cases k1 with
  | true => exact iteT ⟨z, F1, e1, b, env', S1, e, fun F2 H2 s2 S2 => k F2 H2 (s1.trans s2) S2⟩
  | false => cases e; exact iteF (k F1 H1 s1 S1)
theorem dw_or (ha : DT X C c a p) (hb : DW X C c (.BoolOp .Or (b :: rest) pos) q) : DW X C c (.BoolOp .Or (a :: b :: rest) pos) (fOr p q) := by
  refine PW.imp (pw_or ha hb) fun σ H Q ⟨z, F, env, b, env', S, e, k⟩ => ?_
  obtain ⟨⟨k1, e1⟩, h1, e⟩ := Option.bind_eq_some_iff.mp e
  refine ⟨z, F, env, k1, e1, S, h1, fun F1 H1 s1 S1 => ?_⟩
  cases k1 with
  | false => exact iteF ⟨z, F1, e1, b, env', S1, e, fun F2 H2 s2 S2 => k F2 H2 (s1.trans s2) S2⟩
  | true => cases e; exact iteT (k F1 H1 s1 S1)
theorem dt_not (ha : DT X C c a p) : DT X C c (.UnaryOp .Not a pos) (fNot p) := by
  refine PT.imp (pt_not ha) fun σ H Q ⟨z, F, env, b, env', S, e, k⟩ => ?_
  obtain ⟨⟨k1, e1⟩, h1, e⟩ := Option.bind_eq_some_iff.mp e
  cases e
  exact ⟨z, F, env, k1, e1, S, h1, fun F1 H1 s1 S1 => k F1 H1 s1 S1⟩
/-- as values: all but the last are bools -/
def fAndV (f g : EF) : EF := fun env => (fTst f env).bind fun r => if r.1 = true then g r.2 else some (.val (.bl false), r.2)
def fOrV (f g : EF) : EF := fun env => (fTst f env).bind fun r => if r.1 = true then some (.val (.bl true), r.2) else g r.2
def fNotV (f : EF) : EF := fun env => (fTst f env).bind fun r => some (.val (.bl (!r.1)), r.2)
theorem de_one {op : BoolOp} (h : DE X C c a f) : DE X C c (.BoolOp op [a] pos) f := pe_one h
theorem de_and (ha : DE X C c a f) (hb : DE X C c (.BoolOp .And (b :: rest) pos) g) : DE X C c (.BoolOp .And (a :: b :: rest) pos) (fAndV f g) := by
  refine PE.imp (pe_and ha hb) fun σ H Q ⟨z, F, env, b, env', S, e, k⟩ => ?_
  obtain ⟨⟨k1, e1⟩, h1, e⟩ := Option.bind_eq_some_iff.mp e
  have h1 := fTst_some h1
  refine ⟨z, F, env, _, e1, S, h1, fun v F1 H1 s1 S1 r1 => ?_⟩
  cases r1
  refine ⟨_, rfl, ?_⟩
  cases k1 with
  | true => exact iteT ⟨z, F1, e1, b, env', S1, e, fun v F2 H2 s2 S2 r2 => k v F2 H2 (s1.trans s2) S2 r2⟩
  | false => cases e; exact iteF (k _ F1 H1 s1 S1 (.bl false))
theorem de_not (ha : DE X C c a f) : DE X C c (.UnaryOp .Not a pos) (fNotV f) := by
  refine PE.imp (pe_not ha) fun σ H Q ⟨z, F, env, b, env', S, e, k⟩ => ?_
  obtain ⟨⟨k1, e1⟩, h1, e⟩ := Option.bind_eq_some_iff.mp e
  cases e
  have h1 := fTst_some h1
  refine ⟨z, F, env, _, e1, S, h1, fun v F1 H1 s1 S1 r1 => ?_⟩
  cases r1
  exact ⟨_, rfl, k _ F1 H1 s1 S1 (.bl _)⟩
def fIf (p : TF) (f g : EF) : EF := fun env => (p env).bind fun r => if r.1 = true then f r.2 else g r.2
theorem de_if {t : Expr} (hc : DT X C c t p) (ha : DE X C c a f) (hb : DE X C c b g) : DE X C c (.IfExp t a b pos) (fIf p f g) := by
  refine PE.imp (pe_ifExp hc ha hb) fun σ H Q ⟨z, F, env, b, env', S, e, k⟩ => ?_
  obtain ⟨⟨k1, e1⟩, h1, e⟩ := Option.bind_eq_some_iff.mp e
  refine ⟨z, F, env, k1, e1, S, h1, fun F1 H1 s1 S1 => ?_⟩
  cases k1 with
  | true => exact iteT ⟨z, F1, e1, b, env', S1, e, fun v F2 H2 s2 S2 r2 => k v F2 H2 (s1.trans s2) S2 r2⟩
  | false => exact iteF ⟨z, F1, e1, b, env', S1, e, fun v F2 H2 s2 S2 r2 => k v F2 H2 (s1.trans s2) S2 r2⟩

/-! ### arguments and displays -/
variable {e : Expr} {es : List Expr} {fa : AF}
def aN : AF := fun env => some ([], env)
def aC (f : EF) (fa : AF) : AF := fun env => (f env).bind fun p => (fa p.2).bind fun q => some (p.1 :: q.1, q.2)
theorem da_nil : DA X C c [] aN := PA.imp pa_nil fun σ H Q ⟨z, F, env, b, env', S, e, k⟩ => by
  cases e
  exact k [] F H (Same.refl _) S .nil
theorem da_cons (h : DE X C c e f) (hr : DA X C c es fa) (hs : starEach (e :: es) X.env = (false, eval e X.env) :: starEach es X.env := by rfl) : DA X C c (e :: es) (aC f fa) := by
  refine PA.imp (pa_cons h hr hs) fun σ H Q ⟨z, F, env, b, env', S, e, k⟩ => ?_
  obtain ⟨⟨b1, e1⟩, h1, e⟩ := Option.bind_eq_some_iff.mp e
  obtain ⟨⟨b2, e2⟩, h2, e⟩ := Option.bind_eq_some_iff.mp e
  cases e
  exact ⟨z, F, env, b1, e1, S, h1, fun v F1 H1 s1 S1 r1 => ⟨z, F1, e1, b2, e2, S1, h2, fun vs F2 H2 s2 S2 r2 => k _ F2 H2 (s1.trans s2) S2 (.cons (r1.mono s2) r2)⟩⟩
def vals : List B → Option (List D)
  | [] => some []
  | .val d :: bs => (vals bs).bind fun ds => some (d :: ds)
  | .slot _ :: _ => none
theorem vals_rp {K : PySem.W.Frag} {F : Hp} {σ : St} : ∀ {vs : List V} {bs : List B} {ds : List D}, RBs K C c F σ vs bs → vals bs = some ds → RpAll K C F vs ds
  | _, _, _, .nil, e => by cases e; exact .nil
  | _, .val d :: bs, _, .cons h t, e => by
    obtain ⟨ds, h1, e⟩ := Option.bind_eq_some_iff.mp e
    cases e
    exact .cons h (vals_rp t h1)
  | _, .slot _ :: _, _, .cons h t, e => by cases e
/-- a length that can be -/
def gd {α : Type} (n : Nat) (x : Option α) : Option α := if n ≤ 16777216 then x else none
theorem gd_some {α : Type} {n : Nat} {x : Option α} {y : α} (h : gd n x = some y) : n ≤ sizeLine ∧ x = some y := by
  unfold gd at h
  rw [sizeLine_eq]
  split at h
  · next q => exact ⟨q, h⟩
  · cases h
def fTup (fa : AF) : EF := fun env => (fa env).bind fun p => (vals p.1).bind fun ds => gd ds.length (some (.val (.tup ds), p.2))
theorem de_tup {kk : Nat} (h : DA X C c es fa) : DE X C c (.Tuple es kk pos) (fTup fa) := by
  refine PE.imp (pe_tup h) fun σ H Q ⟨z, F, env, b, env', S, e, k⟩ => ?_
  obtain ⟨⟨b1, e1⟩, h1, e⟩ := Option.bind_eq_some_iff.mp e
  obtain ⟨ds, h2, e⟩ := Option.bind_eq_some_iff.mp e
  obtain ⟨hl, e⟩ := gd_some e
  cases e
  refine ⟨z, F, env, b1, e1, S, h1, fun vs F1 H1 s1 S1 r1 => ?_⟩
  have rp := vals_rp r1 h2
  refine ⟨by rw [rp.length]; exact hl, fun p hp => ?_⟩
  have ex : Ext F1 H1 (upd F1 p (.tup vs)) (upd H1 p (.tup vs)) := Ext.laid S1.sub hp
  exact k _ _ _ (s1.trans ex.sub) (S1.ext ex) (.tup (SqT.of upd_same) (by rw [rp.length]; exact hl) (rp.mono ex.sub))
def oLst (fa : AF) : OF := fun env => (fa env).bind fun p => (vals p.1).bind fun ds => gd ds.length (some (.lst ds, p.2))
/-- a new object laid that is nobody's yet -/
theorem SR.newO {K : PySem.W.Frag} {c : Cs} {z : Zn} {F : Hp} {env : Env} {σ : St} {H : Hp} (S : SR K C c z F env σ H) {p : Addr} {o : HO} (hp : H p = none) :
    SR K C c z F env σ (upd H p o) ∧ F p = none ∧ z.H0 p = none ∧ (Apt C c env σ p) ∧ ∀ e, (p, e) ∉ z.gh := by
  have fp : F p = none := S.sub.free hp
  refine ⟨S.ext ⟨Same.refl _, S.sub.trans (same_upd hp), same_upd hp, fun b o h => .inl h⟩, fp, S.free0 hp, fun j e hj hd hs => ?_, fun e h => ?_⟩
  · obtain ⟨a, h1, _, h3, _⟩ := S.b.own j e hd hj
    rw [hs] at h1; cases h1
    obtain ⟨o', q⟩ := h3.some
    rw [hp] at q; cases q
  · obtain ⟨_, h3, _⟩ := S.gho p e h
    obtain ⟨o', q⟩ := h3.some
    rw [hp] at q; cases q
theorem do_lst (h : DA X C c es fa) : DO X C c (.List es pos) (oLst fa) := by
  refine PE.imp (pe_lst h) fun σ H Q ⟨z, F, env, b, env', S, e, k⟩ => ?_
  obtain ⟨⟨b1, e1⟩, h1, e⟩ := Option.bind_eq_some_iff.mp e
  obtain ⟨ds, h2, e⟩ := Option.bind_eq_some_iff.mp e
  obtain ⟨hl, e⟩ := gd_some e
  cases e
  refine ⟨z, F, env, b1, e1, S, h1, fun vs F1 H1 s1 S1 r1 => ?_⟩
  have rp := vals_rp r1 h2
  refine ⟨by rw [rp.length]; exact hl, fun p hp => ?_⟩
  obtain ⟨S2, fp, zp, ap, ng⟩ := S1.newO (o := .lst vs) hp
  exact k p F1 _ s1 S2 fp zp ⟨vs, upd_same, by rw [rp.length]; exact hl, rp⟩ ap ng
/-- a new object as data -/
def fO (f : OF) : EF := fun env => (f env).bind fun p => some (.val p.1, p.2)
theorem DO.de {o : OF} (h : DO X C c e o) : DE X C c e (fO o) := by
  refine PE.imp (PE.fz h) fun σ H Q ⟨z, F, env, b, env', S, e, k⟩ => ?_
  obtain ⟨⟨d, e1⟩, h1, e⟩ := Option.bind_eq_some_iff.mp e
  cases e
  refine ⟨z, F, env, d, e1, S, h1, fun a F1 H1 s1 S1 fa za ow ap ng => ?_⟩
  obtain ⟨o, ho⟩ := ow.some
  refine ⟨a, o, ho, fun o' fz => ?_⟩
  obtain ⟨S2, s2, r⟩ := S1.freezeN fa za ow ho fz ap ng
  exact k _ _ _ (s1.trans s2) S2 r
end
end DL

namespace DL
open PySem L2

/-! ### statements -/
inductive Fl where
  | nx (e : Env)
  | rt (d : D) (e : Env)
  | bk (e : Env)
  | ct (e : Env)
abbrev SF := Env → Option Fl
/-- what lies behind a return (m: a new object is handed back) -/
structure RetOk (m : Bool) (K : PySem.W.Frag) (C : CA) (c : Cs) (z : Zn) (F : Hp) (env : Env) (H : Hp) (v : V) (d : D) : Prop where
  sub : Same F H
  f0 : Same z.F0 F
  new : ∀ b o, F b = some o → z.F0 b = some o ∨ z.H0 b = none
  keep : ∀ b o, z.H0 b = some o → b ∉ z.ioA → H b = some o
  ios : ∀ (k i : Nat), c.x.io[k]? = some i → ∃ a d, z.ioA[k]? = some a ∧ gt env i = some d ∧ F a = none ∧ Own K C F H a d
  val : if m = true then ∃ a, v = .ref a ∧ F a = none ∧ z.H0 a = none ∧ Own K C F H a d else Rp K C F v d
def tS (m : Bool) (K : PySem.W.Frag) (C : CA) (c : Cs) (f : SF) : TS := fun Dn σ H => ∃ z F env fl, SR K C c z F env σ H ∧ z.gh = [] ∧ f env = some fl ∧ match fl with
  | .nx env' => ∀ F' σ' H', Same F F' → SR K C c z F' env' σ' H' → Dn.nx σ' H'
  | .bk env' => ∀ F' σ' H', Same F F' → SR K C c z F' env' σ' H' → Dn.bk σ' H'
  | .ct env' => ∀ F' σ' H', Same F F' → SR K C c z F' env' σ' H' → Dn.ct σ' H'
  | .rt d env' => ∀ v F' H', Same F F' → RetOk m K C c z F' env' H' v d → Dn.rt v H'
def DS (m : Bool) (X : Cx) (C : CA) (c : Cs) (s : Stmt) (f : SF) : Prop := PS X s (tS m X.K C c f)
def DSs (m : Bool) (X : Cx) (C : CA) (c : Cs) (s : List Stmt) (f : SF) : Prop := PSs X s (tS m X.K C c f)

theorem SR.ret {K : PySem.W.Frag} {C : CA} {c : Cs} {z : Zn} {F : Hp} {env : Env} {σ : St} {H : Hp} (S : SR K C c z F env σ H) {m : Bool} {v : V} {d : D} (hv : if m = true then ∃ a, v = .ref a ∧ F a = none ∧ z.H0 a = none ∧ Own K C F H a d else Rp K C F v d) : RetOk m K C c z F env H v d :=
  ⟨S.sub, S.f0, S.new, S.keep, fun k i h => by
    obtain ⟨hO, a, d', h1, h2, h3⟩ := S.b.ios k i h
    obtain ⟨a', q1, q2, q3, _⟩ := S.b.own i d' h3 hO
    rw [h2] at q1; cases q1
    exact ⟨a, d', h1, h3, q2, q3⟩, hv⟩

section
variable {m : Bool} {X : Cx} {C : CA} {c : Cs} {s : Stmt} {ss : List Stmt} {f g : SF} {pos : Pos} {e : Expr} {fe : EF} {oe : OF} {p : TF}
def sN : SF := fun env => some (.nx env)
def sQ (f g : SF) : SF := fun env => (f env).bind fun fl => match fl with
  | .nx e => g e
  | fl => some fl
theorem dss_nil : DSs m X C c [] sN := PSs.imp pss_nil fun Dn σ H ⟨z, F, env, fl, S, hg, e, k⟩ => by
  cases e
  exact k F σ H (Same.refl _) S
theorem ds_pass : DS m X C c (.Pass pos) sN := PS.imp ps_pass fun Dn σ H ⟨z, F, env, fl, S, hg, e, k⟩ => by
  cases e
  exact k F σ H (Same.refl _) S
theorem dss_cons (h1 : DS m X C c s f) (h2 : DSs m X C c ss g) : DSs m X C c (s :: ss) (sQ f g) := by
  refine PSs.imp (pss_cons h1 h2) fun Dn σ H ⟨z, F, env, fl, S, hg, e, k⟩ => ?_
  obtain ⟨fl1, e1, e⟩ := Option.bind_eq_some_iff.mp e
  refine ⟨z, F, env, fl1, S, hg, e1, ?_⟩
  cases fl1 with
  | nx env1 =>
    intro F1 σ1 H1 s1 S1
    refine ⟨z, F1, env1, fl, S1, hg, e, ?_⟩
    cases fl with
    | nx _ => exact fun F' σ' H' s' => k F' σ' H' (s1.trans s')
    | bk _ => exact fun F' σ' H' s' => k F' σ' H' (s1.trans s')
    | ct _ => exact fun F' σ' H' s' => k F' σ' H' (s1.trans s')
    | rt _ _ => exact fun v F' H' s' => k v F' H' (s1.trans s')
  | rt d e1 => cases e; exact k
  | bk e1 => cases e; exact k
  | ct e1 => cases e; exact k
theorem dss_one (h1 : DS m X C c s f) : DSs m X C c [s] f := pss_one h1
/-- code that is not come to -/
theorem ds_never : DS m X C c s (fun _ => none) := PS.imp ps_never fun Dn σ H ⟨z, F, env, fl, S, hg, e, k⟩ => by cases e
def sIf (p : TF) (f g : SF) : SF := fun env => (p env).bind fun r => if r.1 = true then f r.2 else g r.2
theorem ds_if {t : Expr} {sa sb : List Stmt} (hc : DT X C c t p) (ha : DSs m X C c sa f) (hb : DSs m X C c sb g) : DS m X C c (.If t sa sb pos) (sIf p f g) := by
  refine PS.imp (ps_if hc ha hb) fun Dn σ H ⟨z, F, env, fl, S, hg, e, k⟩ => ?_
  obtain ⟨⟨k1, e1⟩, h1, e⟩ := Option.bind_eq_some_iff.mp e
  refine ⟨z, F, env, k1, e1, S, h1, fun F1 H1 s1 S1 => ?_⟩
  have fin : ∀ f : SF, f e1 = some fl → tS m X.K C c f Dn σ H1 := fun f e => by
    refine ⟨z, F1, e1, fl, S1, hg, e, ?_⟩
    cases fl with
    | nx _ => exact fun F' σ' H' s' => k F' σ' H' (s1.trans s')
    | bk _ => exact fun F' σ' H' s' => k F' σ' H' (s1.trans s')
    | ct _ => exact fun F' σ' H' s' => k F' σ' H' (s1.trans s')
    | rt _ _ => exact fun v F' H' s' => k v F' H' (s1.trans s')
  cases k1 with
  | true => exact iteT (fin f e)
  | false => exact iteF (fin g e)
def sX (f : EF) : SF := fun env => (f env).bind fun r => some (.nx r.2)
theorem ds_expr (h : DE X C c e fe) (hs : swapsWith e none pos.line X.env = pure false := by rfl) : DS m X C c (.Expr e pos) (sX fe) := by
  refine PS.imp (ps_expr h hs) fun Dn σ H ⟨z, F, env, fl, S, hg, e, k⟩ => ?_
  obtain ⟨⟨b, e1⟩, h1, e⟩ := Option.bind_eq_some_iff.mp e
  cases e
  exact ⟨z, F, env, b, e1, S, h1, fun v F1 H1 s1 S1 r1 => k F1 σ H1 s1 S1⟩
/-! ### return -/
def sR (f : EF) : SF := fun env => (f env).bind fun r => match r.1 with
  | .val d => some (.rt d r.2)
  | .slot _ => none
theorem ds_ret (h : DE X C c e fe) : DS false X C c (.Return (some e) pos) (sR fe) := by
  refine PS.imp (ps_ret h) fun Dn σ H ⟨z, F, env, fl, S, hg, e, k⟩ => ?_
  obtain ⟨⟨b, e1⟩, h1, e⟩ := Option.bind_eq_some_iff.mp e
  cases b with
  | slot i => cases e
  | val d =>
    cases e
    exact ⟨z, F, env, _, e1, S, h1, fun v F1 H1 s1 S1 r1 => k v F1 H1 s1 (S1.ret r1)⟩
def sRO (f : OF) : SF := fun env => (f env).bind fun r => some (.rt r.1 r.2)
/-- a slot's own object handed back as a new one -/
def oSl (i : Nat) : OF := fun env => (gt env i).bind fun d => some (d, st env i none)
theorem SRo.drop {K : PySem.W.Frag} {c : Cs} {z : Zn} {F : Hp} {env : Env} {σ : St} {H : Hp} (S : SRo K C c z F env σ H) {i : Nat} (hio : i ∉ c.io) : SRo K C c z F (st env i none) σ H :=
  ⟨S.sub, S.f0, S.new, S.keep, by rw [st_length]; exact S.len, by rw [st_length]; exact S.num, fun j e h hj => S.pur j e (gt_st_none h).2 hj, fun j e h hj => S.own j e (gt_st_none h).2 hj, fun j k dj dk b hj hk hjk ej ek sj sk => S.dist j k dj dk b hj hk hjk (gt_st_none ej).2 (gt_st_none ek).2 sj sk, S.iol, S.gho,
    fun b e j e2 h hj ej => S.ghd b e j e2 h hj (gt_st_none ej).2, S.ghn, fun k j hk => by
      obtain ⟨h1, b, e, h2, h3, h4⟩ := S.ios k j hk
      have hij : i ≠ j := fun q => hio (q ▸ List.mem_of_getElem? hk)
      exact ⟨h1, b, e, h2, h3, by rw [gt_st_ne hij]; exact h4⟩⟩
theorem SR.drop {K : PySem.W.Frag} {z : Zn} {F : Hp} {env : Env} {σ : St} {H : Hp} (S : SR K C c z F env σ H) {i : Nat} (hio : i ∉ c.io) (hn : i < c.n) : SR K C c z F (st env i none) σ H :=
  ⟨S.b.drop (x_notio hio hn), S.ln, S.hO, S.hio⟩
/-! ### targets -/
abbrev GF := D → Env → Option Env
abbrev GFs := List D → Env → Option Env
def tG (K : PySem.W.Frag) (C : CA) (c : Cs) (ts : List Nat) (g : GF) : TG := fun v σ H Q => ∃ z F env d env', SR K C c z F env σ H ∧ Rp K C F v d ∧ g d env = some env' ∧
  ∀ F' σ' H', Same F F' → SR K C c z F' env' σ' H' → (∀ own : List Nat, (∀ t ∈ ts, t ∈ own) → wipe σ' own = wipe σ own) → Q σ' H'
def tGs (K : PySem.W.Frag) (C : CA) (c : Cs) (ts : List Nat) (g : GFs) : TGs := fun vs σ H Q => ∃ z F env ds env', SR K C c z F env σ H ∧ RpAll K C F vs ds ∧ g ds env = some env' ∧
  ∀ F' σ' H', Same F F' → SR K C c z F' env' σ' H' → (∀ own : List Nat, (∀ t ∈ ts, t ∈ own) → wipe σ' own = wipe σ own) → Q σ' H'
def DG (X : Cx) (C : CA) (c : Cs) (e : Expr) (ts : List Nat) (g : GF) : Prop := PG X e (tG X.K C c ts g)
def DGs (X : Cx) (C : CA) (c : Cs) (e : List Expr) (ts : List Nat) (g : GFs) : Prop := PGs X e (tGs X.K C c ts g)
theorem PGs.imp {X : Cx} {e : List Expr} {t t' : TGs} (h : PGs X e t) (i : ∀ v σ H Q, t' v σ H Q → t v σ H Q) : PGs X e t' := ⟨fun pins s σ H v u Q I r q => h.run pins s σ H v u Q I r (i v σ H Q q)⟩
theorem wipe_set {i : Nat} {v : Option V} : ∀ (own : List Nat) (σ : St), i ∈ own → wipe (σ.set i v) own = wipe σ own
  | [], _, h => by cases h
  | j :: own, σ, h => by
    unfold wipe
    by_cases hi : i ∈ own
    · rw [wipe_set own σ hi]
    · have e : i = j := by
        rcases List.mem_cons.mp h with q | q
        · exact q
        · exact absurd q hi
      subst e
      have cm : ∀ (own : List Nat), i ∉ own → wipe (σ.set i v) own = (wipe σ own).set i v := by
        intro own
        induction own with
        | nil => intro _; rfl
        | cons k own ih =>
          intro hk
          have h1 : i ≠ k := fun q => hk (q ▸ List.mem_cons_self ..)
          have h2 : i ∉ own := fun q => hk (List.mem_cons_of_mem _ q)
          show (wipe (σ.set i v) own).set k none = ((wipe σ own).set k none).set i v
          rw [ih h2, List.set_comm _ _ h1]
      rw [cm own hi, List.set_set]
def gN (i : Nat) : GF := fun d env => some (st env i (some d))
theorem dg_name (i : Nat) {x : Str} (hN : X.N.Nodup) (hO : i ∉ c.O := by decide) (hn : i < c.n := by decide) (hi : X.N[i]? = some x := by rfl) (hx : Loc X.env.scope x := by first | exact Or.inl rfl | exact Or.inr rfl) (hf : X.fn x = true ∨ X.env.scope.names.lookup x = some .local := by first | exact .inl rfl | exact .inr rfl | assumption) : DG X C c (.Name x pos) [i] (gN i) :=
  PG.imp (pg_name hN hi hx hf) fun v σ H Q ⟨z, F, env, d, env', S, r, e, k⟩ => by
    cases e
    exact k F _ H (Same.refl _) (S.setP hO hn r) fun own h => wipe_set own σ (h i (List.mem_cons_self ..))
def gN0 : GFs := fun ds env => match ds with
  | [] => some env
  | _ => none
def gC (g : GF) (gs : GFs) : GFs := fun ds env => match ds with
  | d :: ds => (g d env).bind fun e => gs ds e
  | [] => none
theorem dgs_nil : DGs X C c [] [] gN0 := PGs.imp pgs_nil fun v σ H Q ⟨z, F, env, d, env', S, r, e, k⟩ => by
  cases d with
  | cons _ _ => cases e
  | nil =>
    cases r
    cases e
    exact ⟨rfl, k F σ H (Same.refl _) S fun _ _ => rfl⟩
def gT (n : Nat) (gs : GFs) : GF := fun d env => match d with
  | .tup ds => if ds.length = n then gs ds env else none
  | _ => none
theorem dgs_cons {es : List Expr} {g : GF} {gs : GFs} {t1 t2 : List Nat} (h1 : DG X C c e t1 g) (h2 : DGs X C c es t2 gs) (hs : (assignEach (e :: es) X.env).map (·.2) = assign e X.env :: (assignEach es X.env).map (·.2) := by rfl) : DGs X C c (e :: es) (t1 ++ t2) (gC g gs) := by
  refine PGs.imp (pgs_cons h1 h2 hs) fun v σ H Q ⟨z, F, env, d, env', S, r, e, k⟩ => ?_
  cases r with
  | nil => cases e
  | cons r1 r2 =>
    obtain ⟨e1, q1, e⟩ := Option.bind_eq_some_iff.mp e
    exact ⟨_, _, rfl, z, F, env, _, e1, S, r1, q1, fun F1 σ1 H1 s1 S1 w1 => ⟨z, F1, e1, _, env', S1, r2.mono s1, e, fun F2 σ2 H2 s2 S2 w2 => k F2 σ2 H2 (s1.trans s2) S2 fun own h => (w2 own fun t ht => h t (List.mem_append_right _ ht)).trans (w1 own fun t ht => h t (List.mem_append_left _ ht))⟩⟩
theorem dg_tup {es : List Expr} {kk : Nat} {gs : GFs} {ts : List Nat} (n : Nat) (h : DGs X C c es ts gs) (hc : X.calm = true := by rfl) (hn : (assignEach es X.env).length = n := by rfl) (hst : (assignEach es X.env).findIdx? (·.1) = none := by rfl) : DG X C c (.Tuple es kk pos) ts (gT n gs) := by
  refine PG.imp (pg_tup hc h hn hst) fun v σ H Q ⟨z, F, env, d, env', S, r, e, k⟩ => ?_
  cases d <;> simp only [gT] at e <;> try (cases e; done)
  cases r with
  | tup h1 hl h2 =>
    split at e
    · next q => exact ⟨_, _, rfl, SqT.sub S.sub h1, by rw [h2.length]; exact q, z, F, env, _, env', S, h2, e, k⟩
    · cases e
/-! ### assignments -/
def sSet (i : Nat) (f : EF) : SF := fun env => (f env).bind fun r => match r.1 with
  | .val d => some (.nx (st r.2 i (some d)))
  | .slot _ => none
theorem ds_set (i : Nat) {x : Str} {pos' : Pos} (hN : X.N.Nodup) (he : DE X C c e fe) (hO : i ∉ c.O := by decide) (hn : i < c.n := by decide) (hi : X.N[i]? = some x := by rfl) (hx : Loc X.env.scope x := by first | exact Or.inl rfl | exact Or.inr rfl) (hs : swapsWith e (some (.Name x pos')) pos.line X.env = pure false := by rfl) (hf : X.fn x = true ∨ X.env.scope.names.lookup x = some .local := by first | exact .inl rfl | exact .inr rfl | assumption) :
    DS m X C c (.Assign [.Name x pos'] e pos) (sSet i fe) := by
  refine PS.imp (ps_set hN hi hx he hs hf) fun Dn σ H ⟨z, F, env, fl, S, hg, e, k⟩ => ?_
  obtain ⟨⟨b, e1⟩, h1, e⟩ := Option.bind_eq_some_iff.mp e
  cases b with
  | slot i => cases e
  | val d =>
    cases e
    exact ⟨z, F, env, _, e1, S, h1, fun v F1 H1 s1 S1 r1 => k F1 _ H1 s1 (S1.setP hO hn r1)⟩
def sSetO (i : Nat) (f : OF) : SF := fun env => (f env).bind fun r => some (.nx (st r.2 i (some r.1)))
theorem ds_setO (i : Nat) {x : Str} {pos' : Pos} (hN : X.N.Nodup) (he : DO X C c e oe) (hO : i ∈ c.O := by decide) (hio : i ∉ c.io := by decide) (hn : i < c.n := by decide) (hi : X.N[i]? = some x := by rfl) (hx : Loc X.env.scope x := by first | exact Or.inl rfl | exact Or.inr rfl) (hs : swapsWith e (some (.Name x pos')) pos.line X.env = pure false := by rfl) (hf : X.fn x = true ∨ X.env.scope.names.lookup x = some .local := by first | exact .inl rfl | exact .inr rfl | assumption) :
    DS m X C c (.Assign [.Name x pos'] e pos) (sSetO i oe) := by
  refine PS.imp (ps_set hN hi hx he hs hf) fun Dn σ H ⟨z, F, env, fl, S, hg, e, k⟩ => ?_
  obtain ⟨⟨b, e1⟩, h1, e⟩ := Option.bind_eq_some_iff.mp e
  cases e
  exact ⟨z, F, env, _, e1, S, h1, fun a F1 H1 s1 S1 fa za ow ap ng => k F1 _ H1 s1 (S1.setO hO hio hn fa za ow ap ng)⟩
/-- target = value, the target a tuple of names -/
def sAsg (f : EF) (g : GF) : SF := fun env => (f env).bind fun r => match r.1 with
  | .val d => (g d r.2).bind fun e => some (.nx e)
  | .slot _ => none
theorem ds_asg {tg : Expr} {g : GF} {ts : List Nat} (he : DE X C c e fe) (hg : DG X C c tg ts g) (hs : swapsWithSole [tg] e pos.line X.env = pure false := by rfl) (hw : swappedStores [tg] e X.env = pure none := by rfl) (h1 : (assignEach [tg] X.env).map (·.2) = [assign tg X.env] := by rfl) : DS m X C c (.Assign [tg] e pos) (sAsg fe g) := by
  refine PS.imp (ps_asg he hg hs hw h1) fun Dn σ H ⟨z, F, env, fl, S, hg, e, k⟩ => ?_
  obtain ⟨⟨b, e1⟩, h1, e⟩ := Option.bind_eq_some_iff.mp e
  cases b with
  | slot i => cases e
  | val d =>
    obtain ⟨e2, h2, e⟩ := Option.bind_eq_some_iff.mp e
    cases e
    exact ⟨z, F, env, _, e1, S, h1, fun v F1 H1 s1 S1 r1 => ⟨z, F1, e1, d, e2, S1, r1, h2, fun F2 σ2 H2 s2 S2 _ => k F2 σ2 H2 (s1.trans s2) S2⟩⟩
/-! ### while -/
def whD (p : TF) (f : SF) : Nat → SF
  | 0, _ => none
  | n + 1, env => (p env).bind fun r => if r.1 = true then (f r.2).bind fun fl => (match fl with
    | .nx e => whD p f n e
    | .ct e => whD p f n e
    | .bk e => some (.nx e)
    | .rt d e => some (.rt d e)) else some (.nx r.2)
theorem ds_while (n : Nat) {t : Expr} {body : List Stmt} (hp : PassesOwn (model X.prog X.w) X.A X.env X.xe) (hc : DT X C c t p) (hb : DSs m X C c body f) : DS m X C c (.While t body [] pos) (whD p f n) := by
  refine PS.imp (ps_while hp hc hb) fun Dn σ H ⟨z, F, env, fl, S, hg, e, k⟩ => ?_
  have ke : match fl with
    | .nx env' => ∀ F' σ' H', Same F F' → SR X.K C c z F' env' σ' H' → Dn.nx σ' H'
    | .rt d env' => ∀ v F' H', Same F F' → RetOk m X.K C c z F' env' H' v d → Dn.rt v H'
    | _ => True := by cases fl <;> first | exact k | trivial
  refine ⟨fun n σ H => ∃ F1 env1, Same F F1 ∧ SR X.K C c z F1 env1 σ H ∧ whD p f n env1 = some fl, ⟨n, F, env, Same.refl _, S, e⟩, ?_⟩
  rintro n σ1 H1 ⟨F1, env1, s1, S1, e1⟩
  cases n with
  | zero => cases e1
  | succ n =>
    obtain ⟨⟨k1, e2⟩, h2, e1⟩ := Option.bind_eq_some_iff.mp e1
    refine ⟨z, F1, env1, k1, e2, S1, h2, fun F2 H2 s2 S2 => ?_⟩
    cases k1 with
    | false => cases e1; exact iteF (k F2 σ1 H2 (s1.trans s2) S2)
    | true =>
      obtain ⟨fl3, h3, e1⟩ := Option.bind_eq_some_iff.mp e1
      refine iteT ⟨fun σ' H' => ∃ F3 env3, Same F F3 ∧ SR X.K C c z F3 env3 σ' H' ∧ whD p f n env3 = some fl, fun σ' H' ⟨F3, env3, q1, q2, q3⟩ => ⟨n, Nat.lt_succ_self n, F3, env3, q1, q2, q3⟩, z, F2, e2, fl3, S2, hg, h3, ?_⟩
      cases fl3 with
      | nx e4 => exact fun F3 σ3 H3 s3 S3 => ⟨F3, e4, s1.trans (s2.trans s3), S3, e1⟩
      | ct e4 => exact fun F3 σ3 H3 s3 S3 => ⟨F3, e4, s1.trans (s2.trans s3), S3, e1⟩
      | bk e4 => cases e1; exact fun F3 σ3 H3 s3 S3 => ke F3 σ3 H3 (s1.trans (s2.trans s3)) S3
      | rt d e4 => cases e1; exact fun v F3 H3 s3 S3 => ke v F3 H3 (s1.trans (s2.trans s3)) S3
/-! ### what is walked -/
/-- an iterator over data that stand -/
structure Wk (K : PySem.W.Frag) (C : CA) (J : It) (F : Hp) (ds : List D) : Prop where
  go : ∀ i F' H, Same F F' → Same F' H → i < ds.length → J.go i H
  stop : ∀ F' H, Same F F' → Same F' H → J.stop ds.length H
  yld : ∀ i F' H x H', Same F F' → Same F' H → i < ds.length → J.yld i H x H' → ∃ F2 d, Ext F' H F2 H' ∧ ds[i]? = some d ∧ Rp K C F2 x d
  size : ds.length ≤ sizeLine
abbrev IF := Env → Option (List D × Env)
def tI (K : PySem.W.Frag) (C : CA) (c : Cs) (f : IF) : TI := fun σ H R => ∃ z F env ds env', SR K C c z F env σ H ∧ f env = some (ds, env') ∧
  ∀ J F' H', Same F F' → SR K C c z F' env' σ H' → Wk K C J F' ds → R J H'
def DI (X : Cx) (C : CA) (c : Cs) (tg e : Expr) (f : IF) : Prop := PI X tg e (tI X.K C c f)
def forD (g : GF) (f : SF) : List D → SF
  | [], env => some (.nx env)
  | d :: ds, env => (g d env).bind fun e1 => (f e1).bind fun fl => match fl with
    | .nx e => forD g f ds e
    | .ct e => forD g f ds e
    | .bk e => some (.nx e)
    | .rt d e => some (.rt d e)
def sFor (i : IF) (g : GF) (f : SF) : SF := fun env => (i env).bind fun r => forD g f r.1 r.2
theorem ds_for {tg iter : Expr} {body : List Stmt} {fi : IF} {g : GF} {ts : List Nat} (hp : PassesOwn (model X.prog X.w) X.A X.env X.xe) (hi : DI X C c tg iter fi) (hg : DG X C c tg ts g) (hb : DSs m X C c body f) (hc : X.calm = true := by rfl)
    (hs : ∀ x, foldedSetIterable iter X.env x = pure x := by intro _; rfl) : DS m X C c (.For tg iter body [] pos) (sFor fi g f) := by
  refine PS.imp (ps_for hp hc hi hg hb hs) fun Dn σ H ⟨z, F, env, fl, S, hgh, e, k⟩ => ?_
  obtain ⟨⟨ds, e1⟩, h1, e⟩ := Option.bind_eq_some_iff.mp e
  have ke : match fl with
    | .nx env' => ∀ F' σ' H', Same F F' → SR X.K C c z F' env' σ' H' → Dn.nx σ' H'
    | .rt d env' => ∀ v F' H', Same F F' → RetOk m X.K C c z F' env' H' v d → Dn.rt v H'
    | _ => True := by cases fl <;> first | exact k | trivial
  refine ⟨z, F, env, ds, e1, S, h1, fun J F1 H1 s1 S1 W => ?_⟩
  refine ⟨fun i n σ H => n = ds.length - i ∧ i ≤ ds.length ∧ ∃ F2 env2, Same F1 F2 ∧ SR X.K C c z F2 env2 σ H ∧ forD g f (ds.drop i) env2 = some fl, ⟨ds.length, by simp, Nat.zero_le _, F1, e1, Same.refl _, S1, e⟩, ?_⟩
  rintro i n σ2 H2 ⟨rfl, hi, F2, env2, s2, S2, e2⟩
  by_cases hlt : i < ds.length
  · refine .inr ⟨W.go i F2 H2 s2 S2.sub hlt, fun σ' H' => ∃ F3 env3, Same F1 F3 ∧ SR X.K C c z F3 env3 σ' H' ∧ forD g f (ds.drop (i + 1)) env3 = some fl, fun σ' H' ⟨F3, env3, q1, q2, q3⟩ => ⟨ds.length - (i + 1), by omega, rfl, hlt, F3, env3, q1, q2, q3⟩, fun x H3 y => ?_⟩
    obtain ⟨F3, d, ex, hd, r⟩ := W.yld i F2 H2 x H3 s2 S2.sub hlt y
    have ed : ds.drop i = d :: ds.drop (i + 1) := by
      rw [List.drop_eq_getElem_cons hlt]
      obtain ⟨_, q⟩ := List.getElem?_eq_some_iff.mp hd
      rw [q]
    rw [ed] at e2
    obtain ⟨e3, h3, e2⟩ := Option.bind_eq_some_iff.mp e2
    obtain ⟨fl4, h4, e2⟩ := Option.bind_eq_some_iff.mp e2
    refine ⟨z, F3, env2, d, e3, S2.ext ex, r, h3, fun F4 σ4 H4 s4 S4 _ => ⟨z, F4, e3, fl4, S4, hgh, h4, ?_⟩⟩
    have s14 : Same F1 F4 := s2.trans (ex.sub.trans s4)
    cases fl4 with
    | nx e4 => exact fun F5 σ5 H5 s5 S5 => ⟨F5, e4, s14.trans s5, S5, e2⟩
    | ct e4 => exact fun F5 σ5 H5 s5 S5 => ⟨F5, e4, s14.trans s5, S5, e2⟩
    | bk e4 => cases e2; exact fun F5 σ5 H5 s5 S5 => ke F5 σ5 H5 (s1.trans (s14.trans s5)) S5
    | rt d e4 => cases e2; exact fun v F5 H5 s5 S5 => ke v F5 H5 (s1.trans (s14.trans s5)) S5
  · have q : i = ds.length := by omega
    subst q
    rw [List.drop_length] at e2
    cases e2
    exact .inl ⟨W.stop F2 H2 s2 S2.sub, k F2 σ2 H2 (s1.trans s2) S2⟩
end
end DL

namespace DL
open PySem L2
/-! ### equality -/
mutual
def eqv : D → D → Bool
  | .non, .non => true
  | .bl a, .bl b => a == b
  | .bl a, .int j => (if a then 1 else 0) == j
  | .int i, .bl b => i == (if b then 1 else 0)
  | .int i, .int j => i == j
  | .str x, .str y => x == y
  | .lst xs, .lst ys => eqvAll xs ys
  | .tup xs, .tup ys => eqvAll xs ys
  | _, _ => false
termination_by structural x => x
def eqvAll : List D → List D → Bool
  | [], [] => true
  | x :: xs, y :: ys => eqv x y && eqvAll xs ys
  | _, _ => false
termination_by structural x => x
end
mutual
def toPy : D → PyData
  | .non => .none
  | .bl b => .bool b
  | .int i => .int i
  | .str x => .str x
  | .lst xs => .list (toPys xs)
  | .tup xs => .tuple (toPys xs)
  | _ => .none
termination_by structural x => x
def toPys : List D → List PyData
  | [] => []
  | x :: xs => toPy x :: toPys xs
termination_by structural x => x
end
mutual
/-- data without dicts and objects -/
def plain : D → Bool
  | .non => true
  | .bl _ => true
  | .int _ => true
  | .str _ => true
  | .lst xs => plains xs
  | .tup xs => plains xs
  | _ => false
termination_by structural x => x
def plains : List D → Bool
  | [] => true
  | x :: xs => plain x && plains xs
termination_by structural x => x
end
mutual
def dp : D → Nat
  | .lst xs => dps xs + 1
  | .tup xs => dps xs + 1
  | _ => 0
termination_by structural x => x
def dps : List D → Nat
  | [] => 0
  | x :: xs => max (dp x) (dps xs)
termination_by structural x => x
end
mutual
theorem eqv_py : ∀ (x y : D), plain x = true → plain y = true → eqv x y = PyData.eqv (toPy x) (toPy y)
  | .non, y, _, hy => by cases y <;> first | rfl | cases hy
  | .bl _, y, _, hy => by cases y <;> first | rfl | cases hy
  | .int _, y, _, hy => by cases y <;> first | rfl | cases hy
  | .str _, y, _, hy => by cases y <;> first | rfl | cases hy
  | .lst xs, y, hx, hy => by
    cases y with
    | lst ys => exact eqv_pys xs ys hx hy
    | _ => first | rfl | cases hy
  | .tup xs, y, hx, hy => by
    cases y with
    | tup ys => exact eqv_pys xs ys hx hy
    | _ => first | rfl | cases hy
  | .dic _, y, hx, hy => by cases hx
  | .obj _ _, y, hx, hy => by cases hx
  | .scr _, y, hx, hy => by cases hx
  | .cel _, y, hx, hy => by cases hx
  | .dtu _, y, hx, hy => by cases hx
  | .btu _, y, hx, hy => by cases hx
theorem eqv_pys : ∀ (xs ys : List D), plains xs = true → plains ys = true → eqvAll xs ys = PyData.eqvAll (toPys xs) (toPys ys)
  | [], ys, _, _ => by cases ys <;> rfl
  | x :: xs, ys, hx, hy => by
    cases ys with
    | nil => rfl
    | cons y ys =>
      obtain ⟨h1, h2⟩ := Bool.and_eq_true_iff.mp (show (plain x && plains xs) = true from hx)
      obtain ⟨h3, h4⟩ := Bool.and_eq_true_iff.mp (show (plain y && plains ys) = true from hy)
      show (eqv x y && eqvAll xs ys) = (PyData.eqv (toPy x) (toPy y) && PyData.eqvAll (toPys xs) (toPys ys))
      rw [eqv_py x y h1 h3, eqv_pys xs ys h2 h4]
end
mutual
theorem plain_py : ∀ (x : D), plain x = true → (toPy x).plain = true
  | .non, _ => rfl
  | .bl _, _ => rfl
  | .int _, _ => rfl
  | .str _, _ => rfl
  | .lst xs, h => plains_py xs h
  | .tup xs, h => plains_py xs h
  | .dic _, h => by cases h
  | .obj _ _, h => by cases h
  | .scr _, h => by cases h
  | .cel _, h => by cases h
  | .dtu _, h => by cases h
  | .btu _, h => by cases h
theorem plains_py : ∀ (xs : List D), plains xs = true → PyData.plainAll (toPys xs) = true
  | [], _ => rfl
  | x :: xs, h => by
    obtain ⟨h1, h2⟩ := Bool.and_eq_true_iff.mp (show (plain x && plains xs) = true from h)
    show ((toPy x).plain && PyData.plainAll (toPys xs)) = true
    rw [plain_py x h1, plains_py xs h2]; rfl
end
mutual
theorem dp_py : ∀ (x : D), (toPy x).depth ≤ dp x + 1
  | .non => by simp [toPy, PyData.depth]
  | .bl _ => by simp [toPy, PyData.depth]
  | .int _ => by simp [toPy, PyData.depth]
  | .str _ => by simp [toPy, PyData.depth]
  | .lst xs => by
    have := dps_py xs
    simp only [toPy, PyData.depth, dp]
    omega
  | .tup xs => by
    have := dps_py xs
    simp only [toPy, PyData.depth, dp]
    omega
  | .dic _ => by simp [toPy, PyData.depth]
  | .obj _ _ => by simp [toPy, PyData.depth]
  | .scr _ => by simp [toPy, PyData.depth]
  | .cel _ => by simp [toPy, PyData.depth]
  | .dtu _ => by simp [toPy, PyData.depth]
  | .btu _ => by simp [toPy, PyData.depth]
theorem dps_py : ∀ (xs : List D), PyData.depthAll (toPys xs) ≤ dps xs + 1
  | [] => by simp [toPys, PyData.depthAll]
  | x :: xs => by
    have h1 := dp_py x
    have h2 := dps_py xs
    simp only [toPys, PyData.depthAll, dps]
    omega
end
section
variable {K : PySem.W.Frag} {C : CA} {F H : Hp}
mutual
theorem Rp.dp (s : Same F H) {v : V} {d : D} (h : Rp K C F v d) (p : plain d = true) : Dp K H v (toPy d) := match h with
  | .non => .non
  | .bl b => .bl b
  | .int i => .int i
  | .str x => .str x
  | .lst h1 hl h2 => .lst (SqL.of (s _ _ h1)) (RpAll.dp s h2 p)
  | .tup h1 hl h2 => .tup (SqT.sub s h1) (RpAll.dp s h2 p)
  | .dic h1 h2 => by cases p
  | .obj h1 h2 => by cases p
  | .scr h1 => by cases p
  | .cel j h1 => by cases p
  | .dtu h1 h2 => by cases p
  | .btu h1 h2 h3 h4 => by cases p
theorem RpAll.dp (s : Same F H) {vs : List V} {ds : List D} (h : RpAll K C F vs ds) (p : plains ds = true) : DpAll K H vs (toPys ds) := match h with
  | .nil => .nil
  | .cons h1 h2 => .cons (Rp.dp s h1 (Bool.and_eq_true_iff.mp p).1) (RpAll.dp s h2 (Bool.and_eq_true_iff.mp p).2)
end
theorem Rb.dp (s : Same F H) {v : V} {d : D} (h : Rb K C F H v d) (p : plain d = true) : Dp K H v (toPy d) := by
  rcases h with h | ⟨a, rfl, h⟩
  · exact h.dp s p
  · cases d <;> simp only [Own] at h
    · obtain ⟨vs, h1, hl, h2⟩ := h
      exact .lst (SqL.of h1) (h2.dp s p)
    · cases p
    · cases p
    · cases p
    · cases p
end
section
variable {X : Cx} {C : CA}
def eqD (x y : D) : Option D := if plain x && plain y && decide (min (dp x) (dp y) ≤ 60) then some (.bl (eqv x y)) else none
def neD (x y : D) : Option D := if plain x && plain y && decide (min (dp x) (dp y) ≤ 60) then some (.bl (!eqv x y)) else none
def rEqP (K : PySem.W.Frag) (neg : Bool) : R2 := fun x y H Q => ∃ p q, Dp K H x p ∧ Dp K H y q ∧ p.plain = true ∧ q.plain = true ∧ min p.depth q.depth ≤ 61 ∧ Q (.bl (if neg then !PyData.eqv p q else PyData.eqv p q)) H
theorem op_eqP (hu : X.A.units + 64 < cLine) : OpR X (compareOp .Eq) (rEqP X.K false) := by
  intro pins s σ H x y v u Q I rx ry h
  obtain ⟨d, e, hd, he, sd, se, hm, q⟩ := h
  obtain ⟨as, r1⟩ := Dp.reads I d x v hd rx
  obtain ⟨bs, r2⟩ := Dp.reads I e y u he ry
  exact SeqAt.eq_plain r1 r2 sd se (by omega) ⟨.bl _, H, I, rfl, q⟩
theorem op_neP (hu : X.A.units + 64 < cLine) : OpR X (compareOp .NotEq) (rEqP X.K true) := by
  intro pins s σ H x y v u Q I rx ry h
  obtain ⟨d, e, hd, he, sd, se, hm, q⟩ := h
  obtain ⟨as, r1⟩ := Dp.reads I d x v hd rx
  obtain ⟨bs, r2⟩ := Dp.reads I e y u he ry
  exact SeqAt.ne_plain r1 r2 sd se (by omega) ⟨.bl _, H, I, rfl, q⟩
theorem eqD_some {neg : Bool} {x y d : D} (h : (if plain x && plain y && decide (min (dp x) (dp y) ≤ 60) then some (D.bl (if neg then !eqv x y else eqv x y)) else none) = some d) : plain x = true ∧ plain y = true ∧ min (dp x) (dp y) ≤ 60 ∧ d = .bl (if neg then !PyData.eqv (toPy x) (toPy y) else PyData.eqv (toPy x) (toPy y)) := by
  split at h
  · next q =>
    simp only [Bool.and_eq_true, decide_eq_true_eq] at q
    obtain ⟨⟨h1, h2⟩, h3⟩ := q
    cases h
    exact ⟨h1, h2, h3, by rw [eqv_py x y h1 h2]⟩
  · cases h
theorem od_eq (hu : X.A.units + 64 < cLine) : OpD X C (compareOp .Eq) eqD := by
  refine ⟨_, op_eqP hu, fun F H x y dx dy d Q s rx ry e k => ?_⟩
  obtain ⟨h1, h2, h3, rfl⟩ := eqD_some (neg := false) e
  have d1 := dp_py dx
  have d2 := dp_py dy
  exact ⟨_, _, rx.dp s h1, ry.dp s h2, plain_py _ h1, plain_py _ h2, by omega, k _ F H (Ext.rfl' s) (.bl _)⟩
theorem od_ne (hu : X.A.units + 64 < cLine) : OpD X C (compareOp .NotEq) neD := by
  refine ⟨_, op_neP hu, fun F H x y dx dy d Q s rx ry e k => ?_⟩
  obtain ⟨h1, h2, h3, rfl⟩ := eqD_some (neg := true) e
  have d1 := dp_py dx
  have d2 := dp_py dy
  exact ⟨_, _, rx.dp s h1, ry.dp s h2, plain_py _ h1, plain_py _ h2, by omega, k _ F H (Ext.rfl' s) (.bl _)⟩
/-! ### x in c -/
def anyE (x : D) (xs : List D) : Bool := xs.any fun y => eqv y x
def hasK (ks : List (Key × D)) (k : Key) : Bool := ks.any fun p => decide (p.1 = k)
def keyD : D → Option Key
  | .int i => some (.inl i)
  | .str x => some (.inr x)
  | _ => none
def inB (x c : D) : Option Bool := match c with
  | .lst xs => if plain x && plains xs && decide (min (dps xs) (dp x) ≤ 60) then some (anyE x xs) else none
  | .tup xs => if plain x && plains xs && decide (min (dps xs) (dp x) ≤ 60) then some (anyE x xs) else none
  | .dic ks => (keyD x).bind fun k => some (hasK ks k)
  | .str t => (match x with
    | .str y => some (!(Builtin.Str.occurrences t y 0 t.length 1).isEmpty)
    | _ => none)
  | _ => none
def inD (x c : D) : Option D := (inB x c).bind fun b => some (.bl b)
def notInD (x c : D) : Option D := (inB x c).bind fun b => some (.bl (!b))
theorem any_py {x : D} (hx : plain x = true) : ∀ {xs : List D}, plains xs = true → anyE x xs = (toPys xs).any fun y => PyData.eqv y (toPy x)
  | [], _ => rfl
  | y :: ys, h => by
    obtain ⟨h1, h2⟩ := Bool.and_eq_true_iff.mp (show (plain y && plains ys) = true from h)
    show (eqv y x || anyE x ys) = (PyData.eqv (toPy y) (toPy x) || (toPys ys).any fun y => PyData.eqv y (toPy x))
    rw [eqv_py y x h1 hx, any_py hx h2]
def rInP (K : PySem.W.Frag) (neg : Bool) : R2 := fun x y H Q => ∃ p qs, Dp K H x p ∧ (Dp K H y (.list qs) ∨ Dp K H y (.tuple qs)) ∧ p.plain = true ∧ PyData.plainAll qs = true ∧ min (PyData.depthAll qs) p.depth ≤ 61 ∧ Q (.bl (if neg then !(qs.any fun z => PyData.eqv z p) else qs.any fun z => PyData.eqv z p)) H
theorem op_inP (hu : X.A.units + 64 < cLine) : OpR X (compareOp .In) (rInP X.K false) := by
  intro pins s σ H x y v u Q I rx ry h
  obtain ⟨d, e, hd, he, sd, se, hm, q⟩ := h
  obtain ⟨as, r1⟩ := Dp.reads I d x v hd rx
  rcases he with he | he
  · obtain ⟨bs, r2⟩ := Dp.reads I _ y u he ry
    exact SeqAt.in_list_data r2 r1 se sd (by omega) ⟨.bl _, H, I, rfl, q⟩
  · obtain ⟨bs, r2⟩ := Dp.reads I _ y u he ry
    exact SeqAt.in_tuple_data r2 r1 se sd (by omega) ⟨.bl _, H, I, rfl, q⟩
theorem op_notInP (hu : X.A.units + 64 < cLine) : OpR X (compareOp .NotIn) (rInP X.K true) := by
  intro pins s σ H x y v u Q I rx ry h
  obtain ⟨d, e, hd, he, sd, se, hm, q⟩ := h
  obtain ⟨as, r1⟩ := Dp.reads I d x v hd rx
  rcases he with he | he
  · obtain ⟨bs, r2⟩ := Dp.reads I _ y u he ry
    exact SeqAt.notIn_list_data r2 r1 se sd (by omega) ⟨.bl _, H, I, rfl, q⟩
  · obtain ⟨bs, r2⟩ := Dp.reads I _ y u he ry
    exact SeqAt.notIn_tuple_data r2 r1 se sd (by omega) ⟨.bl _, H, I, rfl, q⟩
end
end DL

namespace DL
open PySem L2
section
variable {X : Cx} {C : CA}
/-! ### in -/
def lookD (ks : List (Key × D)) (k : Key) : Option D := (ks.find? fun p => decide (p.1 = k)).map (·.2)
theorem RpKV.look {K : PySem.W.Frag} {F : Hp} {kvs : List (Key × V)} {ks : List (Key × D)} (h : RpKV K C F kvs ks) (k : Key) : (valV kvs k = none ∧ lookD ks k = none) ∨ ∃ v d, valV kvs k = some v ∧ lookD ks k = some d ∧ Rp K C F v d := by
  induction kvs generalizing ks with
  | nil => cases h; exact .inl ⟨rfl, rfl⟩
  | cons p kvs ih =>
    cases h with
    | @cons k' v _ d ds h1 h2 =>
      by_cases e : k' = k
      · exact .inr ⟨v, d, valV_pos e, by simp [lookD, List.find?_cons, e], h1⟩
      · have e2 : lookD ((k', d) :: ds) k = lookD ds k := by simp [lookD, List.find?_cons, e]
        rw [valV_neg (show ¬ (k', v).1 = k from e), e2]
        exact ih h2
theorem hasK_look (ks : List (Key × D)) (k : Key) : hasK ks k = (lookD ks k).isSome := by
  induction ks with
  | nil => rfl
  | cons p ks ih =>
    by_cases e : p.1 = k
    · simp [hasK, lookD, List.find?_cons, e]
    · have : hasK (p :: ks) k = hasK ks k := by simp [hasK, e]
      rw [this, ih]
      simp [lookD, List.find?_cons, e]
theorem RpKV.has {K : PySem.W.Frag} {F : Hp} {kvs : List (Key × V)} {ks : List (Key × D)} (h : RpKV K C F kvs ks) (k : Key) : (valV kvs k).isSome = hasK ks k := by
  rw [hasK_look]
  rcases h.look k with ⟨h1, h2⟩ | ⟨v, d, h1, h2, _⟩ <;> rw [h1, h2] <;> rfl
def rDin (neg : Bool) : R2 := fun y x H Q => ∃ a o, x = .ref a ∧ DGet H a y o ∧ Q (.bl (if neg then !o.isSome else o.isSome)) H
theorem op_din (hu : X.A.units + 64 < cLine) : OpR X (compareOp .In) (rDin false) := by
  intro pins s σ H x y v u Q I rx ry h
  obtain ⟨a, o, rfl, g, q⟩ := h
  obtain rfl : u = Value.ref a := ry
  exact d_in (by omega) I g rx fun s3 I3 => ⟨.bl o.isSome, H, I3, rfl, q⟩
theorem op_dnotin (hu : X.A.units + 64 < cLine) : OpR X (compareOp .NotIn) (rDin true) := by
  intro pins s σ H x y v u Q I rx ry h
  obtain ⟨a, o, rfl, g, q⟩ := h
  obtain rfl : u = Value.ref a := ry
  exact d_notIn (by omega) I g rx fun s3 I3 => ⟨.bl (!o.isSome), H, I3, rfl, q⟩
theorem keyD_v {K : PySem.W.Frag} {F H : Hp} {v : V} {d : D} {k : Key} (h : Rb K C F H v d) (e : keyD d = some k) : v = kV k := by
  cases d <;> cases e
  · rw [h.int]; rfl
  · rw [h.str]; rfl
theorem inSeq {x : D} {xs : List D} {b : Bool} (h : (if plain x && plains xs && decide (min (dps xs) (dp x) ≤ 60) then some (anyE x xs) else none) = some b) : plain x = true ∧ plains xs = true ∧ min (dps xs) (dp x) ≤ 60 ∧ b = (toPys xs).any fun y => PyData.eqv y (toPy x) := by
  split at h
  · next q =>
    simp only [Bool.and_eq_true, decide_eq_true_eq] at q
    obtain ⟨⟨h1, h2⟩, h3⟩ := q
    cases h
    exact ⟨h1, h2, h3, any_py h1 h2⟩
  · cases h
theorem in_any {neg : Bool} {K : PySem.W.Frag} {F H : Hp} {x y : V} {dx dy : D} {b : Bool} {Q : VK} (s : Same F H) (rx : Rb K C F H x dx) (ry : Rb K C F H y dy) (e : inB dx dy = some b) (k : Q (.bl (if neg then !b else b)) H) :
    rInP K neg x y H Q ∨ rDin neg x y H Q ∨ ∃ i j, x = .str i ∧ y = .str j ∧ Q (.bl (if neg then !(!(Builtin.Str.occurrences j i 0 j.length 1).isEmpty) else !(Builtin.Str.occurrences j i 0 j.length 1).isEmpty)) H := by
  have d1 := dp_py dx
  cases dy <;> simp only [inB] at e <;> try (cases e; done)
  · -- a text
    rename_i t
    cases dx <;> try (cases e; done)
    cases e
    rw [rx.str, ry.str]
    exact .inr (.inr ⟨_, _, rfl, rfl, k⟩)
  · -- a list
    rename_i xs
    have d2 := dps_py xs
    obtain ⟨h1, h2, h3, rfl⟩ := inSeq e
    exact .inl ⟨_, _, rx.dp s h1, .inl (ry.dp (d := .lst xs) s h2), plain_py _ h1, plains_py _ h2, by omega, k⟩
  · rename_i xs
    have d2 := dps_py xs
    obtain ⟨h1, h2, h3, rfl⟩ := inSeq e
    exact .inl ⟨_, _, rx.dp s h1, .inr (ry.dp (d := .tup xs) s h2), plain_py _ h1, plains_py _ h2, by omega, k⟩
  · rename_i ks
    obtain ⟨kk, e1, e⟩ := Option.bind_eq_some_iff.mp e
    cases e
    obtain ⟨a, kvs, rfl, rd, rk⟩ := ry.dic s
    refine .inr (.inl ⟨a, valV kvs kk, rfl, .inl ⟨kvs, kk, rd, keyD_v rx e1, rfl⟩, ?_⟩)
    rw [rk.has]
    exact k
theorem od_in (hu : X.A.units + 64 < cLine) : OpD X C (compareOp .In) inD := by
  refine ⟨_, (op_inP hu).or ((op_din hu).or op_in_str), fun F H x y dx dy d Q s rx ry e k => ?_⟩
  obtain ⟨b, e1, e⟩ := Option.bind_eq_some_iff.mp e
  cases e
  exact in_any (neg := false) s rx ry e1 (k _ F H (Ext.rfl' s) (.bl _))
theorem od_notin (hu : X.A.units + 64 < cLine) : OpD X C (compareOp .NotIn) notInD := by
  refine ⟨_, (op_notInP hu).or ((op_dnotin hu).or op_notin_str), fun F H x y dx dy d Q s rx ry e k => ?_⟩
  obtain ⟨b, e1, e⟩ := Option.bind_eq_some_iff.mp e
  cases e
  exact in_any (neg := true) s rx ry e1 (k _ F H (Ext.rfl' s) (.bl _))
/-! ### numbers -/
def iiD (g : Int → Int → Option D) (x y : D) : Option D := match x with
  | .int i => (match y with
    | .int j => g i j
    | _ => none)
  | _ => none
theorem iiD_some {g : Int → Int → Option D} {x y d : D} (h : iiD g x y = some d) : ∃ i j, x = .int i ∧ y = .int j ∧ g i j = some d := by
  cases x <;> simp only [iiD] at h <;> try (cases h; done)
  cases y <;> try (cases h; done)
  exact ⟨_, _, rfl, rfl, h⟩
theorem od_ii {f : Value → Value → Sem Value} {Cn : Int → Int → Prop} {gv : Int → Int → V} {g : Int → Int → Option D} (h : OpR X f (rI Cn gv)) (hg : ∀ i j d, g i j = some d → Cn i j ∧ ∀ F, Rp X.K C F (gv i j) d) : OpD X C f (iiD g) := by
  refine ⟨_, h, fun F H x y dx dy d Q s rx ry e k => ?_⟩
  obtain ⟨i, j, rfl, rfl, e⟩ := iiD_some e
  obtain ⟨h1, h2⟩ := hg i j d e
  exact ⟨i, j, rx.int, ry.int, h1, k _ F H (Ext.rfl' s) (h2 F)⟩
theorem od_ii0 {f : Value → Value → Sem Value} {gv : Int → Int → V} {g : Int → Int → Option D} (h : OpR X f (rI0 gv)) (hg : ∀ i j d, g i j = some d → ∀ F, Rp X.K C F (gv i j) d) : OpD X C f (iiD g) := by
  refine ⟨_, h, fun F H x y dx dy d Q s rx ry e k => ?_⟩
  obtain ⟨i, j, rfl, rfl, e⟩ := iiD_some e
  exact ⟨i, j, rx.int, ry.int, k _ F H (Ext.rfl' s) (hg i j d e F)⟩
theorem OpD.or {f : Value → Value → Sem Value} {g g' : D → D → Option D} (h : OpD X C f g) (h' : OpD X C f g') : OpD X C f (fun x y => (g x y).or (g' x y)) := by
  obtain ⟨r, h1, h2⟩ := h
  obtain ⟨r', h1', h2'⟩ := h'
  refine ⟨_, h1.or h1', fun F H x y dx dy d Q s rx ry e k => ?_⟩
  cases q : g dx dy with
  | some z => simp only [q, Option.some_or] at e; cases e; exact .inl (h2 F H x y dx dy d Q s rx ry q k)
  | none => simp only [q, Option.none_or] at e; exact .inr (h2' F H x y dx dy d Q s rx ry e k)
def subD := iiD fun i j => some (.int (i - j))
theorem od_sub : OpD X C (binaryOp .Sub) subD := od_ii0 op_sub fun i j d e F => by cases e; exact .int _
def mulB (i j : Int) : Bool := (decide (-(2 ^ 64) < i) && decide (i < 2 ^ 64)) || (decide (-(2 ^ 64) < j) && decide (j < 2 ^ 64))
def mulD := iiD fun i j => if mulB i j then some (.int (i * j)) else none
theorem od_mulI : OpD X C (binaryOp .Mult) mulD := od_ii op_mul fun i j d e => by
  split at e
  · next q =>
    cases e
    simp only [mulB, Bool.or_eq_true, Bool.and_eq_true, decide_eq_true_eq] at q
    exact ⟨q, fun F => .int _⟩
  · cases e
def fdivD := iiD fun i j => if decide (j ≠ 0) && decide (j.natAbs < 1073741824) then some (.int (i.fdiv j)) else none
theorem od_fdiv : OpD X C (binaryOp .FloorDiv) fdivD := od_ii op_fdivN fun i j d e => by
  split at e
  · next q =>
    cases e
    simp only [Bool.and_eq_true, decide_eq_true_eq] at q
    exact ⟨q, fun F => .int _⟩
  · cases e
def modD := iiD fun i j => if j = 0 then none else some (.int (i.fmod j))
theorem od_mod : OpD X C (binaryOp .Mod) modD := od_ii op_modN fun i j d e => by
  split at e
  · cases e
  · next q => cases e; exact ⟨q, fun F => .int _⟩
def powB (i j : Int) : Bool := decide (0 ≤ j) && decide (j ≤ 1000000) && decide (i.natAbs < 2 ^ 64)
theorem powB_c {i j : Int} (q : powB i j = true) : CPow i j := by
  simp only [powB, Bool.and_eq_true, decide_eq_true_eq] at q
  exact ⟨q.1.1, q.1.2, q.2⟩
def powD := iiD fun i j => if powB i j then some (.int (i ^ j.toNat)) else none
def shlD := iiD fun i j => if powB i j then some (.int (i * 2 ^ j.toNat)) else none
theorem od_shl : OpD X C (binaryOp .LShift) shlD := od_ii op_shl fun i j d e => by
  split at e
  · next q => cases e; exact ⟨powB_c q, fun F => .int _⟩
  · cases e
def shrD := iiD fun i j => if 0 ≤ j then some (.int (i / 2 ^ j.toNat)) else none
theorem od_shr : OpD X C (binaryOp .RShift) shrD := od_ii op_shr fun i j d e => by
  split at e
  · next q => cases e; exact ⟨q, fun F => .int _⟩
  · cases e
def andD := iiD fun i j => some (.int (Builtin.bitAnd i j))
theorem od_and : OpD X C (binaryOp .BitAnd) andD := od_ii0 op_and fun i j d e F => by cases e; exact .int _
def ltD := iiD fun i j => some (.bl (decide (i < j)))
theorem od_lt : OpD X C (compareOp .Lt) ltD := od_ii0 op_lt fun i j d e F => by cases e; exact .bl _
def leD := iiD fun i j => some (.bl (decide (i ≤ j)))
theorem od_le : OpD X C (compareOp .LtE) leD := od_ii0 op_le fun i j d e F => by cases e; exact .bl _
def gtD := iiD fun i j => some (.bl (decide (j < i)))
theorem od_gt : OpD X C (compareOp .Gt) gtD := od_ii0 op_gt fun i j d e F => by cases e; exact .bl _
def geD := iiD fun i j => some (.bl (decide (j ≤ i)))
theorem od_ge : OpD X C (compareOp .GtE) geD := od_ii0 op_ge fun i j d e F => by cases e; exact .bl _
/-! ### + -/
def addII := iiD fun i j => some (.int (i + j))
def addSS (x y : D) : Option D := match x with
  | .str i => (match y with
    | .str j => gd (i.length + j.length) (some (.str (i ++ j)))
    | _ => none)
  | _ => none
def addLL (x y : D) : Option D := match x with
  | .lst i => (match y with
    | .lst j => gd (i.length + j.length) (some (.lst (i ++ j)))
    | _ => none)
  | _ => none
theorem od_addII : OpD X C (binaryOp .Add) addII := od_ii0 op_add fun i j d e F => by cases e; exact .int _
theorem od_addSS : OpD X C (binaryOp .Add) addSS := by
  refine ⟨_, op_add_str, fun F H x y dx dy d Q s rx ry e k => ?_⟩
  cases dx <;> simp only [addSS] at e <;> try (cases e; done)
  cases dy <;> try (cases e; done)
  obtain ⟨hl, e⟩ := gd_some e
  cases e
  exact ⟨_, _, rx.str, ry.str, hl, k _ F H (Ext.rfl' s) (.str _)⟩
theorem od_addLL : OpD X C (binaryOp .Add) addLL := by
  refine ⟨_, op_cat, fun F H x y dx dy d Q s rx ry e k => ?_⟩
  cases dx <;> simp only [addLL] at e <;> try (cases e; done)
  cases dy <;> try (cases e; done)
  obtain ⟨hl, e⟩ := gd_some e
  cases e
  obtain ⟨a, vs, rfl, h1, l1, r1⟩ := rx.lst s
  obtain ⟨b, ws, rfl, h2, l2, r2⟩ := ry.lst s
  have hl' : vs.length + ws.length ≤ sizeLine := by rw [r1.length, r2.length]; exact hl
  refine ⟨a, b, vs, ws, rfl, rfl, h1, h2, hl', fun p hp => ?_⟩
  have ex : Ext F H (upd F p (.lst (vs ++ ws))) (upd H p (.lst (vs ++ ws))) := Ext.laid s hp
  exact k _ _ _ ex (.lst upd_same (by rw [List.length_append]; exact hl') ((r1.app r2).mono ex.sub))
def addD (x y : D) : Option D := (addII x y).or ((addSS x y).or (addLL x y))
theorem od_add : OpD X C (binaryOp .Add) addD := od_addII.or (od_addSS.or od_addLL)
/-! ### is None -/
def isNon : D → Bool
  | .non => true
  | _ => false
def isND (x y : D) : Option D := match y with
  | .non => some (.bl (isNon x))
  | _ => none
def isNotND (x y : D) : Option D := match y with
  | .non => some (.bl (!isNon x))
  | _ => none
theorem rb_non {K : PySem.W.Frag} {F H : Hp} {v : V} {d : D} (h : Rb K C F H v d) : decide (v = .non) = isNon d := by
  rcases h with h | ⟨a, rfl, h⟩
  · cases h <;> simp [isNon]
  · cases d <;> simp only [Own] at h <;> simp [isNon]
theorem od_isN : OpD X C (compareOp .Is) isND := by
  refine ⟨_, op_isN, fun F H x y dx dy d Q s rx ry e k => ?_⟩
  cases dy <;> simp only [isND] at e <;> try (cases e; done)
  cases e
  refine ⟨ry.non, ?_⟩
  rw [rb_non rx]
  exact k _ F H (Ext.rfl' s) (.bl _)
theorem od_isNotN : OpD X C (compareOp .IsNot) isNotND := by
  refine ⟨_, op_notN, fun F H x y dx dy d Q s rx ry e k => ?_⟩
  cases dy <;> simp only [isNotND] at e <;> try (cases e; done)
  cases e
  refine ⟨ry.non, ?_⟩
  rw [rb_non rx]
  exact k _ F H (Ext.rfl' s) (.bl _)
/-- -x -/
def fNeg (f : EF) : EF := fun env => (f env).bind fun p => (rdB p.2 p.1).bind fun x => match x with
  | .int i => some (.val (.int (-i)), p.2)
  | _ => none
theorem de_neg {c : Cs} {a : Expr} {f : EF} {pos : Pos} (h : DE X C c a f) : DE X C c (.UnaryOp .USub a pos) (fNeg f) := by
  refine PE.imp (pe_un un_neg h) fun σ H Q ⟨z, F, env, b, env', S, e, k⟩ => ?_
  obtain ⟨⟨b1, e1⟩, h1, e⟩ := Option.bind_eq_some_iff.mp e
  obtain ⟨x, hx, e⟩ := Option.bind_eq_some_iff.mp e
  cases x <;> simp only at e <;> try (cases e; done)
  cases e
  exact ⟨z, F, env, b1, _, S, h1, fun v F1 H1 s1 S1 r1 => ⟨_, (r1.rb S1 hx).int, k _ F1 H1 s1 S1 (.int _)⟩⟩
/-! ### x[i] -/
def ixS (xs : List D) (i : Int) : Option D := atI xs i
def subSc (x y : D) : Option D := match x with
  | .lst xs => (match y with
    | .int i => atI xs i
    | _ => none)
  | .tup xs => (match y with
    | .int i => atI xs i
    | _ => none)
  | .scr ns => (match y with
    | .int i => (atI ns i).bind fun n => some (.int n)
    | _ => none)
  | .str t => (match y with
    | .int i => gd t.length ((atI t.cps.toList i).bind fun c => some (.str ⟨#[c]⟩))
    | _ => none)
  | .dic ks => (keyD y).bind fun k => lookD ks k
  | _ => none
theorem atI_rp {K : PySem.W.Frag} {F : Hp} {vs : List V} {ds : List D} (h : RpAll K C F vs ds) {i : Int} {d : D} (e : atI ds i = some d) : ∃ v, atI vs i = some v ∧ Rp K C F v d := by
  unfold atI at e ⊢
  rw [h.length]
  obtain ⟨j, h1, h2⟩ := Option.bind_eq_some_iff.mp e
  rw [h1]
  exact h.get' h2
theorem atI_map {α β : Type} (f : α → β) (xs : List α) (i : Int) : atI (xs.map f) i = (atI xs i).map f := by
  unfold atI
  rw [List.length_map]
  cases ixN xs.length i with
  | none => rfl
  | some j => simp
theorem de_ix {c : Cs} {a b : Expr} {f g : EF} {pos : Pos} (hu : X.A.units + 64 < cLine) (ha : DE X C c a f) (hb : DE X C c b g) (hs : PlainIx b := by exact fun _ _ => rfl) : DE X C c (.Subscript a b pos) (f2 subSc f g) := by
  refine PE.imp (PE.or (pe_ix ix_seq ha hb hs) (pe_dget (by omega) ha hb hs)) fun σ H Q ⟨z, F, env, b, env', S, e, k⟩ => ?_
  simp only [f2, Option.bind_eq_some_iff] at e
  obtain ⟨⟨b1, e1⟩, h1, ⟨b2, e2⟩, h2, x, hx, y, hy, d, hd, e⟩ := e
  cases e
  by_cases hdic : ∃ ks, x = .dic ks
  · obtain ⟨ks, rfl⟩ := hdic
    refine .inr ⟨z, F, env, b1, e1, S, h1, fun v F1 H1 s1 S1 r1 => ⟨z, F1, e1, b2, e2, S1, h2, fun w F2 H2 s2 S2 r2 => ?_⟩⟩
    have rx := (r1.mono s2).rb S2 hx
    have ry := r2.rb S2 hy
    obtain ⟨kk, q1, q2⟩ := Option.bind_eq_some_iff.mp hd
    obtain ⟨a, kvs, rfl, rd, rk⟩ := rx.dic S2.sub
    rcases rk.look kk with ⟨_, q⟩ | ⟨u, d', q3, q4, q5⟩
    · rw [q] at q2; cases q2
    · rw [q2] at q4; cases q4
      exact ⟨a, u, rfl, .inl ⟨kvs, kk, rd, keyD_v ry q1, q3.symm⟩, k u F2 H2 (s1.trans s2) S2 q5⟩
  · refine .inl ⟨z, F, env, b1, e1, S, h1, fun v F1 H1 s1 S1 r1 => ⟨z, F1, e1, b2, e2, S1, h2, fun w F2 H2 s2 S2 r2 => ?_⟩⟩
    have rx := (r1.mono s2).rb S2 hx
    have ry := r2.rb S2 hy
    have fin : ∀ u, Rp X.K C F2 u d → Q u H2 := fun u r => k u F2 H2 (s1.trans s2) S2 r
    cases x <;> simp only [subSc] at hd <;> try (cases hd; done)
    · rename_i t
      cases y <;> simp only at hd <;> try (cases hd; done)
      obtain ⟨hl, hd⟩ := gd_some hd
      obtain ⟨cc, q, e⟩ := Option.bind_eq_some_iff.mp hd
      cases e
      exact .inr (.inr ⟨t, _, cc, rx.str, ry.int, hl, q, fin _ (.str _)⟩)
    · cases y <;> simp only at hd <;> try (cases hd; done)
      obtain ⟨a, vs, rfl, q, ql, r⟩ := rx.lst S2.sub
      obtain ⟨u, hu, ru⟩ := atI_rp r hd
      exact .inl ⟨a, vs, _, u, rfl, ry.int, SqL.of q, hu, fin u ru⟩
    · cases y <;> simp only at hd <;> try (cases hd; done)
      obtain ⟨a, vs, rfl, q, ql, r⟩ := rx.tup S2.sub
      obtain ⟨u, hu, ru⟩ := atI_rp r hd
      exact .inr (.inl ⟨a, vs, _, u, rfl, ry.int, q, hu, fin u ru⟩)
    · exact absurd ⟨_, rfl⟩ hdic
    · cases y <;> simp only at hd <;> try (cases hd; done)
      obtain ⟨n, q, e⟩ := Option.bind_eq_some_iff.mp hd
      cases e
      obtain ⟨a, rfl, q2⟩ := rx.scr S2.sub
      exact .inl ⟨a, _, _, .int n, rfl, ry.int, q2, by rw [atI_map, q]; rfl, fin _ (.int n)⟩
end
end DL

namespace DL
open PySem L2
/-! ### built-ins by name -/
inductive RbAll (K : PySem.W.Frag) (C : CA) (F H : Hp) : List V → List D → Prop
  | nil : RbAll K C F H [] []
  | cons {v : V} {vs : List V} {d : D} {ds : List D} : Rb K C F H v d → RbAll K C F H vs ds → RbAll K C F H (v :: vs) (d :: ds)
def rdAll (env : Env) : List B → Option (List D)
  | [] => some []
  | b :: bs => (rdB env b).bind fun d => (rdAll env bs).bind fun ds => some (d :: ds)
theorem RBs.rb {K : PySem.W.Frag} {C : CA} {c : Cs} {z : Zn} {F : Hp} {env : Env} {σ : St} {H : Hp} (S : SR K C c z F env σ H) : ∀ {vs : List V} {bs : List B} {ds : List D}, RBs K C c F σ vs bs → rdAll env bs = some ds → RbAll K C F H vs ds
  | _, _, _, .nil, e => by cases e; exact .nil
  | _, _, _, .cons h t, e => by
    obtain ⟨d, h1, e⟩ := Option.bind_eq_some_iff.mp e
    obtain ⟨ds, h2, e⟩ := Option.bind_eq_some_iff.mp e
    cases e
    exact .cons (h.rb S h1) (RBs.rb S t h2)
def CallD (X : Cx) (C : CA) (fv : Value) (op : List D → Option D) : Prop := ∃ r, CallR X fv r ∧
  ∀ F H vs ds d Q, Same F H → RbAll X.K C F H vs ds → op ds = some d → (∀ v F' H', Ext F H F' H' → Rp X.K C F' v d → Q v H') → r vs H Q
/-- the answer is a new object -/
def CallO (X : Cx) (C : CA) (fv : Value) (op : List D → Option D) : Prop := ∃ r, CallR X fv r ∧
  ∀ F H vs ds d Q, Same F H → RbAll X.K C F H vs ds → op ds = some d → (∀ p o, H p = none → Own X.K C F (upd H p o) p d → Q (.ref p) (upd H p o)) → r vs H Q
def fB (op : List D → Option D) (fa : AF) : EF := fun env => (fa env).bind fun p => (rdAll p.2 p.1).bind fun ds => (op ds).bind fun d => some (.val d, p.2)
def oB (op : List D → Option D) (fa : AF) : OF := fun env => (fa env).bind fun p => (rdAll p.2 p.1).bind fun ds => (op ds).bind fun d => some (d, p.2)
section
variable {m : Bool} {X : Cx} {C : CA} {c : Cs} {e a b : Expr} {es : List Expr} {fa : AF} {f g : EF} {op : List D → Option D} {pos p : Pos} {x : Str} {id T : String}
theorem de_bi (h : CallD X C (.builtin id) op) (hm : X.mg x = none) (hv : bootBuiltins x = some (.builtin id)) (ha : DA X C c (e :: es) fa) (hg : Gl X x := by rfl) (hn : x ≠ "__name__" := by decide) (hdb : (x == ("__debug__" : Str)) = false := by decide)
    (he : starEach (e :: es) X.env = (false, eval e X.env) :: starEach es X.env := by rfl) (hpl : (backTo pos (starEach es X.env)).any (·.1) = false := by rfl) : DE X C c (.Call (.Name x p) (e :: es) [] pos) (fB op fa) := by
  obtain ⟨r, hr, hw⟩ := h
  refine PE.imp (pe_callB hr hg hm hv ha hn hdb he hpl) fun σ H Q ⟨z, F, env, b, env', S, e, k⟩ => ?_
  simp only [fB, Option.bind_eq_some_iff] at e
  obtain ⟨⟨bs, e1⟩, h1, ds, h2, d, h3, e⟩ := e
  cases e
  exact ⟨z, F, env, bs, e1, S, h1, fun vs F1 H1 s1 S1 r1 => hw F1 H1 vs ds d Q S1.sub (r1.rb S1 h2) h3 fun v F2 H2 ex r2 => k v F2 H2 (s1.trans ex.sub) (S1.ext ex) r2⟩
theorem de_ty (h : CallD X C (.type T) op) (hm : X.mg x = none) (hv : bootBuiltins x = some (.type T)) (ha : DA X C c (e :: es) fa) (hg : Gl X x := by rfl) (hn : x ≠ "__name__" := by decide) (hdb : (x == ("__debug__" : Str)) = false := by decide)
    (he : starEach (e :: es) X.env = (false, eval e X.env) :: starEach es X.env := by rfl) (hpl : (backTo pos (starEach es X.env)).any (·.1) = false := by rfl) : DE X C c (.Call (.Name x p) (e :: es) [] pos) (fB op fa) := by
  obtain ⟨r, hr, hw⟩ := h
  refine PE.imp (pe_callTy hr hg hm hv ha hn hdb he hpl) fun σ H Q ⟨z, F, env, b, env', S, e, k⟩ => ?_
  simp only [fB, Option.bind_eq_some_iff] at e
  obtain ⟨⟨bs, e1⟩, h1, ds, h2, d, h3, e⟩ := e
  cases e
  exact ⟨z, F, env, bs, e1, S, h1, fun vs F1 H1 s1 S1 r1 => hw F1 H1 vs ds d Q S1.sub (r1.rb S1 h2) h3 fun v F2 H2 ex r2 => k v F2 H2 (s1.trans ex.sub) (S1.ext ex) r2⟩
theorem do_bi (h : CallO X C (.builtin id) op) (hm : X.mg x = none) (hv : bootBuiltins x = some (.builtin id)) (ha : DA X C c (e :: es) fa) (hg : Gl X x := by rfl) (hn : x ≠ "__name__" := by decide) (hdb : (x == ("__debug__" : Str)) = false := by decide)
    (he : starEach (e :: es) X.env = (false, eval e X.env) :: starEach es X.env := by rfl) (hpl : (backTo pos (starEach es X.env)).any (·.1) = false := by rfl) : DO X C c (.Call (.Name x p) (e :: es) [] pos) (oB op fa) := by
  obtain ⟨r, hr, hw⟩ := h
  refine PE.imp (pe_callB hr hg hm hv ha hn hdb he hpl) fun σ H Q ⟨z, F, env, b, env', S, e, k⟩ => ?_
  simp only [oB, Option.bind_eq_some_iff] at e
  obtain ⟨⟨bs, e1⟩, h1, ds, h2, d, h3, e⟩ := e
  cases e
  exact ⟨z, F, env, bs, e1, S, h1, fun vs F1 H1 s1 S1 r1 => hw F1 H1 vs ds _ Q S1.sub (r1.rb S1 h2) h3 fun p o hp ow => by
    obtain ⟨S2, fp, zp, ap, ng⟩ := S1.newO (o := o) hp
    exact k p F1 _ s1 S2 fp zp ow ap ng⟩
theorem do_ty (h : CallO X C (.type T) op) (hm : X.mg x = none) (hv : bootBuiltins x = some (.type T)) (ha : DA X C c (e :: es) fa) (hg : Gl X x := by rfl) (hn : x ≠ "__name__" := by decide) (hdb : (x == ("__debug__" : Str)) = false := by decide)
    (he : starEach (e :: es) X.env = (false, eval e X.env) :: starEach es X.env := by rfl) (hpl : (backTo pos (starEach es X.env)).any (·.1) = false := by rfl) : DO X C c (.Call (.Name x p) (e :: es) [] pos) (oB op fa) := by
  obtain ⟨r, hr, hw⟩ := h
  refine PE.imp (pe_callTy hr hg hm hv ha hn hdb he hpl) fun σ H Q ⟨z, F, env, b, env', S, e, k⟩ => ?_
  simp only [oB, Option.bind_eq_some_iff] at e
  obtain ⟨⟨bs, e1⟩, h1, ds, h2, d, h3, e⟩ := e
  cases e
  exact ⟨z, F, env, bs, e1, S, h1, fun vs F1 H1 s1 S1 r1 => hw F1 H1 vs ds _ Q S1.sub (r1.rb S1 h2) h3 fun p o hp ow => by
    obtain ⟨S2, fp, zp, ap, ng⟩ := S1.newO (o := o) hp
    exact k p F1 _ s1 S2 fp zp ow ap ng⟩
/-! ### len -/
theorem call_lenRd : CallR X (.builtin "len") (fun xs H Q => ∃ a kvs, xs = [V.ref a] ∧ Rd H a (.dK kvs) ∧ Q (.int kvs.length) H) := by
  intro pins s σ H xs us Q I r h
  obtain ⟨a, kvs, rfl, ha, q⟩ := h
  obtain ⟨u, rfl, ru⟩ := vals1 r
  cases ru
  exact d_len I ha fun t s' I' => ⟨.int kvs.length, H, I', ⟨t, rfl⟩, q⟩
theorem RpKV.length {K : PySem.W.Frag} {F : Hp} {kvs : List (Key × V)} {ks : List (Key × D)} (h : RpKV K C F kvs ks) : kvs.length = ks.length := by
  induction kvs generalizing ks with
  | nil => cases h; rfl
  | cons p kvs ih => cases h with | cons h1 h2 => simp [ih h2]
def lenOf : D → Option Int
  | .lst xs => some (xs.length : Int)
  | .tup xs => some (xs.length : Int)
  | .scr ns => some (ns.length : Int)
  | .dic ks => some (ks.length : Int)
  | .str t => gd t.length (some (t.length : Int))
  | _ => none
def lenD : List D → Option D
  | [x] => (lenOf x).bind fun n => some (.int n)
  | _ => none
theorem cd_len : CallD X C (.builtin "len") lenD := by
  refine ⟨_, call_len_seq.or (call_len_str.or call_lenRd), fun F H vs ds d Q s r e k => ?_⟩
  cases r with
  | nil => cases e
  | cons r1 r2 =>
    cases r2 with
    | cons _ _ => cases e
    | nil =>
      obtain ⟨n, h1, e⟩ := Option.bind_eq_some_iff.mp e
      cases e
      have fin : Q (.int n) H := k _ F H (Ext.rfl' s) (.int n)
      rename_i v d
      cases d <;> simp only [lenOf] at h1 <;> try (cases h1; done)
      · obtain ⟨hl, h1⟩ := gd_some h1
        cases h1
        exact .inr (.inl ⟨_, by rw [r1.str], hl, fin⟩)
      · cases h1
        obtain ⟨a, vs, rfl, q, ql, r⟩ := r1.lst s
        exact .inl ⟨a, vs, rfl, .inl (SqL.of q), by rw [r.length]; exact fin⟩
      · cases h1
        obtain ⟨a, vs, rfl, q, ql, r⟩ := r1.tup s
        exact .inl ⟨a, vs, rfl, .inr q, by rw [r.length]; exact fin⟩
      · cases h1
        obtain ⟨a, kvs, rfl, q, r⟩ := r1.dic s
        exact .inr (.inr ⟨a, kvs, rfl, q, by rw [r.length]; exact fin⟩)
      · cases h1
        obtain ⟨a, rfl, q⟩ := r1.scr s
        exact .inl ⟨a, _, rfl, .inl q, by rw [List.length_map]; exact fin⟩
/-! ### abs, int, max, min -/
def absD : List D → Option D
  | [.int i] => some (.int (if i < 0 then -i else i))
  | _ => none
theorem cd_abs : CallD X C (.builtin "abs") absD := by
  refine ⟨_, call_abs, fun F H vs ds d Q s r e k => ?_⟩
  unfold absD at e
  split at e
  · next i =>
    cases e
    cases r with
    | cons r1 r2 => cases r2; exact ⟨i, by rw [r1.int], k _ F H (Ext.rfl' s) (.int _)⟩
  · cases e
def intD : List D → Option D
  | [.int i] => some (.int i)
  | [.bl b] => some (.int (if b then 1 else 0))
  | _ => none
theorem cd_int : CallD X C (.type "int") intD := by
  refine ⟨_, call_int1, fun F H vs ds d Q s r e k => ?_⟩
  unfold intD at e
  split at e
  · next i =>
    cases e
    cases r with
    | cons r1 r2 => cases r2; exact .inl ⟨i, by rw [r1.int], k _ F H (Ext.rfl' s) (.int _)⟩
  · next i =>
    cases e
    cases r with
    | cons r1 r2 => cases r2; exact .inr ⟨i, by rw [r1.bl], k _ F H (Ext.rfl' s) (.int _)⟩
  · cases e
/-- the ints of a list of data -/
def intsD : List D → Option (List Int)
  | [] => some []
  | .int i :: ds => (intsD ds).bind fun ns => some (i :: ns)
  | _ => none
theorem intsD_rp {K : PySem.W.Frag} {F : Hp} : ∀ {vs : List V} {ds : List D} {ns : List Int}, RpAll K C F vs ds → intsD ds = some ns → vs = ns.map V.int
  | _, _, _, .nil, e => by cases e; rfl
  | _, d :: ds, _, .cons h t, e => by
    cases d <;> simp only [intsD] at e <;> try (cases e; done)
    obtain ⟨ns, h1, e⟩ := Option.bind_eq_some_iff.mp e
    cases e
    cases h
    rw [List.map_cons, intsD_rp t h1]
theorem intsD_eq : ∀ {ds : List D} {ns : List Int}, intsD ds = some ns → ds = ns.map D.int
  | [], _, e => by cases e; rfl
  | d :: ds, _, e => by
    cases d <;> simp only [intsD] at e <;> try (cases e; done)
    obtain ⟨ns, h1, e⟩ := Option.bind_eq_some_iff.mp e
    cases e
    rw [List.map_cons, ← intsD_eq h1]
theorem rp_ints {K : PySem.W.Frag} {F : Hp} : ∀ (ns : List Int), RpAll K C F (ns.map V.int) (ns.map D.int)
  | [] => .nil
  | n :: ns => .cons (.int n) (rp_ints ns)
def maxI : List Int → Int
  | [] => 0
  | n :: ns => ns.foldl max n
def minI : List Int → Int
  | [] => 0
  | n :: ns => ns.foldl min n
theorem foldl_min (ns : List Int) : ∀ n : Int, ns.foldl min n ≤ n ∧ (∀ y ∈ ns, ns.foldl min n ≤ y) ∧ (ns.foldl min n = n ∨ ns.foldl min n ∈ ns) := by
  induction ns with
  | nil => intro n; exact ⟨Int.le_refl _, fun _ h => (nomatch h), .inl rfl⟩
  | cons m ns ih =>
    intro n
    obtain ⟨h1, h2, h3⟩ := ih (min n m)
    refine ⟨by simp only [List.foldl_cons]; omega, fun y hy => ?_, ?_⟩
    · simp only [List.foldl_cons]
      rcases List.mem_cons.mp hy with q | q
      · subst q; omega
      · exact h2 y q
    · simp only [List.foldl_cons]
      rcases h3 with q | q
      · by_cases hnm : m ≤ n
        · right; rw [q, Int.min_eq_right hnm]; exact List.mem_cons_self ..
        · left; rw [q]; omega
      · right; exact List.mem_cons_of_mem _ q
theorem minI_le {ns : List Int} {y : Int} (h : y ∈ ns) : minI ns ≤ y := by
  cases ns with
  | nil => cases h
  | cons n ns =>
    rcases List.mem_cons.mp h with q | q
    · subst q; exact (foldl_min ns _).1
    · exact (foldl_min ns n).2.1 y q
theorem minI_mem {ns : List Int} (h : ns ≠ []) : minI ns ∈ ns := by
  cases ns with
  | nil => exact absurd rfl h
  | cons n ns =>
    rcases (foldl_min ns n).2.2 with q | q
    · show ns.foldl min n ∈ _; rw [q]; exact List.mem_cons_self ..
    · exact List.mem_cons_of_mem _ q
/-- of a list of data that is not empty, all ints -/
def intsNE (ds : List D) : Option (List Int) := (intsD ds).bind fun ns => match ns with
  | [] => none
  | n :: ns => some (n :: ns)
theorem intsNE_some {ds : List D} {ns : List Int} (h : intsNE ds = some ns) : intsD ds = some ns ∧ ns ≠ [] := by
  obtain ⟨ms, h1, h⟩ := Option.bind_eq_some_iff.mp h
  cases ms with
  | nil => cases h
  | cons _ _ => cases h; exact ⟨h1, by simp⟩
def maxD : List D → Option D
  | [.int i, .int j] => some (.int (if j > i then j else i))
  | [.lst ds] => (intsNE ds).bind fun ns => some (.int (maxI ns))
  | _ => none
def minD : List D → Option D
  | [.int i, .int j] => some (.int (if j < i then j else i))
  | [.lst ds] => (intsNE ds).bind fun ns => some (.int (minI ns))
  | _ => none
theorem cd_min (hc : X.calm = true) : CallD X C (.builtin "min") minD := by
  refine ⟨_, (call_min2 hc).or (cr_min hc), fun F H vs ds d Q s r e k => ?_⟩
  unfold minD at e
  split at e
  · next i j =>
    cases e
    cases r with
    | cons r1 r2 => cases r2 with
      | cons r2 r3 => cases r3; exact .inl ⟨i, j, by rw [r1.int, r2.int], k _ F H (Ext.rfl' s) (.int _)⟩
  · next ds =>
    obtain ⟨ns, h1, e⟩ := Option.bind_eq_some_iff.mp e
    cases e
    obtain ⟨h1, hne⟩ := intsNE_some h1
    cases r with
    | cons r1 r2 =>
      cases r2
      obtain ⟨a, vs, rfl, q, ql, r⟩ := r1.lst s
      have ev := intsD_rp r h1
      subst ev
      refine .inr ⟨a, ns, rfl, SqL.of q, List.length_pos_iff.mpr hne, fun m hm hle => ?_⟩
      have : m = minI ns := Int.le_antisymm (hle _ (minI_mem hne)) (minI_le hm)
      rw [this]
      exact k _ F H (Ext.rfl' s) (.int _)
  · cases e
/-! ### sum, all, any -/
def sumD : List D → Option D
  | [.lst ds] => (intsD ds).bind fun ns => some (.int ns.sum)
  | _ => none
def blsD : List D → Option (List Bool)
  | [] => some []
  | .bl i :: ds => (blsD ds).bind fun ns => some (i :: ns)
  | _ => none
theorem blsD_rp {K : PySem.W.Frag} {F : Hp} : ∀ {vs : List V} {ds : List D} {ns : List Bool}, RpAll K C F vs ds → blsD ds = some ns → vs = ns.map V.bl
  | _, _, _, .nil, e => by cases e; rfl
  | _, d :: ds, _, .cons h t, e => by
    cases d <;> simp only [blsD] at e <;> try (cases e; done)
    obtain ⟨ns, h1, e⟩ := Option.bind_eq_some_iff.mp e
    cases e
    cases h
    rw [List.map_cons, blsD_rp t h1]
def allD : List D → Option D
  | [.lst ds] => (blsD ds).bind fun ns => some (.bl (ns.all _root_.id))
  | _ => none
def anyD : List D → Option D
  | [.lst ds] => (blsD ds).bind fun ns => some (.bl (ns.any _root_.id))
  | _ => none
theorem cd_all (hc : X.calm = true) : CallD X C (.builtin "all") allD := by
  refine ⟨_, cr_all hc, fun F H vs ds d Q s r e k => ?_⟩
  unfold allD at e
  split at e
  · next ds =>
    obtain ⟨ns, h1, e⟩ := Option.bind_eq_some_iff.mp e
    cases e
    cases r with
    | cons r1 r2 =>
      cases r2
      obtain ⟨a, vs, rfl, q, ql, r⟩ := r1.lst s
      have ev := blsD_rp r h1
      subst ev
      exact ⟨a, ns, rfl, SqL.of q, k _ F H (Ext.rfl' s) (.bl _)⟩
  · cases e
/-! ### list(), tuple() -/
def listD : List D → Option D
  | [.lst ds] => some (.lst ds)
  | [.tup ds] => some (.lst ds)
  | _ => none
theorem co_list : CallO X C (.type "list") listD := by
  refine ⟨_, call_list_of, fun F H vs ds d Q s r e k => ?_⟩
  unfold listD at e
  split at e
  · next ds =>
    cases e
    cases r with
    | cons r1 r2 =>
      cases r2
      obtain ⟨a, vs, rfl, q, ql, r⟩ := r1.lst s
      exact ⟨a, vs, rfl, .inl (SqL.of q), fun l hl => k l _ hl ⟨vs, upd_same, ql, r⟩⟩
  · next ds =>
    cases e
    cases r with
    | cons r1 r2 =>
      cases r2
      obtain ⟨a, vs, rfl, q, ql, r⟩ := r1.tup s
      exact ⟨a, vs, rfl, .inr q, fun l hl => k l _ hl ⟨vs, upd_same, ql, r⟩⟩
  · cases e
def tupleD : List D → Option D
  | [.lst ds] => some (.tup ds)
  | [.tup ds] => some (.tup ds)
  | _ => none
theorem cd_tuple : CallD X C (.type "tuple") tupleD := by
  refine ⟨_, call_tuple_of, fun F H vs ds d Q s r e k => ?_⟩
  unfold tupleD at e
  split at e
  · next ds =>
    cases e
    cases r with
    | cons r1 r2 =>
      cases r2
      obtain ⟨a, vs, rfl, q, ql, r⟩ := r1.lst s
      refine ⟨a, vs, rfl, .inl ⟨SqL.of q, fun l hl => ?_⟩⟩
      have ex : Ext F H (upd F l (.tup vs)) (upd H l (.tup vs)) := Ext.laid s hl
      exact k _ _ _ ex (.tup (SqT.of upd_same) ql (r.mono ex.sub))
  · next ds =>
    cases e
    cases r with
    | cons r1 r2 =>
      cases r2
      rcases r1 with r1 | ⟨a, rfl, r1⟩
      · cases r1 with
        | tup h1 hl h2 => exact ⟨_, _, rfl, .inr ⟨SqT.sub s h1, k _ F H (Ext.rfl' s) (.tup h1 hl h2)⟩⟩
      · exact r1.elim
  · cases e
/-! ### sorted of ints -/
def insI (n : Int) : List Int → List Int
  | [] => [n]
  | m :: ms => if n ≤ m then n :: m :: ms else m :: insI n ms
def sortI : List Int → List Int
  | [] => []
  | n :: ns => insI n (sortI ns)
theorem insI_perm (n : Int) : ∀ ns : List Int, (insI n ns).Perm (n :: ns)
  | [] => .refl _
  | m :: ms => by
    unfold insI
    split
    · exact .refl _
    · exact ((insI_perm n ms).cons m).trans (.swap n m ms)
theorem sortI_perm : ∀ ns : List Int, (sortI ns).Perm ns
  | [] => .refl _
  | n :: ns => (insI_perm n (sortI ns)).trans ((sortI_perm ns).cons n)
theorem insI_sorted (n : Int) : ∀ ns : List Int, ns.Pairwise (· ≤ ·) → (insI n ns).Pairwise (· ≤ ·)
  | [], _ => List.pairwise_singleton _ _
  | m :: ms, h => by
    unfold insI
    have h' := List.pairwise_cons.mp h
    split
    · next q =>
      refine List.pairwise_cons.mpr ⟨fun y hy => ?_, h⟩
      rcases List.mem_cons.mp hy with z | z
      · subst z; exact q
      · have := h'.1 y z; omega
    · next q =>
      refine List.pairwise_cons.mpr ⟨fun y hy => ?_, insI_sorted n ms h'.2⟩
      have hy' := (insI_perm n ms).mem_iff.mp hy
      rcases List.mem_cons.mp hy' with z | z
      · subst z; omega
      · exact h'.1 y z
theorem sortI_sorted : ∀ ns : List Int, (sortI ns).Pairwise (· ≤ ·)
  | [] => .nil
  | n :: ns => insI_sorted n _ (sortI_sorted ns)
theorem sorted_unique : ∀ {xs ys : List Int}, xs.Perm ys → xs.Pairwise (· ≤ ·) → ys.Pairwise (· ≤ ·) → xs = ys
  | [], ys, p, _, _ => (List.Perm.nil_eq p)
  | x :: xs, [], p, _, _ => by have := p.length_eq; simp at this
  | x :: xs, y :: ys, p, hx, hy => by
    have hx' := List.pairwise_cons.mp hx
    have hy' := List.pairwise_cons.mp hy
    have e : x = y := by
      have h1 : x ∈ y :: ys := p.mem_iff.mp (List.mem_cons_self ..)
      have h2 : y ∈ x :: xs := p.mem_iff.mpr (List.mem_cons_self ..)
      have a1 : y ≤ x := by
        rcases List.mem_cons.mp h1 with q | q
        · rw [q]; exact Int.le_refl _
        · exact hy'.1 x q
      have a2 : x ≤ y := by
        rcases List.mem_cons.mp h2 with q | q
        · rw [q]; exact Int.le_refl _
        · exact hx'.1 y q
      exact Int.le_antisymm a2 a1
    subst e
    rw [sorted_unique (List.perm_cons x |>.mp p) hx'.2 hy'.2]
def sortedI : List D → Option D
  | [.lst ds] => (intsD ds).bind fun ns => some (.lst ((sortI ns).map D.int))
  | _ => none
end
end DL

namespace DL
open PySem L2
section
variable {m : Bool} {X : Cx} {C : CA} {c : Cs} {e a b o : Expr} {es : List Expr} {fa : AF} {f g : EF} {pos p apos cpos : Pos} {x : Str} {id T : String} {name : Str}
/-! ### methods that turn a slot's own object -/
def MtD (X : Cx) (C : CA) (id : String) (op : D → List D → Option (D × D)) : Prop := ∃ r, MtR X id r ∧
  ∀ F H a dc vs ds res dc' Q, Same F H → Own X.K C F H a dc → RpAll X.K C F vs ds → op dc ds = some (res, dc') → (∀ v u, Own X.K C F (upd H a u) a dc' → Rp X.K C F v res → Q v (upd H a u)) → r (.ref a) vs H Q
def isLst : D → Bool
  | .lst _ => true
  | _ => false
def fMt (i : Nat) (op : D → List D → Option (D × D)) (fa : AF) : EF := fun env => (gt env i).bind fun d0 => if isLst d0 = true then (fa env).bind fun p => (vals p.1).bind fun ds => (gt p.2 i).bind fun dc => (op dc ds).bind fun r => some (.val r.1, st p.2 i (some r.2)) else none
theorem Own.isL {K : PySem.W.Frag} {F H : Hp} {a : Addr} {d : D} (h : Own K C F H a d) (hl : isLst d = true) : ∃ vs, SqL K H a vs := by
  cases d <;> cases hl
  obtain ⟨vs, h1, _⟩ := h
  exact ⟨vs, SqL.of h1⟩
theorem de_mt (i : Nat) {op : D → List D → Option (D × D)} (h : MtD X C id op) (slot : Slot "list" name id) (hty : typeOf (.builtin id) = pure (.type "method_descriptor")) (ha : DA X C c (e :: es) fa)
    (hO : i ∈ c.O := by decide) (hN : X.N[i]? = some x := by rfl) (hv : Vis X.env.scope x := by first | exact Or.inl rfl | exact Or.inr (Or.inl rfl) | exact Or.inr (Or.inr rfl)) (hd : (x == ("__debug__" : Str)) = false := by decide) (hcd : (x == ("__classdict__" : Str)) = false := by decide)
    (hbase : attributeBase (.Name x p) name X.env (eval (.Name x p) X.env) = eval (.Name x p) X.env := by rfl)
    (hfew : ((backTo cpos (starEach (e :: es) X.env)).all (fun x => !x.1) && (backToKw cpos (keywordEach [] X.env)).all (fun x => x.1.isSome)
      && decide ((e :: es).length + ([] : List Keyword).length + (if ([] : List Keyword).isEmpty then 0 else 1) < 30)) = true := by rfl)
    (hline : (apos.endLine == cpos.line) = true := by rfl) (hs : starEach (e :: es) X.env = (false, eval e X.env) :: starEach es X.env := by rfl) (hplain : (backTo cpos (starEach es X.env)).any (·.1) = false := by rfl) :
    DE X C c (.Call (.Attribute (.Name x p) name apos) (e :: es) [] cpos) (fMt i op fa) := by
  obtain ⟨r, hr, hw⟩ := h
  refine PE.imp (pe_bm PySem.F.plainAttrs_list slot hty hr (pe_var hN hv hd hcd) ha hbase hfew hline hs hplain) fun σ H Q ⟨z, F, env, b, env', S, e, k⟩ => ?_
  obtain ⟨d0, h0, e⟩ := Option.bind_eq_some_iff.mp e
  split at e
  case isFalse => cases e
  next hl =>
  simp only [Option.bind_eq_some_iff] at e
  obtain ⟨⟨bs, e1⟩, h1, ds, h2, dc, h3, ⟨res, dc'⟩, h4, e⟩ := e
  cases e
  obtain ⟨a, ha, _, ow, _⟩ := S.own i d0 h0 hO
  refine ⟨_, ha, .inl ⟨rfl, ow.isL hl⟩, z, F, env, bs, e1, S, h1, fun vs F1 H1 s1 S1 r1 => ?_⟩
  obtain ⟨a', ha', _, ow1, _⟩ := S1.own i dc h3 hO
  rw [ha] at ha'; cases ha'
  exact hw F1 H1 a dc vs ds res dc' Q S1.sub ow1 (vals_rp r1 h2) h4 fun v u ow2 rv => k v F1 _ s1 (S1.write hO h3 ha ow2) rv
theorem de_mt0 (i : Nat) {op : D → List D → Option (D × D)} (h : MtD X C id op) (slot : Slot "list" name id) (hty : typeOf (.builtin id) = pure (.type "method_descriptor"))
    (hO : i ∈ c.O := by decide) (hN : X.N[i]? = some x := by rfl) (hv : Vis X.env.scope x := by first | exact Or.inl rfl | exact Or.inr (Or.inl rfl) | exact Or.inr (Or.inr rfl)) (hd : (x == ("__debug__" : Str)) = false := by decide) (hcd : (x == ("__classdict__" : Str)) = false := by decide)
    (hbase : attributeBase (.Name x p) name X.env (eval (.Name x p) X.env) = eval (.Name x p) X.env := by rfl) (hline : (apos.endLine == cpos.line) = true := by rfl) :
    DE X C c (.Call (.Attribute (.Name x p) name apos) [] [] cpos) (fMt i op aN) := by
  obtain ⟨r, hr, hw⟩ := h
  refine PE.imp (pe_bm0 PySem.F.plainAttrs_list slot hty hr (pe_var hN hv hd hcd) hbase hline) fun σ H Q ⟨z, F, env, b, env', S, e, k⟩ => ?_
  obtain ⟨d0, h0, e⟩ := Option.bind_eq_some_iff.mp e
  split at e
  case isFalse => cases e
  next hl =>
  simp only [Option.bind_eq_some_iff] at e
  obtain ⟨⟨bs, e1⟩, h1, ds, h2, dc, h3, ⟨res, dc'⟩, h4, e⟩ := e
  cases e
  cases h1
  cases h2
  rw [h0] at h3; cases h3
  obtain ⟨a, ha, _, ow, _⟩ := S.own i d0 h0 hO
  exact ⟨_, ha, .inl ⟨rfl, ow.isL hl⟩, hw F H a d0 [] [] res dc' Q S.sub ow .nil h4 fun v u ow2 rv => k v F _ (Same.refl _) (S.write hO h0 ha ow2) rv⟩
def appD (dc : D) (ds : List D) : Option (D × D) := match dc with
  | .lst xs => (match ds with
    | [d] => gd (xs.length + 1) (some (.non, .lst (xs ++ [d])))
    | _ => none)
  | _ => none
theorem md_append : MtD X C "list.append" appD := by
  refine ⟨_, mt_append, fun F H a dc vs ds res dc' Q s ow r e k => ?_⟩
  cases dc <;> simp only [appD] at e <;> try (cases e; done)
  split at e
  case h_2 => cases e
  next d =>
  obtain ⟨hl, e⟩ := gd_some e
  cases e
  obtain ⟨xs, h1, h2, h3⟩ := ow
  cases r with
  | cons r1 r2 =>
    cases r2
    have hl' : xs.length < sizeLine := by rw [h3.length]; exact hl
    exact ⟨a, xs, _, rfl, rfl, h1, hl', k _ _ ⟨_, upd_same, by rw [List.length_append]; exact hl', h3.app (.one r1)⟩ .non⟩
def popD (dc : D) (ds : List D) : Option (D × D) := match dc with
  | .lst xs => (match ds with
    | [] => (xs[xs.length - 1]?).bind fun y => some (y, .lst xs.dropLast)
    | _ => none)
  | _ => none
theorem md_pop : MtD X C "list.pop" popD := by
  refine ⟨_, mt_pop, fun F H a dc vs ds res dc' Q s ow r e k => ?_⟩
  cases dc <;> simp only [popD] at e <;> try (cases e; done)
  split at e
  case h_2 => cases e
  obtain ⟨y, h0, e⟩ := Option.bind_eq_some_iff.mp e
  cases e
  obtain ⟨xs, h1, h2, h3⟩ := ow
  cases r
  obtain ⟨v, hv, rv⟩ := h3.get' h0
  refine ⟨a, xs, v, rfl, rfl, h1, by rw [h3.length]; exact hv, k _ _ ⟨_, upd_same, ?_, h3.dropLast⟩ rv⟩
  rw [List.length_dropLast]; omega
def popAtD (dc : D) (ds : List D) : Option (D × D) := match dc with
  | .lst xs => (match ds with
    | [.int i] => (ixN xs.length i).bind fun j => (xs[j]?).bind fun y => some (y, .lst (xs.eraseIdx j))
    | _ => none)
  | _ => none
/-- xs.extend(ys), ys read -/
def fExt (i : Nat) (f : EF) : EF := fun env => (gt env i).bind fun d0 => if isLst d0 = true then (f env).bind fun p => (rdB p.2 p.1).bind fun dy => (gt p.2 i).bind fun dc => (match dc with
    | .lst xs => (match dy with
      | .lst ys => gd (xs.length + ys.length) (some (.val .non, st p.2 i (some (.lst (xs ++ ys)))))
      | _ => none)
    | _ => none) else none
theorem de_extend (i : Nat) (ha : DE X C c e f)
    (hO : i ∈ c.O := by decide) (hN : X.N[i]? = some x := by rfl) (hv : Vis X.env.scope x := by first | exact Or.inl rfl | exact Or.inr (Or.inl rfl) | exact Or.inr (Or.inr rfl)) (hd : (x == ("__debug__" : Str)) = false := by decide) (hcd : (x == ("__classdict__" : Str)) = false := by decide)
    (hbase : attributeBase (.Name x p) "extend" X.env (eval (.Name x p) X.env) = eval (.Name x p) X.env := by rfl)
    (hfew : ((backTo cpos (starEach [e] X.env)).all (fun x => !x.1) && (backToKw cpos (keywordEach [] X.env)).all (fun x => x.1.isSome)
      && decide ([e].length + ([] : List Keyword).length + (if ([] : List Keyword).isEmpty then 0 else 1) < 30)) = true := by rfl)
    (hline : (apos.endLine == cpos.line) = true := by rfl) (hs : starEach [e] X.env = (false, eval e X.env) :: starEach [] X.env := by rfl) (hplain : (backTo cpos (starEach [] X.env)).any (·.1) = false := by rfl) :
    DE X C c (.Call (.Attribute (.Name x p) "extend" apos) [e] [] cpos) (fExt i f) := by
  refine PE.imp (pe_bm PySem.F.plainAttrs_list PySem.F.slot_list_extend PySem.F.type_list_extend mt_extend (pe_var hN hv hd hcd) (pa_cons ha pa_nil hs) hbase hfew hline hs hplain) fun σ H Q ⟨z, F, env, b, env', S, e, k⟩ => ?_
  obtain ⟨d0, h0, e⟩ := Option.bind_eq_some_iff.mp e
  split at e
  case isFalse => cases e
  next hl =>
  simp only [Option.bind_eq_some_iff] at e
  obtain ⟨⟨b1, e1⟩, h1, dy, h2, dc, h3, e⟩ := e
  obtain ⟨a, ha, _, ow, _⟩ := S.own i d0 h0 hO
  refine ⟨_, ha, .inl ⟨rfl, ow.isL hl⟩, z, F, env, b1, e1, S, h1, fun v F1 H1 s1 S1 r1 => ?_⟩
  cases dc <;> simp only at e <;> try (cases e; done)
  cases dy <;> simp only at e <;> try (cases e; done)
  obtain ⟨hl, e⟩ := gd_some e
  cases e
  obtain ⟨a', ha', _, ow1, _⟩ := S1.own i _ h3 hO
  rw [ha] at ha'; cases ha'
  obtain ⟨xs, q1, q2, q3⟩ := id ow1
  obtain ⟨b, ys, rfl, q4, q5, q6⟩ := (r1.rb S1 h2).lst S1.sub
  have hl' : xs.length + ys.length ≤ sizeLine := by rw [q3.length, q6.length]; exact hl
  exact ⟨a, b, xs, ys, rfl, rfl, q1, q4, hl', k _ F1 _ s1 (S1.write hO h3 ha ⟨_, upd_same, by rw [List.length_append]; exact hl', q3.app q6⟩) .non⟩
/-! ### x[i] = e of a slot's own list or dict -/
def putD (ks : List (Key × D)) (k : Key) (d : D) : List (Key × D) := if (ks.any fun p => decide (p.1 = k)) = true then ks.map (fun p => if p.1 = k then (p.1, d) else p) else ks ++ [(k, d)]
theorem RpKV.any {K : PySem.W.Frag} {F : Hp} {kvs : List (Key × V)} {ks : List (Key × D)} (h : RpKV K C F kvs ks) (k : Key) : (kvs.any fun p => decide (p.1 = k)) = (ks.any fun p => decide (p.1 = k)) := by
  rw [valV_any, h.has]; rfl
theorem RpKV.map {K : PySem.W.Frag} {F : Hp} {k : Key} {v : V} {d : D} (r : Rp K C F v d) : ∀ {kvs : List (Key × V)} {ks : List (Key × D)}, RpKV K C F kvs ks → RpKV K C F (kvs.map fun p => if p.1 = k then (p.1, v) else p) (ks.map fun p => if p.1 = k then (p.1, d) else p)
  | _, _, .nil => .nil
  | _, _, @RpKV.cons _ _ _ k' v' vs d' ds h1 h2 => by
    by_cases e : k' = k
    · simp only [List.map_cons, e, if_true]; exact .cons r (RpKV.map r h2)
    · simp only [List.map_cons, e, if_false]; exact .cons h1 (RpKV.map r h2)
theorem RpKV.app {K : PySem.W.Frag} {F : Hp} {k : Key} {v : V} {d : D} (r : Rp K C F v d) : ∀ {kvs : List (Key × V)} {ks : List (Key × D)}, RpKV K C F kvs ks → RpKV K C F (kvs ++ [(k, v)]) (ks ++ [(k, d)])
  | _, _, .nil => .cons r .nil
  | _, _, .cons h1 h2 => .cons h1 (RpKV.app r h2)
theorem RpKV.put {K : PySem.W.Frag} {F : Hp} {kvs : List (Key × V)} {ks : List (Key × D)} (h : RpKV K C F kvs ks) (k : Key) {v : V} {d : D} (r : Rp K C F v d) : RpKV K C F (putK kvs k v) (putD ks k d) := by
  unfold putK putD
  rw [h.any]
  split
  · exact RpKV.map r h
  · exact RpKV.app r h
def setD (dc k d : D) : Option D := match dc with
  | .lst xs => (match k with
    | .int i => (ixN xs.length i).bind fun j => some (.lst (xs.set j d))
    | _ => none)
  | .dic ks => (keyD k).bind fun kk => gd (ks.length + 1) (some (.dic (putD ks kk d)))
  | _ => none
def sSetIx (i : Nat) (fk fe : EF) : SF := fun env => (fe env).bind fun p => match p.1 with
  | .val d => (gt p.2 i).bind fun _ => (fk p.2).bind fun q => (rdB q.2 q.1).bind fun k => (gt q.2 i).bind fun dc => (setD dc k d).bind fun dc' => some (.nx (st q.2 i (some dc')))
  | .slot _ => none
theorem ds_setIx (i : Nat) {k : Expr} {pos' : Pos} (hu : X.A.units + 64 < cLine) (hk : DE X C c k g) (he : DE X C c e f)
    (hO : i ∈ c.O := by decide) (hN : X.N[i]? = some x := by rfl) (hv : Vis X.env.scope x := by first | exact Or.inl rfl | exact Or.inr (Or.inl rfl) | exact Or.inr (Or.inr rfl)) (hd : (x == ("__debug__" : Str)) = false := by decide) (hcd : (x == ("__classdict__" : Str)) = false := by decide)
    (hs : swapsWith e (some (.Subscript (.Name x p) k pos')) pos.line X.env = pure false := by rfl)
    (hs1 : swapsWithSole [.Subscript (.Name x p) k pos'] e pos.line X.env = pure false := by rfl) (hw : swappedStores [.Subscript (.Name x p) k pos'] e X.env = pure none := by rfl) (h1 : (assignEach [.Subscript (.Name x p) k pos'] X.env).map (·.2) = [assign (.Subscript (.Name x p) k pos') X.env] := by rfl)
    (has : ∀ v, assign (.Subscript (.Name x p) k pos') X.env v = (do let ov ← holding [v] (eval (.Name x p) X.env); let iv ← holding [v, ov] (eval k X.env); standAt pos'; holding [v, ov, iv] (setItem ov iv v); release [v, ov, iv] []) := by intro _; rfl) : DS m X C c (.Assign [.Subscript (.Name x p) k pos'] e pos) (sSetIx i g f) := by
  have pv : PE X (.Name x p) (tVar i) := pe_var hN hv hd hcd
  refine PS.imp (PS.or (ps_asg he (pg_sub pv hk set_list has) hs1 hw h1) (ps_dput (by omega) pv hk he hs)) fun Dn σ H ⟨z, F, env, fl, S, hg, e, kk⟩ => ?_
  obtain ⟨⟨b, e1⟩, h1, e⟩ := Option.bind_eq_some_iff.mp e
  cases b with
  | slot _ => cases e
  | val d =>
    simp only [Option.bind_eq_some_iff] at e
    obtain ⟨d0, h2, ⟨b2, e2⟩, h3, dk, h4, dc, h5, dc', h6, e⟩ := e
    cases e
    by_cases hdic : ∃ ks, dc = .dic ks
    · obtain ⟨ks, rfl⟩ := hdic
      refine .inr ⟨z, F, env, _, e1, S, h1, fun v F1 H1 s1 S1 r1 => ?_⟩
      obtain ⟨a, ha, _⟩ := S1.own i d0 h2 hO
      refine ⟨_, ha, z, F1, e1, b2, e2, S1, h3, fun w F2 H2 s2 S2 r2 => ?_⟩
      obtain ⟨a', ha', _, ow, _⟩ := S2.own i _ h5 hO
      rw [ha] at ha'; cases ha'
      obtain ⟨kvs, q1, q2⟩ := id ow
      obtain ⟨key, q3, q4⟩ := Option.bind_eq_some_iff.mp h6
      obtain ⟨hl, q4⟩ := gd_some q4
      cases q4
      have hl' : kvs.length < sizeLine := by rw [q2.length]; exact hl
      exact ⟨a, _, rfl, .inl ⟨kvs, key, q1, keyD_v (r2.rb S2 h4) q3, hl', rfl⟩, kk F2 σ _ (s1.trans s2) (S2.write hO h5 ha ⟨_, upd_same, q2.put key (Rp.mono s2 r1)⟩)⟩
    · refine .inl ⟨z, F, env, _, e1, S, h1, fun v F1 H1 s1 S1 r1 => ?_⟩
      obtain ⟨a, ha, _⟩ := S1.own i d0 h2 hO
      refine ⟨_, ha, z, F1, e1, b2, e2, S1, h3, fun w F2 H2 s2 S2 r2 => ?_⟩
      obtain ⟨a', ha', _, ow, _⟩ := S2.own i _ h5 hO
      rw [ha] at ha'; cases ha'
      cases dc <;> simp only [setD] at h6 <;> try (cases h6; done)
      · cases dk <;> simp only at h6 <;> try (cases h6; done)
        obtain ⟨j, q3, q4⟩ := Option.bind_eq_some_iff.mp h6
        cases q4
        obtain ⟨xs, q1, q5, q2⟩ := id ow
        exact ⟨a, xs, _, j, rfl, (r2.rb S2 h4).int, q1, by rw [q2.length]; exact q3, kk F2 σ _ (s1.trans s2) (S2.write hO h5 ha ⟨_, upd_same, by rw [List.length_set]; exact q5, q2.set (Rp.mono s2 r1) j⟩)⟩
      · exact absurd ⟨_, rfl⟩ hdic
end
end DL

namespace DL
open PySem L2
section
variable {m : Bool} {X : Cx} {C : CA} {c : Cs} {e a b o : Expr} {es : List Expr} {fa : AF} {f g : EF} {pos p apos cpos : Pos} {x : Str}
/-! ### x, y = e1, e2: each a datum or a new object -/
/-- an expression that gives data (o = false) or a new object (o = true) -/
def tX (o : Bool) (K : PySem.W.Frag) (C : CA) (c : Cs) (f : OF) : TE := fun σ H Q => ∃ z F env d env', SR K C c z F env σ H ∧ f env = some (d, env') ∧
  ∀ v F' H', Same F F' → SR K C c z F' env' σ H' → (if o = true then ∃ a, v = .ref a ∧ F' a = none ∧ z.H0 a = none ∧ Own K C F' H' a d ∧ (Apt C c env' σ a) ∧ (∀ e, (a, e) ∉ z.gh) else Rp K C F' v d) → Q v H'
def DX (o : Bool) (X : Cx) (C : CA) (c : Cs) (e : Expr) (f : OF) : Prop := PE X e (tX o X.K C c f)
theorem DO.dx {fo : OF} (h : DO X C c e fo) : DX true X C c e fo := PE.imp h fun σ H Q ⟨z, F, env, d, env', S, e, k⟩ => ⟨z, F, env, d, env', S, e, fun a F' H' s' S' fa za ow ap ng => k _ F' H' s' S' ⟨a, rfl, fa, za, ow, ap, ng⟩⟩
def oP (f : EF) : OF := fun env => (f env).bind fun r => match r.1 with
  | .val d => some (d, r.2)
  | .slot _ => none
theorem DE.dx (h : DE X C c e f) : DX false X C c e (oP f) := PE.imp h fun σ H Q ⟨z, F, env, d, env', S, e, k⟩ => by
  obtain ⟨⟨b, e1⟩, h1, e⟩ := Option.bind_eq_some_iff.mp e
  cases b with
  | slot _ => cases e
  | val d' =>
    cases e
    exact ⟨z, F, env, _, _, S, h1, fun v F' H' s' S' r => k v F' H' s' S' r⟩
/-- store a datum or a new object -/
theorem SR.setX {K : PySem.W.Frag} {z : Zn} {F : Hp} {env : Env} {σ : St} {H : Hp} {o : Bool} {v : V} {d : D} (S : SR K C c z F env σ H) {i : Nat} (hi : if o = true then i ∈ c.O ∧ i ∉ c.io else i ∉ c.O) (hn : i < c.n)
    (h : if o = true then ∃ a, v = .ref a ∧ F a = none ∧ z.H0 a = none ∧ Own K C F H a d ∧ (Apt C c env σ a) ∧ (∀ e, (a, e) ∉ z.gh) else Rp K C F v d) : SR K C c z F (st env i (some d)) (σ.set i (some v)) H := by
  cases o with
  | true =>
    obtain ⟨a, rfl, fa, za, ow, ap, ng⟩ := h
    exact S.setO hi.1 hi.2 hn fa za ow ap ng
  | false => exact S.setP hi hn h
def sPar (i j : Nat) (f g : OF) : SF := fun env => (f env).bind fun p => (g p.2).bind fun q => some (.nx (st (st q.2 i (some p.1)) j (some q.1)))
/-- the core: two values in a row -/
theorem par_core {oi oj : Bool} {fi fj : OF} {i j : Nat} {σ : St} {H : Hp} {R : V → V → Hp → Prop} {z : Zn} {F : Hp} {env env' : Env} (S : SR X.K C c z F env σ H) (hij : i ≠ j) (hi : if oi = true then i ∈ c.O ∧ i ∉ c.io else i ∉ c.O) (hni : i < c.n) (hj : if oj = true then j ∈ c.O ∧ j ∉ c.io else j ∉ c.O) (hnj : j < c.n)
    (e : sPar i j fi fj env = some (.nx env')) (k : ∀ v w F' H', Same F F' → SR X.K C c z F' env' ((σ.set i (some v)).set j (some w)) H' → R v w H') : tX oi X.K C c fi σ H fun v H1 => tX oj X.K C c fj σ H1 fun w H2 => R v w H2 := by
  simp only [sPar, Option.bind_eq_some_iff] at e
  obtain ⟨⟨d1, e1⟩, h1, ⟨d2, e2⟩, h2, e⟩ := e
  cases e
  refine ⟨z, F, env, d1, e1, S, h1, fun v F1 H1 s1 S1 r1 => ?_⟩
  cases oi with
  | false =>
    refine ⟨z, F1, e1, d2, e2, S1, h2, fun w F2 H2 s2 S2 r2 => k v w F2 H2 (s1.trans s2) ?_⟩
    have S3 := S2.setP (i := i) (v := v) (d := d1) hi hni (Rp.mono s2 r1)
    refine S3.setX hj hnj ?_
    cases oj with
    | false => exact r2
    | true =>
      obtain ⟨a, rfl, fa, za, ow, ap, ng⟩ := r2
      exact ⟨a, rfl, fa, za, ow, S2.aptP hi hni ap, ng⟩
  | true =>
    obtain ⟨a, rfl, fa, za, ow, ap, ng⟩ := r1
    have Sg := S1.ghost fa za ow ap ng
    refine ⟨_, F1, e1, d2, e2, Sg, h2, fun w F2 H2 s2 S2 r2 => k _ w F2 H2 (s1.trans s2) ?_⟩
    obtain ⟨S3, fa2, za2, ow2, ap2, ng2⟩ := S2.unghost
    have S4 : SR X.K C c z F2 (st e2 i (some d1)) (σ.set i (some (.ref a))) H2 := S3.setO hi.1 hi.2 hni fa2 za2 ow2 ap2 ng2
    refine S4.setX hj hnj ?_
    cases oj with
    | false => exact r2
    | true =>
      obtain ⟨b, rfl, fb, zb, owb, apb, ngb⟩ := r2
      have hba : b ≠ a := fun q => ngb d1 (q ▸ List.mem_cons_self ..)
      exact ⟨b, rfl, fb, zb, owb, S3.aptO hni hba apb, fun e h => ngb e (List.mem_cons_of_mem _ h)⟩
theorem ds_par {oi oj : Bool} {fi fj : OF} (i j : Nat) {y : Str} {px py pt : Pos} {kt k2 : Nat} {pt2 : Pos} (hN : X.N.Nodup) (hi : if oi = true then i ∈ c.O ∧ i ∉ c.io else i ∉ c.O) (hj : if oj = true then j ∈ c.O ∧ j ∉ c.io else j ∉ c.O) (h1 : DX oi X C c a fi) (h2 : DX oj X C c b fj)
    (hni : i < c.n := by decide) (hnj : j < c.n := by decide) (hxi : X.N[i]? = some x := by rfl) (hyj : X.N[j]? = some y := by rfl) (hij : i ≠ j := by decide) (hx : X.env.scope.names.lookup x = some .local := by rfl) (hy : X.env.scope.names.lookup y = some .local := by rfl)
    (hc : X.calm = true := by rfl) (hw : swappedStores [.Tuple [.Name x px, .Name y py] kt pt] (.Tuple [a, b] k2 pt2) X.env = pure (some [x, y]) := by rfl) (hs : swapsWithSole [.Tuple [.Name x px, .Name y py] kt pt] (.Tuple [a, b] k2 pt2) pos.line X.env = pure false := by rfl)
    (hs1 : starEach (a :: [b]) X.env = (false, eval a X.env) :: starEach [b] X.env := by rfl) (hs2 : starEach (b :: []) X.env = (false, eval b X.env) :: starEach [] X.env := by rfl) :
    DS m X C c (.Assign [.Tuple [.Name x px, .Name y py] kt pt] (.Tuple [a, b] k2 pt2) pos) (sPar i j fi fj) := by
  refine PS.imp (ps_par hc hN hxi hyj hij hx hy (pa_cons h1 (pa_cons h2 pa_nil hs2) hs1) hw hs) fun Dn σ H ⟨z, F, env, fl, S, hg, e, k⟩ => ?_
  have e0 := e
  simp only [sPar, Option.bind_eq_some_iff] at e
  obtain ⟨⟨d1, e1⟩, q1, ⟨d2, e2⟩, q2, e⟩ := e
  cases e
  exact par_core (R := fun v w H' => ∃ v1 w1, [v, w] = [v1, w1] ∧ Dn.nx ((σ.set i (some v1)).set j (some w1)) H') S hij hi hni hj hnj e0 fun v w F' H' s' S' => ⟨v, w, rfl, k F' _ H' s' S'⟩
/-- .. where one of the names is a cell: a tuple is made and taken apart -/
theorem ds_parC {oi oj : Bool} {fi fj : OF} (i j : Nat) {y : Str} {px py pt : Pos} {kt k2 : Nat} {pt2 : Pos} (hN : X.N.Nodup) (hi : if oi = true then i ∈ c.O ∧ i ∉ c.io else i ∉ c.O) (hj : if oj = true then j ∈ c.O ∧ j ∉ c.io else j ∉ c.O) (h1 : DX oi X C c a fi) (h2 : DX oj X C c b fj)
    (hni : i < c.n := by decide) (hnj : j < c.n := by decide) (hxi : X.N[i]? = some x := by rfl) (hyj : X.N[j]? = some y := by rfl) (hij : i ≠ j := by decide) (hx : Loc X.env.scope x := by first | exact Or.inl rfl | exact Or.inr rfl) (hy : Loc X.env.scope y := by first | exact Or.inl rfl | exact Or.inr rfl)
    (hc : X.calm = true := by rfl) (hw : swappedStores [.Tuple [.Name x px, .Name y py] kt pt] (.Tuple [a, b] k2 pt2) X.env = pure none := by rfl) (hs : swapsWithSole [.Tuple [.Name x px, .Name y py] kt pt] (.Tuple [a, b] k2 pt2) pos.line X.env = pure false := by rfl)
    (hs1 : starEach (a :: [b]) X.env = (false, eval a X.env) :: starEach [b] X.env := by rfl) (hs2 : starEach (b :: []) X.env = (false, eval b X.env) :: starEach [] X.env := by rfl)
    (hfx : X.fn x = true ∨ X.env.scope.names.lookup x = some .local := by first | exact .inl rfl | exact .inr rfl | assumption) (hfy : X.fn y = true ∨ X.env.scope.names.lookup y = some .local := by first | exact .inl rfl | exact .inr rfl | assumption)
    (t1 : (assignEach (.Name x px :: [.Name y py]) X.env).map (·.2) = assign (.Name x px) X.env :: (assignEach [.Name y py] X.env).map (·.2) := by rfl) (t2 : (assignEach (.Name y py :: []) X.env).map (·.2) = assign (.Name y py) X.env :: (assignEach [] X.env).map (·.2) := by rfl)
    (t3 : (assignEach [.Name x px, .Name y py] X.env).length = 2 := by rfl) (t4 : (assignEach [.Name x px, .Name y py] X.env).findIdx? (·.1) = none := by rfl) (t5 : (assignEach [.Tuple [.Name x px, .Name y py] kt pt] X.env).map (·.2) = [assign (.Tuple [.Name x px, .Name y py] kt pt) X.env] := by rfl) :
    DS m X C c (.Assign [.Tuple [.Name x px, .Name y py] kt pt] (.Tuple [a, b] k2 pt2) pos) (sPar i j fi fj) := by
  refine PS.imp (ps_asg (pe_tup (pa_cons h1 (pa_cons h2 pa_nil hs2) hs1)) (pg_tup hc (pgs_cons (pg_name hN hxi hx hfx) (pgs_cons (pg_name hN hyj hy hfy) pgs_nil t2) t1) t3 t4) hs hw t5) fun Dn σ H ⟨z, F, env, fl, S, hg, e, k⟩ => ?_
  have e0 := e
  simp only [sPar, Option.bind_eq_some_iff] at e
  obtain ⟨⟨d1, e1⟩, q1, ⟨d2, e2⟩, q2, e⟩ := e
  cases e
  refine par_core (R := fun v w H' => [v, w].length ≤ sizeLine ∧ ∀ p, H' p = none → gTup X.K 2 (gCons (gName i) (gCons (gName j) gNil)) (.ref p) σ (upd H' p (.tup [v, w])) Dn.nx) S hij hi hni hj hnj e0 fun v w F' H' s' S' => ⟨by rw [sizeLine_eq]; show 2 ≤ 16777216; decide, fun p hp => ?_⟩
  refine ⟨p, [v, w], rfl, SqT.of upd_same, rfl, v, [w], rfl, w, [], rfl, rfl, ?_⟩
  have ex : Ext F' H' (upd F' p (.tup [v, w])) (upd H' p (.tup [v, w])) := Ext.laid S'.sub hp
  exact k _ _ _ (s'.trans ex.sub) (S'.ext ex)
/-! ### name op= e -/
def sAug (i : Nat) (op : D → D → Option D) (f : EF) : SF := fun env => (gt env i).bind fun d => (f env).bind fun p => (rdB p.2 p.1).bind fun y => (op d y).bind fun r => some (.nx (st p.2 i (some r)))
theorem ds_augAdd (i : Nat) {pos' : Pos} (hN : X.N.Nodup) (he : DE X C c e f) (hO : i ∉ c.O := by decide) (hn : i < c.n := by decide) (hi : X.N[i]? = some x := by rfl) (hx : Loc X.env.scope x := by first | exact Or.inl rfl | exact Or.inr rfl) (hf : X.fn x = true ∨ X.env.scope.names.lookup x = some .local := by first | exact .inl rfl | exact .inr rfl | assumption) :
    DS m X C c (.AugAssign (.Name x pos') .Add e pos) (sAug i addII f) := by
  refine PS.imp (ps_aug hN hi hx he ip_add hf) fun Dn σ H ⟨z, F, env, fl, S, hg, e, k⟩ => ?_
  simp only [sAug, Option.bind_eq_some_iff] at e
  obtain ⟨d, h1, ⟨b, e1⟩, h2, y, h3, r, h4, e⟩ := e
  cases e
  obtain ⟨v, hv, rv⟩ := S.pur i d h1 hO hn
  obtain ⟨i1, j1, rfl, rfl, e⟩ := iiD_some h4
  cases e
  cases rv
  refine ⟨_, hv, z, F, env, b, e1, S, h2, fun w F1 H1 s1 S1 r1 => ⟨i1, j1, rfl, (r1.rb S1 h3).int, k F1 _ H1 s1 (S1.setP hO hn (.int _))⟩⟩
/-! ### slices -/
def cutD (xs : List D) (lo hi : Option Int) : List D := (xs.drop (HT.sIx xs.length 0 lo)).take (HT.sIx xs.length xs.length hi - HT.sIx xs.length 0 lo)
theorem cut_rp {K : PySem.W.Frag} {F : Hp} {vs : List V} {ds : List D} (h : RpAll K C F vs ds) (lo hi : Option Int) : RpAll K C F (cutV vs lo hi) (cutD ds lo hi) := by
  unfold cutV cutD
  rw [h.length]
  exact (h.drop _).take _
abbrev PF := Env → Option (Option Int × Env)
def tPt (K : PySem.W.Frag) (C : CA) (c : Cs) (f : PF) : TO := fun σ H Q => ∃ z F env i env', SR K C c z F env σ H ∧ f env = some (i, env') ∧ ∀ F' H', Same F F' → SR K C c z F' env' σ H' → Q i H'
def DPt (X : Cx) (C : CA) (c : Cs) (e : Option Expr) (f : PF) : Prop := PO X e (tPt X.K C c f)
theorem PO.imp {e : Option Expr} {t t' : TO} (h : PO X e t) (i : ∀ σ H Q, t' σ H Q → t σ H Q) : PO X e t' := ⟨fun pins s σ H Q I q => h.run pins s σ H Q I (i σ H Q q)⟩
def pN : PF := fun env => some (none, env)
def pI (f : EF) : PF := fun env => (f env).bind fun p => (rdB p.2 p.1).bind fun d => match d with
  | .int i => some (some i, p.2)
  | _ => none
theorem dp_none : DPt X C c none pN := PO.imp po_none fun σ H Q ⟨z, F, env, i, env', S, e, k⟩ => by cases e; exact k F H (Same.refl _) S
theorem dp_some (h : DE X C c e f) : DPt X C c (some e) (pI f) := PO.imp (po_some h) fun σ H Q ⟨z, F, env, i, env', S, e, k⟩ => by
  simp only [pI, Option.bind_eq_some_iff] at e
  obtain ⟨⟨b, e1⟩, h1, d, h2, e⟩ := e
  cases d <;> simp only at e <;> try (cases e; done)
  cases e
  exact ⟨z, F, env, b, _, S, h1, fun v F1 H1 s1 S1 r1 => ⟨_, (r1.rb S1 h2).int, k F1 H1 s1 S1⟩⟩
def oSlL (f : EF) (l h : PF) : OF := fun env => (f env).bind fun p => (l p.2).bind fun q => (h q.2).bind fun r => (rdB r.2 p.1).bind fun d => match d with
  | .lst xs => some (.lst (cutD xs q.1 r.1), r.2)
  | _ => none
/-! ### what is walked: lists, tuples, ranges, enumerate, zip -/
def keyVD : Key → D
  | .inl i => .int i
  | .inr x => .str x
theorem keyVD_rp {K : PySem.W.Frag} {F : Hp} (k : Key) : Rp K C F (kV k) (keyVD k) := by
  cases k with
  | inl i => exact .int i
  | inr x => exact .str x
theorem RpKV.at {K : PySem.W.Frag} {F : Hp} : ∀ {kvs : List (Key × V)} {ks : List (Key × D)}, RpKV K C F kvs ks → ∀ {i : Nat} {k : Key} {v : V}, kvs[i]? = some (k, v) → ∃ d, ks[i]? = some (k, d) ∧ Rp K C F v d
  | _, _, .nil, i, k, v, e => by simp at e
  | _, _, .cons h t, i, k, v, e => by
    cases i with
    | zero => simp at e; obtain ⟨rfl, rfl⟩ := e; exact ⟨_, rfl, h⟩
    | succ i => simpa using t.at (by simpa using e)
theorem RpKV.len {K : PySem.W.Frag} {F : Hp} : ∀ {kvs : List (Key × V)} {ks : List (Key × D)}, RpKV K C F kvs ks → kvs.length = ks.length
  | _, _, .nil => rfl
  | _, _, .cons h t => by simp [t.len]
theorem wk_keys {K : PySem.W.Frag} {F : Hp} {a : Addr} {od : Obj} {kvs : List (Key × V)} {ks : List (Key × D)} (h : F a = some (.frz od (.dK kvs))) (hl : ks.length ≤ sizeLine) (r : RpKV K C F kvs ks) : Wk K C (Itk a od kvs) F (ks.map fun p => keyVD p.1) := by
  have ln := r.len
  refine ⟨fun i F' H s1 s2 hi => ⟨s2 _ _ (s1 _ _ h), by rw [ln]; simpa using hi⟩, fun F' H s1 s2 => ⟨s2 _ _ (s1 _ _ h), by rw [ln]; simp⟩, fun i F' H x H' s1 s2 hi y => ?_, by simpa using hl⟩
  obtain ⟨rfl, k, v, hk, rfl⟩ := y
  obtain ⟨d, hd, _⟩ := r.at hk
  exact ⟨F', keyVD k, Ext.rfl' s2, by simp [hd], keyVD_rp k⟩
def itmsS : D → Option (List D)
  | .lst xs => some xs
  | .tup xs => some xs
  | _ => none
def itms : D → Option (List D)
  | .lst xs => some xs
  | .tup xs => some xs
  | .dic ks => gd ks.length (some (ks.map fun p => keyVD p.1))
  | _ => none
def iX (f : EF) : IF := fun env => (f env).bind fun p => match p.1 with
  | .val d => (itms d).bind fun xs => some (xs, p.2)
  | .slot _ => none
theorem PI.imp {tg it : Expr} {t t' : TI} (h : PI X tg it t) (i : ∀ σ H R, t' σ H R → t σ H R) : PI X tg it t' := ⟨fun pins s σ H R I q => h.run pins s σ H R I (i σ H R q)⟩
theorem PI.or {tg it : Expr} {t t' : TI} (h : PI X tg it t) (h' : PI X tg it t') : PI X tg it (fun σ H R => t σ H R ∨ t' σ H R) := ⟨fun pins s σ H R I q => q.elim (h.run pins s σ H R I) (h'.run pins s σ H R I)⟩
theorem wk_list {K : PySem.W.Frag} {F : Hp} {a : Addr} {vs : List V} {ds : List D} (h : F a = some (.lst vs)) (hl : vs.length ≤ sizeLine) (r : RpAll K C F vs ds) : Wk K C (Itl K a) F ds := by
  have w := walk_list (K := K) (a := a) (xs := vs)
  rw [r.length] at w
  refine ⟨fun i F' H s1 s2 hi => w.goes i H hi (SqL.of (s2 _ _ (s1 _ _ h))), fun F' H s1 s2 => w.stops H (SqL.of (s2 _ _ (s1 _ _ h))), fun i F' H x H' s1 s2 hi y => ?_, by rw [← r.length]; exact hl⟩
  obtain ⟨rfl, hx⟩ := w.yields i H x H' hi (SqL.of (s2 _ _ (s1 _ _ h))) y
  obtain ⟨d, hd, rd⟩ := r.get hx
  exact ⟨F', d, Ext.rfl' s2, hd, rd.mono s1⟩
theorem wk_tup {K : PySem.W.Frag} {F : Hp} {a : Addr} {vs : List V} {ds : List D} (h : SqT K F a vs) (hl : vs.length ≤ sizeLine) (r : RpAll K C F vs ds) : Wk K C (Itt K a) F ds := by
  have w := walk_tup (K := K) (a := a) (xs := vs)
  rw [r.length] at w
  refine ⟨fun i F' H s1 s2 hi => w.goes i H hi (SqT.sub s2 (SqT.sub s1 h)), fun F' H s1 s2 => w.stops H (SqT.sub s2 (SqT.sub s1 h)), fun i F' H x H' s1 s2 hi y => ?_, by rw [← r.length]; exact hl⟩
  obtain ⟨rfl, hx⟩ := w.yields i H x H' hi (SqT.sub s2 (SqT.sub s1 h)) y
  obtain ⟨d, hd, rd⟩ := r.get hx
  exact ⟨F', d, Ext.rfl' s2, hd, rd.mono s1⟩
/-- a list or a tuple -/
theorem di_seq {tg : Expr} (h : DE X C c e f) : DI X C c tg e (iX f) := by
  refine PI.imp (PI.or (pi_list h) (PI.or (pi_tup h) (pi_keys h))) fun σ H R ⟨z, F, env, ds, env', S, e, k⟩ => ?_
  simp only [iX, Option.bind_eq_some_iff] at e
  obtain ⟨⟨b, e1⟩, h1, e⟩ := e
  cases b with
  | slot _ => cases e
  | val d =>
    obtain ⟨xs, h2, e⟩ := Option.bind_eq_some_iff.mp e
    cases e
    cases d <;> simp only [itms] at h2 <;> try (cases h2; done)
    · cases h2
      refine .inl ⟨z, F, env, _, e1, S, h1, fun v F1 H1 s1 S1 r1 => ?_⟩
      cases r1 with
      | lst q ql r => exact ⟨_, rfl, ⟨_, SqL.of (S1.sub _ _ q)⟩, k _ F1 H1 s1 S1 (wk_list q ql r)⟩
    · cases h2
      refine .inr (.inl ⟨z, F, env, _, e1, S, h1, fun v F1 H1 s1 S1 r1 => ?_⟩)
      cases r1 with
      | tup q ql r => exact ⟨_, rfl, ⟨_, SqT.sub S1.sub q⟩, k _ F1 H1 s1 S1 (wk_tup q ql r)⟩
    · obtain ⟨hl, e⟩ := gd_some h2
      cases e
      refine .inr (.inr ⟨z, F, env, _, e1, S, h1, fun v F1 H1 s1 S1 r1 => ?_⟩)
      cases r1 with
      | dic q r => exact ⟨_, _, rfl, .inl ⟨_, S1.sub _ _ q, k _ F1 H1 s1 S1 (wk_keys q hl r)⟩⟩
def rngD (lo : Int) (n : Nat) : List D := (List.range n).map fun i => .int (lo + (i : Nat))
theorem wk_range {K : PySem.W.Frag} {F : Hp} {lo : Int} {n : Nat} (hn : n ≤ sizeLine) : Wk K C (Itr lo n) F (rngD lo n) := by
  have w := walk_range (lo := lo) (n := n)
  have el : (rngD lo n).length = n := by simp [rngD]
  rw [show n = (rngD lo n).length from el.symm] at w
  refine ⟨fun i F' H s1 s2 hi => ?_, fun F' H s1 s2 => ?_, fun i F' H x H' s1 s2 hi y => ?_, by rw [el]; exact hn⟩
  · rw [el] at hi; exact hi
  · rw [el]; exact Nat.le_refl n
  · obtain ⟨rfl, rfl⟩ := y
    refine ⟨F', .int (lo + i), Ext.rfl' s2, ?_, .int _⟩
    rw [el] at hi
    simp [rngD, hi]
def iR1 (fa : AF) : IF := fun env => (fa env).bind fun p => (rdAll p.2 p.1).bind fun ds => match ds with
  | [.int j] => if -(2 ^ 62) ≤ j then gd j.toNat (some (rngD 0 j.toNat, p.2)) else none
  | _ => none
def iR2 (fa : AF) : IF := fun env => (fa env).bind fun p => (rdAll p.2 p.1).bind fun ds => match ds with
  | [.int i, .int j] => if decide (-(2 ^ 62) ≤ i) && decide (i < 2 ^ 62) && decide (-(2 ^ 62) ≤ j) && decide (j < 2 ^ 62) then gd (j - i).toNat (some (rngD i (j - i).toNat, p.2)) else none
  | _ => none
theorem di_range1 {tg : Expr} (hm : X.mg "range" = none) (ha : DA X C c [a] fa) (hg : Gl X "range" := by rfl) (hs : starEach [a] X.env = [(false, eval a X.env)] := by rfl) : DI X C c tg (.Call (.Name "range" p) [a] [] pos) (iR1 fa) := by
  refine PI.imp (pi_range1 hg hm ha hs) fun σ H R ⟨z, F, env, ds, env', S, e, k⟩ => ?_
  simp only [iR1, Option.bind_eq_some_iff] at e
  obtain ⟨⟨bs, e1⟩, h1, ds, h2, e⟩ := e
  refine ⟨z, F, env, bs, e1, S, h1, fun vs F1 H1 s1 S1 r1 => ?_⟩
  have r := r1.rb S1 h2
  split at e
  case h_2 => cases e
  next j =>
  split at e
  case isFalse => cases e
  next hb =>
  obtain ⟨hl, e⟩ := gd_some e
  cases e
  rw [sizeLine_eq] at hl
  cases r with
  | cons q1 q2 =>
    cases q2
    refine ⟨j, by rw [q1.int], ?_, ?_, k _ F1 H1 s1 S1 (wk_range (by rw [sizeLine_eq]; exact hl))⟩
    · exact hb
    · omega
theorem di_range2 {tg : Expr} (hm : X.mg "range" = none) (ha : DA X C c [a, b] fa) (hg : Gl X "range" := by rfl) (hs : starEach [a, b] X.env = [(false, eval a X.env), (false, eval b X.env)] := by rfl) (hs2 : starEach [b] X.env = [(false, eval b X.env)] := by rfl) : DI X C c tg (.Call (.Name "range" p) [a, b] [] pos) (iR2 fa) := by
  refine PI.imp (pi_range2 hg hm ha hs hs2) fun σ H R ⟨z, F, env, ds, env', S, e, k⟩ => ?_
  simp only [iR2, Option.bind_eq_some_iff] at e
  obtain ⟨⟨bs, e1⟩, h1, ds, h2, e⟩ := e
  refine ⟨z, F, env, bs, e1, S, h1, fun vs F1 H1 s1 S1 r1 => ?_⟩
  have r := r1.rb S1 h2
  split at e
  case h_2 => cases e
  next i j =>
  split at e
  case isFalse => cases e
  next hb =>
  simp only [Bool.and_eq_true, decide_eq_true_eq] at hb
  obtain ⟨hl, e⟩ := gd_some e
  cases e
  cases r with
  | cons q1 q2 =>
    cases q2 with
    | cons q2 q3 =>
      cases q3
      exact ⟨i, j, by rw [q1.int, q2.int], ⟨hb.1.1.1, hb.1.1.2, hb.1.2, hb.2⟩, k _ F1 H1 s1 S1 (wk_range hl)⟩
end
end DL

namespace PySem
open Sem (wp)
theorem meets_enum_one {v : Value} {o : Obj} {H : Heap → Prop} (B : Begins v o H) :
    Meets (Builtin.«enumerate.__new__» ⟨[.type "enumerate", v], []⟩) (fun _ R s => H s.heap ∧
      R (.ok (.ret (.ref (s.heap.push o).objs.size))) { s with heap := (s.heap.push o).push { cls := .type "enumerate", data := .fields #[.none, .bool false, .ref s.heap.objs.size, rawInt 0, .none, .none] } }) :=
  .of_wp fun prog w A R s h => by
    obtain ⟨hp, g, d, tk, os⟩ := s; obtain ⟨h1, h⟩ := h
    have hsub := sub_enumerate
    have q1 : ∀ {A' : Around} {E : Value → Shared → Prop} {Q : Value → Shared → Prop}, Q (.ref hp.objs.size) ⟨hp.push o, g, d, tk, os⟩ → wpAny (model prog w) A' (pyIter v) Q E ⟨hp, g, d, tk, os⟩ :=
      fun q => B.iter prog w _ _ ⟨hp, g, d, tk, os⟩ _ h1 q
    wp_walk using q1
    refine wpAny_stack_any fun st => wpAny_pure ?_
    split
    · rename_i c _ _ _ _ _
      cases (c == Value.type "enumerate")
      · wp_walk using q1
        exact ⟨_, rfl, h⟩
      · wp_walk using q1
        exact ⟨_, rfl, h⟩
    · wp_walk using q1
      exact ⟨_, rfl, h⟩
section
variable {prog : Program} {w : World} {A : Around} {E : Value → Shared → Prop} {s : Shared}
theorem enum_begins1 {v : Value} {o : Obj} {H : Heap → Prop} {Q : Value → Shared → Prop} (B : Begins v o H) (h1 : H s.heap)
    (h : ∀ h', IsEnum h' (s.heap.objs.size + 1) s.heap.objs.size 0 .none → h'.get? s.heap.objs.size = some o → h'.objs.size = s.heap.objs.size + 2 →
      (∀ b o, s.heap.get? b = some o → h'.get? b = some o) → Q (.ref (s.heap.objs.size + 1)) { s with heap := h' }) :
    wpAny (model prog w) A (call (.type "enumerate") [v]) Q E s := by
  refine callType_new F.called_enumerate (by decide) (F.typeCall_enumerate_1 _) (F.newCall_enumerate_1 _) (fun obj => F.args_object_init_2 obj _) F.entry_enumerate_new
    (meets_enum_one B) ⟨h1, ?_⟩
  have hz : (s.heap.push o).objs.size = s.heap.objs.size + 1 := Heap.size_push ..
  show _ ∧ _
  rw [hz]
  have he : IsEnum ((s.heap.push o).push { cls := .type "enumerate", data := .fields #[.none, .bool false, .ref s.heap.objs.size, rawInt 0, .none, .none] }) (s.heap.objs.size + 1) s.heap.objs.size 0 .none := by
    have := Heap.get?_push_size (s.heap.push o) (o := { cls := .type "enumerate", data := .fields #[.none, .bool false, .ref s.heap.objs.size, rawInt 0, .none, .none] }) rfl
    rw [hz] at this; exact this
  refine ⟨⟨_, he, rfl⟩, h _ he (Heap.get?_push_of_some _ (Heap.get?_push_size _ B.free)) (by rw [Heap.size_push, hz]) fun b o x => Heap.get?_push_of_some _ (Heap.get?_push_of_some _ x)⟩
theorem enum_endT {e it l : Addr} {i : Nat} {items : Array Value} {old : Value} {Q : Option Value → Shared → Prop} (hh : A.handled = none)
    (he : IsEnum s.heap e it i old) (hit : s.heap.IsTupleIter it l i) (hl : s.heap.IsTuple l items) (hx : items[i]? = none)
    (hQ : ∀ h', Heap.ExtBut it s.heap h' → Q none { s with heap := h' }) : wpAny (model prog w) A (pyNext (.ref e)) Q E s := by
  have hT : s.TypeIs (.ref e) "enumerate" := ⟨_, he, rfl⟩
  unfold pyNext
  refine wpAny_bind (wpAny_attempt (wpAny_callSpecial?_slot (name := Str.ofString "__next__") hT F.slot_enumerate_next
    (wpAny_call_entry F.slot_enumerate_next hT F.entry_enumerate_next ?_ (F.args_enumerate_next_1 _))))
  show wpAny _ _ (field (.ref e) 2 >>= _) _ _ _
  refine wpAny_bind (wpAny_field he rfl (x := .ref it) rfl ?_)
  refine wpAny_bind (wpAny_nextOf_tuple_end (show A.in1.handled = none from hh) hit hl hx fun h' x he' hx' => ?_)
  obtain ⟨o, ho, hc⟩ := hx'
  refine wpAny_bind (wpAny_isInstance (T := "StopIteration") (b := true) ⟨o, ho, hc⟩ isSubtype_stop ?_)
  exact wpAny_pure (hQ _ he')
end
end PySem
namespace L2
open PySem PySem.Spec PyProof.Rows
/-- enumerate of a tuple -/
def IteT (K : PySem.W.Frag) (a : Addr) : It :=
  ⟨fun i H => ∃ xs x, SqT K H a xs ∧ xs[i]? = some x, fun i H v H' => ∃ T x, v = .ref T ∧ H T = none ∧ H' = upd H T (.tup [.int (i : Nat), x]) ∧ ∀ xs, SqT K H a xs → xs[i]? = some x, fun i H => ∃ xs, SqT K H a xs ∧ xs.length ≤ i⟩
theorem turn_enumT {P : Program} {w : World} {K : PySem.W.Frag} {elts : List Expr} {kk : Nat} {tpos : Pos} (a e it : Addr) (hai : a ≠ it) (hae : e ≠ a) :
    Turn P w K (.Tuple elts kk tpos) (IteT K a) [e, it] e (fun i h => (∃ old, IsEnum h e it ((i : Nat) : Int) old) ∧ h.IsTupleIter it a i ∧ e ≠ it) where
  mem := by simp
  obj := fun i h st b hb => by
    obtain ⟨⟨old, he⟩, ⟨o, ho, hc, hd⟩, _⟩ := st
    have e' : b = e ∨ b = it := by simpa using hb
    rcases e' with z | z
    · rw [z]; exact ⟨_, he, fun v q => nomatch q⟩
    · rw [z]; exact ⟨o, ho, fun v q => by rw [hd] at q; cases q⟩
  keep := fun i h h' st k => let ⟨⟨old, he⟩, hi, hne⟩ := st; ⟨⟨old, k e (by simp) _ he⟩, hi.at fun o q => k it (by simp) o q, hne⟩
  item := by
    intro X hP hw hK hc i pins s σ H E I hf st hg
    subst hP hw hK
    obtain ⟨⟨old, he⟩, hit, hne⟩ := st
    obtain ⟨xs, x, hq, hx⟩ := hg
    obtain ⟨its, rv, p, hz⟩ := I.tuple hq
    obtain ⟨u, hu, ru⟩ := rv.get hx
    have hel : e < s.heap.objs.size := Heap.lt_size he
    have hil : it < s.heap.objs.size := by obtain ⟨_, q, _⟩ := hit; exact Heap.lt_size q
    have hh : (X.A.in1).handled = none := I.ok.hd hc
    have D := Draws.tuple (prog := X.prog) (w := X.w) (A := X.A.in1) hh it a hai its.toArray
    have hlt : i < its.toArray.size := by
      have := (List.getElem?_eq_some_iff.mp hu).1
      simpa using this
    have hsT : s.heap.IsTuple a its.toArray := p
    refine wpAny_pyNext_enum_itemD D he ⟨hit, hsT⟩ hlt hne (by simp [hne, hae]) fun y h' tk hP ho hst hT hsz hk => ?_
    have hy : y = u := by
      have h1 : its.toArray[i]? = some y := hP
      have h2 : its.toArray[i]? = some u := by simpa using hu
      rw [h1] at h2; exact Option.some.inj h2
    subst hy
    refine ⟨_, rfl, wpAny_letOwnedTupleGo_enum (s := { s with heap := h', toks := tk + 1 }) ho fun h'' he' sb => ?_⟩
    have hT2 : h''.get? s.heap.objs.size = some { cls := .type "tuple", data := .seq #[.int i tk, y] } := (sb.2 _ (Nat.ne_of_gt hel)).trans hT
    have new : ObjOk X.prog X.w (upd H s.heap.objs.size (.tup [.int (i : Nat), x])) h'' s.heap.objs.size (.tup [.int (i : Nat), x]) :=
      ⟨by show 2 ≤ sizeLine; decide, [.int i tk, y], .cons ⟨_, rfl⟩ (.cons ru .nil), ⟨_, hT2, rfl, _, rfl⟩⟩
    have I1 : Inv X pins σ (upd H s.heap.objs.size (.tup [.int (i : Nat), x])) { s with heap := h'', toks := tk + 1 } :=
      I.turnedNew (ch := [e, it]) (fun b ob hb q => (sb.2 b (fun z => hb (by simp [z]))).trans (hk b ob (fun z => hb (by simp [z])) (fun z => hb (by simp [z])) q)) hf (Nat.le_refl _) new
    refine ⟨.ref s.heap.objs.size, _, I1, rfl, ⟨_, x, rfl, I.hok.fresh (Nat.le_refl _), rfl, fun ys hy => by rw [I.tuple_inj hy hq]; exact hx⟩, ⟨⟨y, ?_⟩, hst.1.at fun o q => (sb.2 it (Ne.symm hne)).trans q, hne⟩, fun b hb => ?_⟩
    · have e1 : ((i + 1 : Nat) : Int) = (i : Int) + 1 := by omega
      rw [e1]; exact he'
    · have hb' : b < s.heap.objs.size := by
        have e' : b = e ∨ b = it := by simpa using hb
        rcases e' with z | z
        · rw [z]; exact hel
        · rw [z]; exact hil
      rw [upd_ne (Nat.ne_of_lt hb')]
      exact (hf b hb).1
  done := by
    intro X hP hw hK hc i pins s σ H E I hf st hg
    subst hP hw hK
    obtain ⟨⟨old, he⟩, hit, hne⟩ := st
    obtain ⟨xs, hq, hx⟩ := hg
    obtain ⟨its, rv, p, hz⟩ := I.tuple hq
    obtain ⟨f0, f1, f2, f3, f4, f5⟩ := hf it (by simp)
    have hl := rv.length
    exact enum_endT (I.ok.hd hc) he hit p (by simp; omega) fun h' eb => ⟨rfl, I.turned (t' := s.toks) (fun b o hb q => eb b o hb q) f0 f1 f3 f4 f5⟩
  self := fun A i s Q E st h => let ⟨⟨_, he⟩, _⟩ := st; wpAny_pyIter_enum he h
def iEnumT (K : PySem.W.Frag) (ta : TA) : TI := fun σ H R => ta σ H fun vs H1 => ∃ a xs, vs = [.ref a] ∧ SqT K H1 a xs ∧ R (IteT K a) H1
theorem pi_enumT {X : Cx} {e : Expr} {ta : TA} {p pos tpos : Pos} {elts : List Expr} {kk : Nat} (hg : Gl X "enumerate") (hm : X.mg "enumerate" = none) (ha : PA X [e] ta) (hs : starEach [e] X.env = [(false, eval e X.env)] := by rfl) :
    PI X (.Tuple elts kk tpos) (.Call (.Name "enumerate" p) [e] [] pos) (iEnumT X.K ta) := by
  refine ⟨fun pins s σ H R I h => ?_⟩
  refine Call_ (ld_blt I hg hm boot_enumerate (PyProof.Rows.callWith_type1 (thn (ha.run pos pins s σ H _ I h) fun us s1 ⟨vs, H1, I1, r1, q1⟩ => ?_) hs rfl))
  obtain ⟨a, xs, ex, hq, q⟩ := q1
  subst ex
  cases r1 with
  | cons r rr =>
    cases rr
    cases r
    obtain ⟨its, rv, p', hz⟩ := I1.tuple hq
    have hal : a < s1.heap.objs.size := p'.lt
    refine enum_begins1 (begins_tuple a its.toArray) p' fun h' he hit hsz hk => wpAny_pyIter_enum he ?_
    have I2 : Inv X pins σ H1 { s1 with heap := h' } := I1.kept (t' := s1.toks) hk
    refine ⟨s1.heap.objs.size + 1, [s1.heap.objs.size + 1, s1.heap.objs.size], _, _, H1, rfl, I2, turn_enumT a (s1.heap.objs.size + 1) s1.heap.objs.size (Nat.ne_of_lt hal) (Nat.ne_of_gt (Nat.lt_succ_of_lt hal)), ⟨⟨.none, he⟩, ⟨_, hit, rfl, rfl⟩, Nat.succ_ne_self _⟩, fun b hb => ?_, q⟩
    have e' : b = s1.heap.objs.size + 1 ∨ b = s1.heap.objs.size := by simpa using hb
    have hle : s1.heap.objs.size ≤ b := by
      rcases e' with z | z
      · rw [z]; exact Nat.le_add_right _ _
      · rw [z]; exact Nat.le_refl _
    exact I1.fpOk hle (I1.hok.fresh hle)
end L2
namespace DL
open PySem L2
section
variable {X : Cx} {C : CA} {c : Cs} {e : Expr} {fa : AF} {f : EF} {pos p : Pos}
def enumL (xs : List D) : List D := xs.mapIdx fun i d => .tup [.int (i : Nat), d]
theorem enumL_length (xs : List D) : (enumL xs).length = xs.length := by simp [enumL]
theorem enumL_get {xs : List D} {i : Nat} {d : D} (h : xs[i]? = some d) : (enumL xs)[i]? = some (.tup [.int (i : Nat), d]) := by simp [enumL, h]
theorem wk_enum {K : PySem.W.Frag} {F : Hp} {a : Addr} {vs : List V} {ds : List D} (h : F a = some (.lst vs)) (hl : vs.length ≤ sizeLine) (r : RpAll K C F vs ds) : Wk K C (Ite K a) F (enumL ds) := by
  have w := walk_enum (K := K) (a := a) (xs := vs)
  have el := enumL_length ds
  rw [r.length] at w
  refine ⟨fun i F' H s1 s2 hi => w.goes i H (el ▸ hi) (SqL.of (s2 _ _ (s1 _ _ h))), fun F' H s1 s2 => by rw [el]; exact w.stops H (SqL.of (s2 _ _ (s1 _ _ h))), fun i F' H x H' s1 s2 hi y => ?_, by rw [el, ← r.length]; exact hl⟩
  obtain ⟨T, i', x', rfl, hT, rfl, e1, e2⟩ := w.yields i H x H' (el ▸ hi) (SqL.of (s2 _ _ (s1 _ _ h))) y
  cases e1
  obtain ⟨d, hd, rd⟩ := r.get e2
  have ex : Ext F' H (upd F' T (.tup [.int (i : Nat), x'])) (upd H T (.tup [.int (i : Nat), x'])) := Ext.laid s2 hT
  exact ⟨_, _, ex, enumL_get hd, .tup (SqT.of upd_same) (by rw [sizeLine_eq]; show 2 ≤ 16777216; decide) (.cons (.int _) (.one (rd.mono (s1.trans ex.sub))))⟩
theorem wk_enumT {K : PySem.W.Frag} {F : Hp} {a : Addr} {vs : List V} {ds : List D} (h : SqT K F a vs) (hl : vs.length ≤ sizeLine) (r : RpAll K C F vs ds) : Wk K C (IteT K a) F (enumL ds) := by
  have el := enumL_length ds
  refine ⟨fun i F' H s1 s2 hi => ?_, fun F' H s1 s2 => ⟨vs, SqT.sub s2 (SqT.sub s1 h), by rw [el, r.length]; exact Nat.le_refl _⟩, fun i F' H x H' s1 s2 hi y => ?_, by rw [el, ← r.length]; exact hl⟩
  · rw [el, ← r.length] at hi
    exact ⟨vs, vs[i], SqT.sub s2 (SqT.sub s1 h), by simp [hi]⟩
  · obtain ⟨T, x', rfl, hT, rfl, e2⟩ := y
    obtain ⟨d, hd, rd⟩ := r.get (e2 vs (SqT.sub s2 (SqT.sub s1 h)))
    have ex : Ext F' H (upd F' T (.tup [.int (i : Nat), x'])) (upd H T (.tup [.int (i : Nat), x'])) := Ext.laid s2 hT
    exact ⟨_, _, ex, enumL_get hd, .tup (SqT.of upd_same) (by rw [sizeLine_eq]; show 2 ≤ 16777216; decide) (.cons (.int _) (.one (rd.mono (s1.trans ex.sub))))⟩
def iEn (f : EF) : IF := fun env => (f env).bind fun p => match p.1 with
  | .val d => (itmsS d).bind fun xs => some (enumL xs, p.2)
  | .slot _ => none
theorem di_enum {elts : List Expr} {kk : Nat} {tpos : Pos} (hm : X.mg "enumerate" = none) (h : DE X C c e f) (hg : Gl X "enumerate" := by rfl) (hs : starEach [e] X.env = [(false, eval e X.env)] := by rfl) (hs0 : starEach (e :: []) X.env = (false, eval e X.env) :: starEach [] X.env := by rfl) : DI X C c (.Tuple elts kk tpos) (.Call (.Name "enumerate" p) [e] [] pos) (iEn f) := by
  refine PI.imp (PI.or (pi_enum hg hm (pa_cons h pa_nil hs0) hs) (pi_enumT hg hm (pa_cons h pa_nil hs0) hs)) fun σ H R ⟨z, F, env, ds, env', S, e, k⟩ => ?_
  simp only [iEn, Option.bind_eq_some_iff] at e
  obtain ⟨⟨b, e1⟩, h1, e⟩ := e
  cases b with
  | slot _ => cases e
  | val d =>
    obtain ⟨xs, h2, e⟩ := Option.bind_eq_some_iff.mp e
    cases e
    cases d <;> simp only [itmsS] at h2 <;> try (cases h2; done)
    · cases h2
      refine .inl ⟨z, F, env, _, e1, S, h1, fun v F1 H1 s1 S1 r1 => ?_⟩
      cases r1 with
      | lst q ql r => exact ⟨_, _, rfl, SqL.of (S1.sub _ _ q), k _ F1 H1 s1 S1 (wk_enum q ql r)⟩
    · cases h2
      refine .inr ⟨z, F, env, _, e1, S, h1, fun v F1 H1 s1 S1 r1 => ?_⟩
      cases r1 with
      | tup q ql r => exact ⟨_, _, rfl, SqT.sub S1.sub q, k _ F1 H1 s1 S1 (wk_enumT q ql r)⟩
end
end DL

namespace DL
open PySem L2
def wipeE (env : Env) : List Nat → Env
  | [] => env
  | v :: vs => st (wipeE env vs) v none
def backE (env : Env) : List Nat → Env → Env
  | [], e => e
  | v :: vs, e => st (backE env vs e) v (gt env v)
theorem backE_length (env e : Env) : ∀ own : List Nat, (backE env own e).length = e.length
  | [] => rfl
  | v :: vs => by show (st (backE env vs e) v _).length = _; rw [st_length, backE_length env e vs]
theorem gt_none {e : Env} {i : Nat} (h : e.length ≤ i) : gt e i = none := by
  cases q : gt e i with
  | none => rfl
  | some d => exact absurd (gt_lt q) (by omega)
theorem gt_backE_in {env e : Env} (hl : e.length = env.length) {j : Nat} : ∀ {own : List Nat}, j ∈ own → gt (backE env own e) j = gt env j
  | v :: vs, h => by
    show gt (st (backE env vs e) v (gt env v)) j = _
    by_cases q : v = j
    · subst q
      by_cases lt : v < (backE env vs e).length
      · exact gt_st lt
      · rw [gt_none (by rw [st_length]; omega), gt_none (by rw [backE_length, hl] at lt; omega)]
    · rw [gt_st_ne q]
      rcases List.mem_cons.mp h with z | z
      · exact absurd z.symm q
      · exact gt_backE_in hl z
theorem gt_backE_out {env e : Env} {j : Nat} : ∀ {own : List Nat}, j ∉ own → gt (backE env own e) j = gt e j
  | [], _ => rfl
  | v :: vs, h => by
    show gt (st (backE env vs e) v (gt env v)) j = _
    have h1 : v ≠ j := fun q => h (q ▸ List.mem_cons_self ..)
    rw [gt_st_ne h1]
    exact gt_backE_out fun q => h (List.mem_cons_of_mem _ q)
section
variable {K : PySem.W.Frag} {C : CA} {c : Cs} {z : Zn} {F F' : Hp} {env env' : Env} {σ : St} {H H' : Hp}
theorem SRo.wipe1 (S : SRo K C c z F env σ H) {i : Nat} (hi : i ∉ c.O) : SRo K C c z F (st env i none) (σ.set i none) H := by
  refine ⟨S.sub, S.f0, S.new, S.keep, by rw [st_length, List.length_set]; exact S.len, by rw [st_length]; exact S.num, fun j e h hj => ?_, fun j e h hj => ?_, fun j k dj dk b hj hk hjk ej ek sj sk => ?_, S.iol, S.gho, fun b e j e2 h hj ej => ?_, S.ghn, fun k j hk => ?_⟩
  · obtain ⟨hij, h⟩ := gt_st_none h
    rw [List.getElem?_set_ne hij]
    exact S.pur j e h hj
  · obtain ⟨hij, h⟩ := gt_st_none h
    rw [List.getElem?_set_ne hij]
    exact S.own j e h hj
  · obtain ⟨h1, ej⟩ := gt_st_none ej
    obtain ⟨h2, ek⟩ := gt_st_none ek
    rw [List.getElem?_set_ne h1] at sj
    rw [List.getElem?_set_ne h2] at sk
    exact S.dist j k dj dk b hj hk hjk ej ek sj sk
  · obtain ⟨h1, ej⟩ := gt_st_none ej
    rw [List.getElem?_set_ne h1]
    exact S.ghd b e j e2 h hj ej
  · obtain ⟨h1, b, e, h2, h3, h4⟩ := S.ios k j hk
    have hij : i ≠ j := fun q => hi (q ▸ h1)
    exact ⟨h1, b, e, h2, by rw [List.getElem?_set_ne hij]; exact h3, by rw [gt_st_ne hij]; exact h4⟩
theorem SRo.back {e1 : Env} {F1 H1 : Hp} {own : List Nat} (S0 : SRo K C c z F env σ H) (S1 : SRo K C c z F1 e1 (L2.wipe σ own) H1) (s : Same F F1) (ho : ∀ j ∈ own, j ∉ c.O) : SRo K C c z F1 (backE env own e1) σ H1 := by
  have le : e1.length = env.length := by rw [S1.num, S0.num]
  have out : ∀ j, j ∈ c.O → j ∉ own := fun j hj hq => ho j hq hj
  refine ⟨S1.sub, S1.f0, S1.new, S1.keep, by rw [backE_length, le]; exact S0.len, by rw [backE_length]; exact S1.num, fun j e h hj => ?_, fun j e h hj => ?_, fun j k dj dk b hj hk hjk ej ek sj sk => ?_, S1.iol, S1.gho, fun b e j e2 h hj ej => ?_, S1.ghn, fun k j hk => ?_⟩
  · by_cases q : j ∈ own
    · rw [gt_backE_in le q] at h
      obtain ⟨v, h1, h2⟩ := S0.pur j e h hj
      exact ⟨v, h1, h2.mono s⟩
    · rw [gt_backE_out q] at h
      obtain ⟨v, h1, h2⟩ := S1.pur j e h hj
      exact ⟨v, by rw [← wipe_out q]; exact h1, h2⟩
  · rw [gt_backE_out (out j hj)] at h
    rw [← wipe_out (out j hj)]
    exact S1.own j e h hj
  · rw [gt_backE_out (out j hj)] at ej
    rw [gt_backE_out (out k hk)] at ek
    rw [← wipe_out (out j hj)] at sj
    rw [← wipe_out (out k hk)] at sk
    exact S1.dist j k dj dk b hj hk hjk ej ek sj sk
  · rw [gt_backE_out (out j hj)] at ej
    rw [← wipe_out (out j hj)]
    exact S1.ghd b e j e2 h hj ej
  · obtain ⟨h1, b, e, h2, h3, h4⟩ := S1.ios k j hk
    exact ⟨h1, b, e, h2, by rw [← wipe_out (out j h1)]; exact h3, by rw [gt_backE_out (out j h1)]; exact h4⟩
/-- the object kept in mind is written -/
theorem SRo.gwrite {a : Addr} {d d' : D} {gs : List (Addr × D)} {o : HO} (S : SRo K C c { z with gh := (a, d) :: gs } F env σ H) (ho : Own K C F (upd H a o) a d') : SRo K C c { z with gh := (a, d') :: gs } F env σ (upd H a o) := by
  obtain ⟨h1, h2, h3⟩ := S.gho a d (List.mem_cons_self ..)
  have nd := S.ghn
  rw [List.map_cons, List.nodup_cons] at nd
  have same : ∀ b u, F b = some u → b ≠ a := fun b u h q => by subst q; rw [h1] at h; cases h
  refine ⟨fun b u h => by rw [upd_ne (same b u h)]; exact S.sub _ _ h, S.f0, S.new, fun b u h hb => ?_, S.len, S.num, S.pur, fun j e h hj => ?_, S.dist, S.iol, fun b e h => ?_, fun b e j e2 h hj ej => ?_, ?_, S.ios⟩
  · have hne : b ≠ a := by
      rintro rfl
      have h3' : z.H0 b = none := h3
      have h' : z.H0 b = some u := h
      rw [h3'] at h'; cases h'
    rw [upd_ne hne]; exact S.keep b u h hb
  · obtain ⟨b, q1, q2, q3, q4⟩ := S.own j e h hj
    have hne : b ≠ a := fun q => S.ghd a d j e (List.mem_cons_self ..) hj h (q ▸ q1)
    exact ⟨b, q1, q2, q3.mono (Same.refl _) (upd_ne hne), q4⟩
  · rcases List.mem_cons.mp h with q | q
    · cases q; exact ⟨h1, ho, h3⟩
    · obtain ⟨q1, q2, q3⟩ := S.gho b e (List.mem_cons_of_mem _ q)
      have hne : b ≠ a := fun z => nd.1 (z ▸ List.mem_map.mpr ⟨_, q, rfl⟩)
      exact ⟨q1, q2.mono (Same.refl _) (upd_ne hne), q3⟩
  · rcases List.mem_cons.mp h with q | q
    · cases q; exact S.ghd a d j e2 (List.mem_cons_self ..) hj ej
    · exact S.ghd b e j e2 (List.mem_cons_of_mem _ q) hj ej
  · rw [List.map_cons, List.nodup_cons]; exact nd

theorem wipe_app {τ : St} : ∀ {own : List Nat} {σ : St}, (∀ j ∈ own, j < σ.length) → L2.wipe (σ ++ τ) own = L2.wipe σ own ++ τ
  | [], _, _ => rfl
  | v :: vs, σ, h => by
    show (L2.wipe (σ ++ τ) vs).set v none = (L2.wipe σ vs).set v none ++ τ
    rw [wipe_app fun j hj => h j (List.mem_cons_of_mem _ hj)]
    exact List.set_append_left _ _ (by rw [wipe_length]; exact h v (List.mem_cons_self ..))
theorem SR.wipe1 (S : SR K C c z F env σ H) {i : Nat} (hi : i ∉ c.O) (hn : i < c.n) : SR K C c z F (st env i none) (σ.set i none) H := by
  have h := S.b.wipe1 (x_notO hi hn)
  rw [S.setC hn] at h
  exact ⟨h, by rw [List.length_set]; exact S.ln, S.hO, S.hio⟩
theorem SR.wipe (S : SR K C c z F env σ H) : ∀ {own : List Nat}, (∀ j ∈ own, j ∉ c.O ∧ j < c.n) → SR K C c z F (wipeE env own) (L2.wipe σ own) H
  | [], _ => S
  | v :: vs, h => (SR.wipe S (own := vs) fun j hj => h j (List.mem_cons_of_mem _ hj)).wipe1 (h v (List.mem_cons_self ..)).1 (h v (List.mem_cons_self ..)).2
theorem SR.back {e1 : Env} {F1 H1 : Hp} {own : List Nat} (S0 : SR K C c z F env σ H) (S1 : SR K C c z F1 e1 (L2.wipe σ own) H1) (s : Same F F1) (ho : ∀ j ∈ own, j ∉ c.O ∧ j < c.n) : SR K C c z F1 (backE env own e1) σ H1 := by
  have h1 := S1.b
  rw [← wipe_app (τ := cells C c) fun j hj => by rw [S0.ln]; exact (ho j hj).2] at h1
  exact ⟨S0.b.back h1 s fun j hj => x_notO (ho j hj).1 (ho j hj).2, S0.ln, S0.hO, S0.hio⟩
theorem SR.aptB {e1 : Env} {own : List Nat} {D : Addr} (S0 : SR K C c z F env σ H) (ho : ∀ j ∈ own, j ∉ c.O ∧ j < c.n) (ap : Apt C c e1 (L2.wipe σ own) D) : Apt C c (backE env own e1) σ D := fun j e hj ej => by
  have hjo : j ∉ own := fun q => x_notO (ho j q).1 (ho j q).2 hj
  rw [gt_backE_out hjo] at ej
  have := ap j e hj ej
  rwa [← wipe_app (τ := cells C c) fun j hj => by rw [S0.ln]; exact (ho j hj).2, wipe_out hjo] at this
theorem SR.gwrite {a : Addr} {d d' : D} {gs : List (Addr × D)} {o : HO} (S : SR K C c { z with gh := (a, d) :: gs } F env σ H) (ho : Own K C F (upd H a o) a d') : SR K C c { z with gh := (a, d') :: gs } F env σ (upd H a o) := ⟨S.b.gwrite ho, S.ln, S.hO, S.hio⟩
end
section
variable {m : Bool} {X : Cx} {C : CA} {c : Cs} {e a b o : Expr} {es : List Expr} {fa : AF} {f g : EF} {pos p apos cpos : Pos} {x : Str}
def tYesF : TF := fun env => some (true, env)
def DTs (X : Cx) (C : CA) (c : Cs) (es : List Expr) (f : TF) : Prop := PTs X es (tT X.K C c f)
theorem dts_nil : DTs X C c [] tYesF := ⟨fun pins s σ H Q I ⟨z, F, env, k, env', S, e, h⟩ => pts_nil.run pins s σ H Q I (by cases e; exact h F H (Same.refl _) S)⟩
theorem dts_one {t : TF} (h : DT X C c e t) : DTs X C c [e] t := pts_one h
/-- the turns of a comprehension: what is made so far -/
def lcD (gg : GF) (tt : TF) (f : EF) (own : List Nat) : List D → Env → List D → Option (List D × Env)
  | [], env, acc => some (acc, env)
  | d :: ds, env, acc => (gg d env).bind fun e1 => (tt e1).bind fun r => if r.1 = true then (f r.2).bind fun p => (match p.1 with
    | .val y => lcD gg tt f own ds (wipeE p.2 own) (acc ++ [y])
    | .slot _ => none) else lcD gg tt f own ds (wipeE r.2 own) acc
def oLc (i : IF) (gg : GF) (tt : TF) (f : EF) (own : List Nat) : OF := fun env => (i env).bind fun p => (lcD gg tt f own p.1 (wipeE p.2 own) []).bind fun r => some (.lst r.1, backE p.2 own r.2)
theorem wipe_idem : ∀ (own : List Nat) (σ : St), L2.wipe (L2.wipe σ own) own = L2.wipe σ own := by
  intro own σ
  have cong : ∀ (own : List Nat) (σ1 σ2 : St), σ1.length = σ2.length → (∀ j, j ∉ own → σ1[j]? = σ2[j]?) → L2.wipe σ1 own = L2.wipe σ2 own := by
    intro own σ1 σ2 hl h
    refine List.ext_getElem? fun j => ?_
    by_cases q : j ∈ own
    · have z : ∀ σ : St, (L2.wipe σ own)[j]? = if j < σ.length then some none else none := by
        intro σ
        by_cases lt : j < σ.length
        · rw [if_pos lt]
          cases e : (L2.wipe σ own)[j]? with
          | none => rw [List.getElem?_eq_none_iff, wipe_length] at e; omega
          | some v =>
            cases v with
            | none => rfl
            | some v => exact absurd q (wipe_some e).2
        · rw [if_neg lt, List.getElem?_eq_none_iff, wipe_length]; omega
      rw [z, z, hl]
    · rw [wipe_out q, wipe_out q, h j q]
  exact cong own _ _ (wipe_length σ own) fun j hj => wipe_out hj
/-- the reading of a comprehension -/
theorem lc_read {tt : TF} {gg : GF} {ts own : List Nat} {f : EF} {fi : IF} {σ : St} {H : Hp} {Q : VK} {z : Zn} {F : Hp} {env env' : Env} {d : D} (ho : ∀ j ∈ own, j ∉ c.O ∧ j < c.n) (hts : ∀ t ∈ ts, t ∈ own) (S : SR X.K C c z F env σ H) (e : oLc fi gg tt f own env = some (d, env'))
    (k : ∀ a F' H', Same F F' → SR X.K C c z F' env' σ H' → F' a = none → z.H0 a = none → Own X.K C F' H' a d → (Apt C c env' σ a) → (∀ e, (a, e) ∉ z.gh) → Q (.ref a) H') :
    tLc (tI X.K C c fi) (tG X.K C c ts gg) (tT X.K C c tt) (tE X.K C c f) own σ H Q := by
  simp only [oLc, Option.bind_eq_some_iff] at e
  obtain ⟨⟨ds, e1⟩, h1, ⟨res, e2⟩, h2, e⟩ := e
  cases e
  refine ⟨z, F, env, ds, e1, S, h1, fun J F1 H1 s1 S1 W D hD => ?_⟩
  obtain ⟨S2, fD, zD, apD, ngD⟩ := S1.newO (o := .lst []) hD
  have S3 := (S2.ghost (d := .lst []) fD zD ⟨[], upd_same, Nat.zero_le _, .nil⟩ apD ngD).wipe ho
  refine ⟨fun i n H => n = ds.length - i ∧ i ≤ ds.length ∧ ∃ F4 env4 acc, Same F1 F4 ∧ SR X.K C c { z with gh := (D, .lst acc) :: z.gh } F4 env4 (L2.wipe σ own) H ∧ acc.length ≤ i ∧ lcD gg tt f own (ds.drop i) env4 acc = some (res, e2), ⟨ds.length, by simp, Nat.zero_le _, F1, _, [], Same.refl _, S3, Nat.zero_le _, h2⟩, ?_⟩
  rintro i n H4 ⟨rfl, hi, F4, env4, acc, s4, S4, hacc, e4⟩
  by_cases hlt : i < ds.length
  · refine .inr ⟨W.go i F4 H4 s4 S4.sub hlt, fun H' => ∃ F5 env5 acc5, Same F1 F5 ∧ SR X.K C c { z with gh := (D, .lst acc5) :: z.gh } F5 env5 (L2.wipe σ own) H' ∧ acc5.length ≤ i + 1 ∧ lcD gg tt f own (ds.drop (i + 1)) env5 acc5 = some (res, e2), fun H' ⟨F5, env5, acc5, q1, q2, q3, q4⟩ => ⟨ds.length - (i + 1), by omega, rfl, hlt, F5, env5, acc5, q1, q2, q3, q4⟩, fun x H5 y => ?_⟩
    obtain ⟨F5, dx, ex, hd, r⟩ := W.yld i F4 H4 x H5 s4 S4.sub hlt y
    have ed : ds.drop i = dx :: ds.drop (i + 1) := by
      rw [List.drop_eq_getElem_cons hlt]
      obtain ⟨_, q⟩ := List.getElem?_eq_some_iff.mp hd
      rw [q]
    rw [ed] at e4
    obtain ⟨e5, h5, e4⟩ := Option.bind_eq_some_iff.mp e4
    obtain ⟨⟨k6, e6⟩, h6, e4⟩ := Option.bind_eq_some_iff.mp e4
    refine ⟨_, F5, env4, dx, e5, S4.ext ex, r, h5, fun F6 σ6 H6 s6 S6 w6 => ?_⟩
    have w6' := (w6 own hts).trans (wipe_idem own σ)
    refine ⟨w6', _, F6, e5, k6, e6, S6, h6, fun F7 H7 s7 S7 => ?_⟩
    have s17 : Same F1 F7 := s4.trans (ex.sub.trans (s6.trans s7))
    cases k6 with
    | false =>
      refine iteF ⟨F7, wipeE e6 own, acc, s17, ?_, by omega, e4⟩
      have := S7.wipe ho
      rw [w6'] at this
      exact this
    | true =>
      obtain ⟨⟨b8, e8⟩, h8, e4⟩ := Option.bind_eq_some_iff.mp e4
      refine iteT ⟨_, F7, e6, b8, e8, S7, h8, fun v F8 H8 s8 S8 r8 => ?_⟩
      cases b8 with
      | slot _ => cases e4
      | val yd =>
        obtain ⟨q1, q2, q3⟩ := S8.gho D (.lst acc) (List.mem_cons_self ..)
        obtain ⟨vs, q4, q5, q6⟩ := q2
        have hlen : vs.length < sizeLine := by
          have := W.size
          rw [q6.length]; omega
        refine ⟨vs, q4, hlen, F8, wipeE e8 own, acc ++ [yd], s17.trans s8, ?_, by rw [List.length_append, List.length_singleton]; omega, e4⟩
        have S9 := (S8.gwrite (d' := .lst (acc ++ [yd])) (o := .lst (vs ++ [v])) ⟨_, upd_same, by rw [List.length_append]; exact hlen, q6.app (.one r8)⟩).wipe ho
        rw [w6'] at S9
        exact S9
  · have q : i = ds.length := by omega
    subst q
    rw [List.drop_length] at e4
    cases e4
    refine .inl ⟨W.stop F4 H4 s4 S4.sub, ?_⟩
    obtain ⟨S5, fa, za, ow, ap, ng⟩ := S4.unghost
    have S6 : SR X.K C c z F4 (backE e1 own e2) σ H4 := S1.back S5 s4 ho
    refine k D F4 H4 (s1.trans s4) S6 fa za ow (S1.aptB ho ap) ng
theorem do_lc {elt tg iter : Expr} {ifs : List Expr} {scope : Scope} {fi : IF} {gg : GF} {tt : TF} {ts : List Nat} (own : List (Str × Nat)) (hN : X.N.Nodup) (hi : DI X C c tg iter fi) (ok : BlkOk X.N X.env.scope scope own)
    (hg : ∀ (s : Shared) (H : Hp) (C' : Addr) (cl : List (Str × Addr)) (fp : List Addr), DG (X.blk s H scope (compEnvC scope cl C' X.env) fp) C c tg ts gg) (ht : ∀ (s : Shared) (H : Hp) (C' : Addr) (cl : List (Str × Addr)) (fp : List Addr), DTs (X.blk s H scope (compEnvC scope cl C' X.env) fp) C c ifs tt)
    (he : ∀ (s : Shared) (H : Hp) (C' : Addr) (cl : List (Str × Addr)) (fp : List Addr), DE (X.blk s H scope (compEnvC scope cl C' X.env) fp) C c elt f) (ho : ∀ j ∈ own.map (·.2), j ∉ c.O ∧ j < c.n := by decide) (hts : ∀ t ∈ ts, t ∈ own.map (·.2) := by decide) (hc : X.calm = true := by rfl) (hs : ∀ x, foldedSetIterable iter X.env x = pure x := by intro _; rfl) :
    DO X C c (.ListComp elt [⟨tg, iter, ifs, 0⟩] scope pos) (oLc fi gg tt f (own.map (·.2))) := by
  refine PE.imp (pe_lc (wi := tI X.K C c fi) (g := tG X.K C c ts gg) (tt := tT X.K C c tt) (te := tE X.K C c f) hc hN hi ok (fun s H C' cl fp => hg s H C' cl fp) (fun s H C' cl fp => ht s H C' cl fp) (fun s H C' cl fp => he s H C' cl fp) hs) fun σ H Q ⟨z, F, env, d, env', S, e, k⟩ => ?_
  exact lc_read ho hts S e k
theorem oLc_lst {i : IF} {gg : GF} {tt : TF} {f : EF} {own : List Nat} {env e1 : Env} {d : D} (h : oLc i gg tt f own env = some (d, e1)) : ∃ ds, d = .lst ds := by
  simp only [oLc, Option.bind_eq_some_iff] at h
  obtain ⟨_, _, _, _, e⟩ := h
  cases e
  exact ⟨_, rfl⟩
/-- .. as data -/
theorem ds_setLcP (i : Nat) {y : Str} {py spos : Pos} {elt tg iter : Expr} {ifs : List Expr} {scope : Scope} {fi : IF} {gg : GF} {tt : TF} {ts : List Nat} (own : List (Str × Nat)) (hN : X.N.Nodup) (hi : DI X C c tg iter fi) (ok : BlkOk X.N X.env.scope scope own)
    (hg : ∀ (s : Shared) (H : Hp) (C' : Addr) (cl : List (Str × Addr)) (fp : List Addr), DG (X.blk s H scope (compEnvC scope cl C' X.env) fp) C c tg ts gg) (ht : ∀ (s : Shared) (H : Hp) (C' : Addr) (cl : List (Str × Addr)) (fp : List Addr), DTs (X.blk s H scope (compEnvC scope cl C' X.env) fp) C c ifs tt)
    (he : ∀ (s : Shared) (H : Hp) (C' : Addr) (cl : List (Str × Addr)) (fp : List Addr), DE (X.blk s H scope (compEnvC scope cl C' X.env) fp) C c elt f) (hsw : swapsWith (.ListComp elt [⟨tg, iter, ifs, 0⟩] scope pos) (some (.Name y py)) spos.line X.env = pure true)
    (ho : ∀ j ∈ own.map (·.2), j ∉ c.O ∧ j < c.n := by decide) (hts : ∀ t ∈ ts, t ∈ own.map (·.2) := by decide) (hO : i ∉ c.O := by decide) (hn : i < c.n := by decide) (hy : X.N[i]? = some y := by rfl) (hyl : X.env.scope.names.lookup y = some .local := by rfl) (hc : X.calm = true := by rfl) (hs : ∀ x, foldedSetIterable iter X.env x = pure x := by intro _; rfl) :
    DS m X C c (.Assign [.Name y py] (.ListComp elt [⟨tg, iter, ifs, 0⟩] scope pos) spos) (sSet i (fO (oLc fi gg tt f (own.map (·.2))))) := by
  refine PS.imp (ps_setLc (wi := tI X.K C c fi) (g := tG X.K C c ts gg) (tt := tT X.K C c tt) (te := tE X.K C c f) hc hN hy hyl hsw hi ok (fun s H C' cl fp => hg s H C' cl fp) (fun s H C' cl fp => ht s H C' cl fp) (fun s H C' cl fp => he s H C' cl fp) hs) fun Dn σ H ⟨z, F, env, fl, S, hgh, e, k⟩ => ?_
  simp only [sSet, fO, Option.bind_eq_some_iff] at e
  obtain ⟨r, ⟨⟨d, e1⟩, h1, e0⟩, e⟩ := e
  cases e0
  cases e
  exact lc_read ho hts S h1 fun a F1 H1 s1 S1 fa za ow ap ng => by
    obtain ⟨ds, rfl⟩ := oLc_lst h1
    obtain ⟨o, S2, s2, r⟩ := S1.freezeL fa za ow ap ng
    exact k _ _ H1 (s1.trans s2) (S2.setP hO hn r)
end
end DL

namespace DL
open PySem L2
/-! ### what a def promises -/
abbrev FF := List D → Option (D × List D)
structure ArgsR (K : PySem.W.Frag) (C : CA) (io : List Nat) (F H : Hp) (vs : List V) (ds : List D) : Prop where
  len : vs.length = ds.length
  pur : ∀ (i : Nat) v d, vs[i]? = some v → ds[i]? = some d → i ∉ io → Rp K C F v d
  own : ∀ (i : Nat), i ∈ io → ∃ a d, vs[i]? = some (.ref a) ∧ ds[i]? = some d ∧ F a = none ∧ Own K C F H a d
  dist : ∀ (i j : Nat) a, i ∈ io → j ∈ io → i ≠ j → vs[i]? = some (.ref a) → vs[j]? ≠ some (.ref a)
structure Done (m : Bool) (K : PySem.W.Frag) (C : CA) (io : List Nat) (F H : Hp) (vs : List V) (F' H' : Hp) (v : V) (r : D) (outs : List D) : Prop where
  sub : Same F F'
  inn : Same F' H'
  new : ∀ b o, F' b = some o → F b = some o ∨ H b = none
  keep : ∀ b o, H b = some o → (∀ (i : Nat), i ∈ io → vs[i]? ≠ some (.ref b)) → H' b = some o
  ios : ∀ (k i : Nat) a, io[k]? = some i → vs[i]? = some (.ref a) → ∃ d, outs[k]? = some d ∧ F' a = none ∧ Own K C F' H' a d
  val : if m = true then ∃ a, v = .ref a ∧ H a = none ∧ F' a = none ∧ Own K C F' H' a r else Rp K C F' v r
def spF (K : PySem.W.Frag) (C : CA) (io : List Nat) (m : Bool) (np : Nat) (f : FF) : Sp := fun vs H Q _ => ∃ F ds r outs, Same F H ∧ vs.length = np ∧ ArgsR K C io F H vs ds ∧ f ds = some (r, outs) ∧
  ∀ v F' H', Done m K C io F H vs F' H' v r outs → Q v H'
def env0 (n : Nat) (ds : List D) : Env := ds.map some ++ List.replicate (n - ds.length) none
def outsOf (env : Env) : List Nat → Option (List D)
  | [] => some []
  | i :: is => (gt env i).bind fun d => (outsOf env is).bind fun ds => some (d :: ds)
def endF (io : List Nat) : Fl → Option (D × List D)
  | .rt d env => (outsOf env io).bind fun os => some (d, os)
  | .nx env => (outsOf env io).bind fun os => some (.non, os)
  | _ => none
def runF (c : Cs) (fb : SF) : FF := fun ds => (fb (env0 c.n ds)).bind fun fl => endF c.io fl
theorem gt_env0 {n : Nat} : ∀ {ds : List D} {i : Nat} {d : D}, gt (env0 n ds) i = some d ↔ ds[i]? = some d := by
  intro ds i d
  have aux : ∀ (k : Nat) (i : Nat), gt (List.replicate k none) i = none := by
    intro k
    induction k with
    | zero => intro i; rfl
    | succ k ih => intro i; cases i with
      | zero => rfl
      | succ i => exact ih i
  have main : ∀ (ds : List D) (k i : Nat), gt (ds.map some ++ List.replicate k none) i = ds[i]? := by
    intro ds
    induction ds with
    | nil => intro k i; simp [aux]
    | cons x xs ih => intro k i; cases i with
      | zero => rfl
      | succ i => simpa [gt] using ih k i
  unfold env0
  rw [main]
theorem outs_get {env : Env} : ∀ {io : List Nat} {os : List D}, outsOf env io = some os → ∀ (k i : Nat), io[k]? = some i → ∃ d, os[k]? = some d ∧ gt env i = some d
  | [], _, e, k, i, h => by simp at h
  | j :: io, _, e, k, i, h => by
    obtain ⟨d, h1, e⟩ := Option.bind_eq_some_iff.mp e
    obtain ⟨ds, h2, e⟩ := Option.bind_eq_some_iff.mp e
    cases e
    cases k with
    | zero => simp at h; subst h; exact ⟨d, rfl, h1⟩
    | succ k => simpa using outs_get h2 k i (by simpa using h)
section
variable {P : Program} {w : World} {K : PySem.W.Frag} {mg : Str → Option Value} {base : Heap} {x qual : Str} {params : Arguments} {body : List Stmt} {scope : Scope} {dvs : List V} {kws : List (Str × V)} {fa : Addr} {fd : FuncData}
/-- the addresses of the arguments that are handed in to be changed -/
def ioAs (io : List Nat) (vs : List V) : List Addr := io.map fun i => match vs[i]? with
  | some (V.ref a) => a
  | _ => (0 : Addr)
theorem ioAs_get {io : List Nat} {vs : List V} {k i : Nat} {a : Addr} (h : io[k]? = some i) (hv : vs[i]? = some (.ref a)) : (ioAs io vs)[k]? = some a := by
  unfold ioAs
  rw [List.getElem?_map, h]
  simp [hv]
/-- THE RULE: a def keeps the promise that its body's reading tells -/
theorem fun_ok {N ps : List Str} {k : Nat} {C : CA} {m : Bool} (c : Cs) (Fn : FunD K x qual params body scope dvs kws fa fd) (Sc : FnScope N ps scope) (fb : SF) (hn : c.n = N.length) (hio : ∀ i ∈ c.io, i < ps.length ∧ i ∈ c.O) (hO : ∀ i ∈ c.O, i < ps.length → i ∈ c.io) (hnx : m = true → ∀ env env', fb env ≠ some (.nx env'))
    (hbody : ∀ (cdv : Value) (A : Around) (outer : List PySem.Env) (s : Shared) (H : Hp) (E : XK), Room k (A.deeper (PyProof.Rows.envOfC qual scope s.heap.objs.size fa cdv)) → DSs m (cxOf CX0 P w K mg base N qual scope fa cdv A outer s H E).nox C c body fb)
    (hci : c.ci = [] := by rfl) (hcn : c.cn = [] := by rfl) (hOn : ∀ i ∈ c.O, i < c.n := by decide) : FnOk P w K mg base CX0 (k + 1) fa fd ps (spF K C c.io m ps.length (runF c fb)) := by
  refine Fn.ok Sc (fun vs H Q E ⟨F, ds, r, outs, s, hl, _⟩ => hl) fun cdv A outer s H vs Q E hr ⟨F, ds, r, outs, sb, hl, ar, e, kk⟩ => ?_
  refine ⟨_, PSs.nox (hbody cdv A outer s H E hr), ?_⟩
  obtain ⟨fl, e1, e2⟩ := Option.bind_eq_some_iff.mp e
  have hps : ps.length ≤ N.length := by have := congrArg List.length Sc.pre; rw [List.length_take] at this; omega
  have hdl : ds.length = ps.length := by rw [← ar.len]; exact hl
  have hst : ∀ (i : Nat) v, vs[i]? = some v → (L2.start N vs)[i]? = some (some v) := fun i v h => by
    unfold L2.start
    have lt : i < vs.length := (List.getElem?_eq_some_iff.mp h).1
    rw [List.getElem?_append_left (by simpa using lt), List.getElem?_map, h]
    rfl
  have el : (env0 c.n ds).length = c.n := by
    unfold env0
    rw [List.length_append, List.length_map, List.length_replicate]
    omega
  have xio : c.x.io = c.io := by rw [x_nil hci hcn]
  have S : SR K C c ⟨F, H, ioAs c.io vs, []⟩ F (env0 c.n ds) (L2.start N vs) H := by
    refine SRo.up ?_ hci hcn hOn
    refine ⟨sb, Same.refl _, fun b o h => .inl h, fun b o h _ => h, ?_, el, fun i d h hi => ?_, fun i d h hi => ?_, fun i j di dj a hi hj hij ei ej si sj => ?_, by simp [ioAs], fun a d h => (nomatch h), fun a d i e h => (nomatch h), List.nodup_nil, fun k i h => ?_⟩
    · rw [el, hn]
      unfold L2.start
      rw [List.length_append, List.length_map, List.length_replicate]
      omega
    · have hd := gt_env0.mp h
      have lt : i < vs.length := by rw [ar.len]; exact (List.getElem?_eq_some_iff.mp hd).1
      have hv : vs[i]? = some vs[i] := List.getElem?_eq_getElem lt
      exact ⟨_, hst i _ hv, ar.pur i _ d hv hd fun q => hi (hio i q).2⟩
    · have hd := gt_env0.mp h
      have lt : i < ps.length := by rw [← hdl]; exact (List.getElem?_eq_some_iff.mp hd).1
      have hi2 := hO i hi lt
      obtain ⟨a, d', h1, h2, h3, h4⟩ := ar.own i hi2
      rw [hd] at h2; cases h2
      obtain ⟨kq, hk⟩ := List.getElem?_of_mem hi2
      exact ⟨a, hst i _ h1, h3, h4, .inr ⟨hi2, List.mem_of_getElem? (ioAs_get hk h1)⟩⟩
    · have h1 := gt_env0.mp ei
      have h2 := gt_env0.mp ej
      have l1 : i < ps.length := by rw [← hdl]; exact (List.getElem?_eq_some_iff.mp h1).1
      have l2 : j < ps.length := by rw [← hdl]; exact (List.getElem?_eq_some_iff.mp h2).1
      obtain ⟨a1, _, q1, _⟩ := ar.own i (hO i hi l1)
      obtain ⟨a2, _, q2, _⟩ := ar.own j (hO j hj l2)
      have e1 := hst i _ q1
      have e2 := hst j _ q2
      rw [si] at e1; cases e1
      rw [sj] at e2; cases e2
      exact ar.dist i j a (hO i hi l1) (hO j hj l2) hij q1 q2
    · have hi := List.mem_of_getElem? h
      obtain ⟨a, d, h1, h2, h3, h4⟩ := ar.own i hi
      exact ⟨(hio i hi).2, a, d, ioAs_get h h1, hst i _ h1, gt_env0.mpr h2⟩
  have fin : ∀ v F' H' env', RetOk m K C c ⟨F, H, ioAs c.io vs, []⟩ F' env' H' v r → outsOf env' c.io = some outs → Q v H' := fun v F' H' env' R ho => by
    refine kk v F' H' ⟨R.f0, R.sub, R.new, fun b o h hb => R.keep b o h fun hm => ?_, fun k i a hk ha => ?_, ?_⟩
    · obtain ⟨i, hi, q⟩ := List.mem_map.mp hm
      obtain ⟨a, _, h1, _⟩ := ar.own i hi
      rw [h1] at q
      have q' : a = b := q
      subst q'
      exact hb i hi h1
    · obtain ⟨a', d, h1, h2, h3, h4⟩ := R.ios k i (by rw [xio]; exact hk)
      have h1' := ioAs_get hk ha
      have h1'' : (ioAs c.io vs)[k]? = some a' := h1
      rw [h1'] at h1''; cases h1''
      obtain ⟨d', q1, q2⟩ := outs_get ho k i hk
      rw [h2] at q2; cases q2
      exact ⟨d, q1, h3, h4⟩
    · have := R.val
      cases m with
      | false => exact this
      | true =>
        obtain ⟨a, h1, h2, h3, h4⟩ := this
        exact ⟨a, h1, h3, h2, h4⟩
  refine ⟨⟨F, H, ioAs c.io vs, []⟩, F, env0 c.n ds, fl, S, rfl, e1, ?_⟩
  cases fl with
  | nx env' =>
    obtain ⟨os, h1, h2⟩ := Option.bind_eq_some_iff.mp e2
    cases h2
    intro F' σ' H' s' S'
    cases m with
    | true => exact absurd e1 (hnx rfl _ _)
    | false => exact fin .non F' H' env' (S'.ret (m := false) .non) h1
  | rt d env' =>
    obtain ⟨os, h1, h2⟩ := Option.bind_eq_some_iff.mp e2
    cases h2
    intro v F' H' s' R
    exact fin v F' H' env' R h1
  | bk _ => cases e2
  | ct _ => cases e2
end
/-! ### calls -/
section
variable {X : Cx} {C : CA} {c : Cs} {e o : Expr} {es : List Expr} {fa : AF} {f : EF} {pos p apos : Pos} {x : Str} {k np : Nat} {fad : Addr} {fd : FuncData} {ps : List Str} {dv : List V} {ds0 : List Value} {ff : FF}
/-- f(..) of data; nothing handed in is changed; dd: the defaults -/
def fC0 (np : Nat) (ff : FF) (dd : List D) (fa : AF) : EF := fun env => (fa env).bind fun q => (vals q.1).bind fun ds => if (ds ++ dd).length = np then (ff (ds ++ dd)).bind fun r => some (.val r.1, q.2) else none
def oC0 (np : Nat) (ff : FF) (dd : List D) (fa : AF) : OF := fun env => (fa env).bind fun q => (vals q.1).bind fun ds => if (ds ++ dd).length = np then (ff (ds ++ dd)).bind fun r => some (r.1, q.2) else none
theorem args0 {K : PySem.W.Frag} {F H : Hp} {vs : List V} {ds : List D} (r : RpAll K C F vs ds) : ArgsR K C [] F H vs ds :=
  ⟨r.length, fun i v d h1 h2 _ => by
    obtain ⟨d', h3, h4⟩ := r.get h1
    rw [h2] at h3; cases h3
    exact h4, fun i h => (nomatch h), fun i j a h => (nomatch h)⟩
theorem Done.ext {m : Bool} {K : PySem.W.Frag} {F H F' H' : Hp} {vs : List V} {v : V} {r : D} {outs : List D} (d : Done m K C [] F H vs F' H' v r outs) : Ext F H F' H' := ⟨d.sub, d.inn, fun b o h => d.keep b o h fun i hi => (nomatch hi), d.new⟩
/-- the reading of a call without io -/
theorem call0_read {m : Bool} {F H : Hp} {vs : List V} {ds : List D} {dd : List D} {Q : VK} {r : D × List D} (s : Same F H) (rp : RpAll X.K C F vs ds) (hd : RpAll X.K C F dv dd) (hl : (vs ++ dv).length = np) (e : ff (ds ++ dd) = some r) (k : ∀ v F' H', Ext F H F' H' → (if m = true then ∃ a, v = .ref a ∧ H a = none ∧ F' a = none ∧ Own X.K C F' H' a r.1 else Rp X.K C F' v r.1) → Q v H') :
    spF X.K C [] m np ff (vs ++ dv) H Q E0 :=
  ⟨F, ds ++ dd, r.1, r.2, s, hl, args0 (rp.app hd), e, fun v F' H' dn => k v F' H' dn.ext dn.val⟩
theorem de_call0 {dd : List D} (Fk : FnOk X.prog X.w X.K X.mg X.base CX0 k fad fd ps (spF X.K C [] false np ff)) (hr : Room k X.A) (hm : X.mg x = some (.ref fad)) (hk : PySem.W.keepIn X.K (.ref fad) = true) (hb : Binds X.K fd ps ds0) (hd : Vals dv ds0) (hdd : ∀ F, RpAll X.K C F dv dd) (ha : DA X C c (e :: es) fa)
    (hg : Gl X x := by rfl) (hdb : (x == ("__debug__" : Str)) = false := by decide) (he : starEach (e :: es) X.env = (false, eval e X.env) :: starEach es X.env := by rfl) (hpl : (backTo pos (starEach es X.env)).any (·.1) = false := by rfl) :
    DE X C c (.Call (.Name x p) (e :: es) [] pos) (fC0 np ff dd fa) := by
  refine PE.imp (pe_call Fk hr hg hm hk hb hd pass0 ha hdb he hpl) fun σ H Q ⟨z, F, env, b, env', S, e, kk⟩ => ?_
  simp only [fC0, Option.bind_eq_some_iff] at e
  obtain ⟨⟨bs, e1⟩, h1, ds, h2, e⟩ := e
  split at e
  case isFalse => cases e
  next hnp =>
  obtain ⟨r, h3, e⟩ := Option.bind_eq_some_iff.mp e
  cases e
  refine ⟨z, F, env, bs, e1, S, h1, fun vs F1 H1 s1 S1 r1 => ?_⟩
  have rp := vals_rp r1 h2
  exact call0_read (m := false) S1.sub rp (hdd F1) (by rw [List.length_append, rp.length, (hdd F1).length, ← List.length_append]; exact hnp) h3 fun v F' H' ex rv => kk v F' H' (s1.trans ex.sub) (S1.ext ex) rv
/-! ### calls that change one argument: a slot of the caller's -/
theorem SRo.called {K : PySem.W.Frag} {z : Zn} {F F' H H' : Hp} {env : Env} {σ : St} (S : SRo K C c z F env σ H) {i : Nat} {d d' : D} {a : Addr} (hi : i ∈ c.O) (hd : gt env i = some d) (ha : σ[i]? = some (some (.ref a))) (s : Same F F') (inn : Same F' H') (new : ∀ b o, F' b = some o → F b = some o ∨ H b = none) (keep : ∀ b o, H b = some o → b ≠ a → H' b = some o) (fa : F' a = none) (ow : Own K C F' H' a d') :
    SRo K C c z F' (st env i (some d')) σ H' := by
  obtain ⟨a1, h1, fa1, o1, z1⟩ := S.own i d hd hi
  rw [ha] at h1; cases h1
  have lt : i < env.length := gt_lt hd
  have free' : ∀ b u, F b = none → H b = some u → F' b = none := fun b u h1 h2 => by
    cases q : F' b with
    | none => rfl
    | some o' =>
      rcases new b o' q with r | r
      · rw [h1] at r; cases r
      · rw [r] at h2; cases h2
  refine ⟨inn, S.f0.trans s, fun b u h => ?_, fun b u h hb => ?_, by rw [st_length]; exact S.len, by rw [st_length]; exact S.num, fun j e h hj => ?_, fun j e h hj => ?_, fun j k dj dk b hj hk hjk ej ek sj sk => ?_, S.iol, fun b e h => ?_, fun b e j e2 h hj ej => ?_, S.ghn, fun k j hk => ?_⟩
  · rcases new b u h with q | q
    · exact S.new b u q
    · exact .inr (S.free0 q)
  · have hne : b ≠ a := by
      rintro rfl
      rcases z1 with q | ⟨_, q⟩
      · rw [h] at q; cases q
      · exact hb q
    exact keep b u (S.keep b u h hb) hne
  · have hij : i ≠ j := fun q => hj (q ▸ hi)
    rw [gt_st_ne hij] at h
    obtain ⟨v, q1, q2⟩ := S.pur j e h hj
    exact ⟨v, q1, q2.mono s⟩
  · by_cases hij : i = j
    · subst hij
      rw [gt_st lt] at h; cases h
      exact ⟨a, ha, fa, ow, z1⟩
    · rw [gt_st_ne hij] at h
      obtain ⟨b, h1, h2, h3, h4⟩ := S.own j e h hj
      have hne : b ≠ a := by
        rintro rfl
        exact S.dist i j d e b hi hj hij hd h ha h1
      obtain ⟨u, hu⟩ := h3.some
      exact ⟨b, h1, free' b u h2 hu, h3.mono s ((keep b u hu hne).trans hu.symm), h4⟩
  · have old : ∀ m e, gt (st env i (some d')) m = some e → ∃ e', gt env m = some e' := fun m e h => by
      by_cases him : i = m
      · subst him; exact ⟨d, hd⟩
      · rw [gt_st_ne him] at h; exact ⟨e, h⟩
    obtain ⟨e1, h1⟩ := old j dj ej
    obtain ⟨e2, h2⟩ := old k dk ek
    exact S.dist j k e1 e2 b hj hk hjk h1 h2 sj sk
  · obtain ⟨h1, h2, h3⟩ := S.gho b e h
    have hne : b ≠ a := fun q => S.ghd b e i d h hi hd (q ▸ ha)
    obtain ⟨u, hu⟩ := h2.some
    exact ⟨free' b u h1 hu, h2.mono s ((keep b u hu hne).trans hu.symm), h3⟩
  · by_cases hij : i = j
    · subst hij; exact S.ghd b e i d h hi hd
    · rw [gt_st_ne hij] at ej; exact S.ghd b e j e2 h hj ej
  · obtain ⟨h1, b, e, h2, h3, h4⟩ := S.ios k j hk
    refine ⟨h1, b, ?_⟩
    by_cases hij : i = j
    · subst hij; exact ⟨d', h2, h3, gt_st lt⟩
    · exact ⟨e, h2, h3, by rw [gt_st_ne hij]; exact h4⟩
theorem SR.calledX {K : PySem.W.Frag} {z : Zn} {F F' H H' : Hp} {env : Env} {σ : St} (S : SR K C c z F env σ H) {i : Nat} {d d' : D} {a : Addr} (hi : i ∈ c.x.O) (hd : gt env i = some d) (ha : (σ ++ cells C c)[i]? = some (some (.ref a))) (s : Same F F') (inn : Same F' H') (new : ∀ b o, F' b = some o → F b = some o ∨ H b = none) (keep : ∀ b o, H b = some o → b ≠ a → H' b = some o) (fa : F' a = none) (ow : Own K C F' H' a d') :
    SR K C c z F' (st env i (some d')) σ H' := ⟨S.b.called hi hd ha s inn new keep fa ow, S.ln, S.hO, S.hio⟩
theorem SR.called {K : PySem.W.Frag} {z : Zn} {F F' H H' : Hp} {env : Env} {σ : St} (S : SR K C c z F env σ H) {i : Nat} {d d' : D} {a : Addr} (hi : i ∈ c.O) (hd : gt env i = some d) (ha : σ[i]? = some (some (.ref a))) (s : Same F F') (inn : Same F' H') (new : ∀ b o, F' b = some o → F b = some o ∨ H b = none) (keep : ∀ b o, H b = some o → b ≠ a → H' b = some o) (fa : F' a = none) (ow : Own K C F' H' a d') :
    SR K C c z F' (st env i (some d')) σ H' := ⟨S.b.called (x_mem hi) hd (by rw [S.at (S.hO i hi)]; exact ha) s inn new keep fa ow, S.ln, S.hO, S.hio⟩
/-- the first argument is the slot's own object -/
def ioArgs (env : Env) : List B → Option (Nat × List D)
  | .slot j :: bs => (gt env j).bind fun d => (vals bs).bind fun ds => some (j, d :: ds)
  | _ => none
def fC1 (np : Nat) (ff : FF) (fa : AF) : EF := fun env => (fa env).bind fun q => (ioArgs q.2 q.1).bind fun a => if a.2.length = np then (ff a.2).bind fun r => (match r.2 with
  | [o] => some (.val r.1, st q.2 a.1 (some o))
  | _ => none) else none
def oC1 (np : Nat) (ff : FF) (fa : AF) : OF := fun env => (fa env).bind fun q => (ioArgs q.2 q.1).bind fun a => if a.2.length = np then (ff a.2).bind fun r => (match r.2 with
  | [o] => some (r.1, st q.2 a.1 (some o))
  | _ => none) else none
end
end DL

namespace DL
open PySem L2
section
variable {m : Bool} {X : Cx} {C : CA} {c : Cs} {e a b o : Expr} {es : List Expr} {fa : AF} {f g : EF} {pos p apos cpos : Pos} {x : Str} {k np : Nat} {fad : Addr} {fd : FuncData} {ps : List Str} {dv : List V} {ds0 : List Value} {ff : FF}
/-! ### o.f -/
def attrD (kk : Nat) (nm : Str) (x : D) : Option D := match x with
  | .obj k fs => if k = kk then fs.lookup nm else none
  | _ => none
def fAt (kk : Nat) (nm : Str) (f : EF) : EF := fun env => (f env).bind fun p => (rdB p.2 p.1).bind fun x => (attrD kk nm x).bind fun d => some (.val d, p.2)
theorem de_attr (kk : Nat) {nm : Str} (he : DE X C c e f) (cl : Cls X.K (C kk)) (na : NoAttr X.K (C kk) nm) (hb : attributeBase e nm X.env (eval e X.env) = eval e X.env := by rfl) : DE X C c (.Attribute e nm pos) (fAt kk nm f) := by
  refine PE.imp (pe_fld he hb) fun σ H Q ⟨z, F, env, b, env', S, e, k⟩ => ?_
  simp only [fAt, Option.bind_eq_some_iff] at e
  obtain ⟨⟨b1, e1⟩, h1, x, h2, d, h3, e⟩ := e
  cases e
  refine ⟨z, F, env, b1, e1, S, h1, fun v F1 H1 s1 S1 r1 => ?_⟩
  cases x <;> simp only [attrD] at h3 <;> try (cases h3; done)
  split at h3
  case isFalse => cases h3
  next hk =>
  subst hk
  obtain ⟨a, dx, vs, rfl, q1, q2⟩ := (r1.rb S1 h2).obj S1.sub
  obtain ⟨u, q3, q4⟩ := q2.look h3
  exact ⟨a, _, dx, vs, u, rfl, q1, cl, na, q3, k u F1 H1 s1 S1 q4⟩
/-! ### self.f = e in a slot's own object -/
def putFD (f : Str) (d : D) : List (Str × D) → List (Str × D)
  | [] => [(f, d)]
  | (g, d') :: r => if g = f then (g, d) :: r else (g, d') :: putFD f d r
theorem RpFs.put {K : PySem.W.Frag} {F : Hp} {f : Str} {v : V} {d : D} (r : Rp K C F v d) : ∀ {vs : List (Str × V)} {fs : List (Str × D)}, RpFs K C F vs fs → RpFs K C F (putF f v vs) (putFD f d fs)
  | _, _, .nil => .cons r .nil
  | _, _, @RpFs.cons _ _ _ g v' vs d' ds h1 h2 => by
    unfold putF putFD
    by_cases e : g = f
    · rw [if_pos e, if_pos e]; exact .cons r h2
    · rw [if_neg e, if_neg e]; exact .cons h1 (RpFs.put r h2)
def sFldD (i kk : Nat) (nm : Str) (fe : EF) : SF := fun env => (fe env).bind fun p => match p.1 with
  | .val d => (gt p.2 i).bind fun o => (match o with
    | .obj k fs => if k = kk ∧ fs.length < 1000 then some (.nx (st p.2 i (some (.obj k (putFD nm d fs))))) else none
    | _ => none)
  | .slot _ => none
theorem ds_fld (i kk : Nat) {nm : Str} {pos' p' : Pos} (cl : Cls X.K (C kk)) (na : NoAttr X.K (C kk) nm) (he : DE X C c e f) (hO : i ∈ c.O := by decide) (hN : X.N[i]? = some x := by rfl) (hv : Vis X.env.scope x := by first | exact Or.inl rfl | exact Or.inr (Or.inl rfl) | exact Or.inr (Or.inr rfl)) (hd : (x == ("__debug__" : Str)) = false := by decide) (hcd : (x == ("__classdict__" : Str)) = false := by decide)
    (hs : swapsWith e (some (.Attribute (.Name x p') nm pos')) pos.line X.env = pure false := by rfl) : DS m X C c (.Assign [.Attribute (.Name x p') nm pos'] e pos) (sFldD i kk nm f) := by
  refine PS.imp (ps_fld (pe_var hN hv hd hcd) he hs) fun Dn σ H ⟨z, F, env, fl, S, hg, q0, k⟩ => ?_
  obtain ⟨⟨b1, e1⟩, h1, q1⟩ := Option.bind_eq_some_iff.mp q0
  cases b1 with
  | slot _ => cases q1
  | val d =>
    obtain ⟨o, h2, q2⟩ := Option.bind_eq_some_iff.mp q1
    clear q0 q1
    refine ⟨z, F, env, _, e1, S, h1, fun v F1 H1 s1 S1 r1 => ?_⟩
    cases o <;> simp only at q2 <;> try (cases q2; done)
    split at q2
    case isFalse => cases q2
    next hk =>
    obtain ⟨hk, hl⟩ := hk
    subst hk
    cases q2
    obtain ⟨a, ha, fa', ow, za⟩ := S1.own i _ h2 hO
    obtain ⟨dx, vs, w1, w2⟩ := id ow
    exact ⟨_, ha, a, _, dx, vs, rfl, w1, cl, na, by rw [w2.length]; exact hl, k F1 σ _ s1 (S1.write hO h2 ha ⟨dx, _, upd_same, w2.put r1⟩)⟩
/-! ### C(..): a new instance -/
def oMk (kk np : Nat) (ff : FF) (dd : List D) (fa : AF) : OF := fun env => (fa env).bind fun q => (vals q.1).bind fun ds => if (D.obj kk [] :: (ds ++ dd)).length = np then (ff (.obj kk [] :: (ds ++ dd))).bind fun r => (match r.1 with
  | .non => (match r.2 with
    | [o] => some (o, q.2)
    | _ => none)
  | _ => none) else none
theorem make_read {kk : Nat} {F H : Hp} {z : Zn} {env : Env} {σ : St} {vs : List V} {ds dd : List D} {Q : VK} {o : D} (S : SR X.K C c z F env σ H) (rp : RpAll X.K C F vs ds) (hdd : RpAll X.K C F dv dd) (hnp : (D.obj kk [] :: (ds ++ dd)).length = np) (e : ff (.obj kk [] :: (ds ++ dd)) = some (.non, [o]))
    (k : ∀ a F' H', Same F F' → SR X.K C c z F' env σ H' → F' a = none → z.H0 a = none → Own X.K C F' H' a o → (Apt C c env σ a) → (∀ e, (a, e) ∉ z.gh) → Q (.ref a) H') :
    ∀ x dx, H x = none → H dx = none → dx ≠ x → spF X.K C [0] false np ff (.ref x :: (vs ++ dv)) (upd (upd H dx (.own x)) x (.ins (C kk) dx [])) (fun v H2 => v = .non ∧ Q (.ref x) H2) E0 := by
  intro x dx hx hdx hne
  have hx1 : (upd H dx (.own x)) x = none := by rw [upd_ne (Ne.symm hne)]; exact hx
  have sH : Same H (upd (upd H dx (.own x)) x (.ins (C kk) dx [])) := (same_upd hdx).trans (same_upd hx1)
  have S2 : SR X.K C c z F env σ (upd (upd H dx (.own x)) x (.ins (C kk) dx [])) := S.ext ⟨Same.refl _, S.sub.trans sH, sH, fun b o h => .inl h⟩
  have fx : F x = none := S.sub.free hx
  have ow : Own X.K C F (upd (upd H dx (.own x)) x (.ins (C kk) dx [])) x (.obj kk []) := ⟨dx, [], upd_same, .nil⟩
  refine ⟨F, .obj kk [] :: (ds ++ dd), .non, [o], S2.sub, by rw [List.length_cons, List.length_append, rp.length, hdd.length, ← List.length_append]; exact hnp, ⟨by simp [rp.length, hdd.length], fun i v d h1 h2 hi => ?_, fun i hi => ?_, fun i j a hi hj hij => ?_⟩, e, fun v F' H' dn => ?_⟩
  · cases i with
    | zero => exact absurd (List.mem_cons_self ..) hi
    | succ i =>
      obtain ⟨d', q1, q2⟩ := (rp.app hdd).get (by simpa using h1)
      have h2' : (ds ++ dd)[i]? = some d := by simpa using h2
      rw [h2'] at q1; cases q1
      exact q2
  · have : i = 0 := by simpa using hi
    subst this
    exact ⟨x, .obj kk [], rfl, rfl, fx, ow⟩
  · have h1 : i = 0 := by simpa using hi
    have h2 : j = 0 := by simpa using hj
    exact absurd (h1.trans h2.symm) hij
  · have hv : v = .non := by
      have q : Rp X.K C F' v .non := dn.val
      cases q; rfl
    refine ⟨hv, ?_⟩
    obtain ⟨d', q1, q2, q3⟩ := dn.ios 0 0 x rfl rfl
    have q1' : o = d' := Option.some.inj q1
    subst q1'
    have keep : ∀ b u, H b = some u → H' b = some u := fun b u hu => dn.keep b u (sH b u hu) fun i hi hb => by
      have hi0 : i = 0 := by simpa using hi
      subst hi0
      have hb' : V.ref x = V.ref b := Option.some.inj hb
      cases hb'
      rw [hx] at hu; cases hu
    have ex : Ext F H F' H' := ⟨dn.sub, dn.inn, keep, fun b u h => by
      rcases dn.new b u h with q | q
      · exact .inl q
      · exact .inr (sH.free q)⟩
    refine k x F' H' dn.sub (S.ext ex) q2 (S.free0 hx) q3 (fun j d hj ej hs => ?_) fun d hgd => ?_
    · obtain ⟨a', w1, _, w3, _⟩ := S.b.own j d ej hj
      rw [hs] at w1; cases w1
      obtain ⟨u, hu⟩ := w3.some
      rw [hx] at hu; cases hu
    · obtain ⟨_, w3, _⟩ := S.gho x d hgd
      obtain ⟨u, hu⟩ := w3.some
      rw [hx] at hu; cases hu
theorem do_make {dd : List D} (kk : Nat) (M : Mk X.K (C kk) fad) (Fk : FnOk X.prog X.w X.K X.mg X.base CX0 k fad fd ps (spF X.K C [0] false np ff)) (hr : Room (k + 1) X.A) (hm : X.mg x = some (.ref (C kk))) (hb : Binds X.K fd ps ds0) (hd : Vals dv ds0) (hdd : ∀ F, RpAll X.K C F dv dd) (ha : DA X C c (e :: es) fa)
    (hg : Gl X x := by rfl) (hdb : (x == ("__debug__" : Str)) = false := by decide) (he : starEach (e :: es) X.env = (false, eval e X.env) :: starEach es X.env := by rfl) (hpl : (backTo pos (starEach es X.env)).any (·.1) = false := by rfl) :
    DO X C c (.Call (.Name x p) (e :: es) [] pos) (oMk kk np ff dd fa) := by
  refine PE.imp (pe_make M Fk hr hg hm hb hd pass0 ha hdb he hpl) fun σ H Q ⟨z, F, env, b, env', S, e, kk⟩ => ?_
  simp only [oMk, Option.bind_eq_some_iff] at e
  obtain ⟨⟨bs, e1⟩, h1, ds, h2, e⟩ := e
  split at e
  case isFalse => cases e
  next hnp =>
  obtain ⟨⟨r, os⟩, h3, e⟩ := Option.bind_eq_some_iff.mp e
  dsimp only at e
  cases r <;> simp only at e <;> try (cases e; done)
  split at e
  case h_2 => cases e
  cases e
  exact ⟨z, F, env, bs, _, S, h1, fun vs F1 H1 s1 S1 r1 => make_read S1 (vals_rp r1 h2) (hdd F1) hnp h3 fun a F' H' s' S' => kk a F' H' (s1.trans s') S'⟩
/-! ### o.m(..) of an object that is data -/
def fMe (kk : Nat) (nm : Str) (np : Nat) (ff : FF) (dd : List D) (fo : EF) (fa : AF) : EF := fun env => (fo env).bind fun p => match p.1 with
  | .val (.obj k fs) => if k = kk ∧ fs.lookup nm = none then (fa p.2).bind fun q => (vals q.1).bind fun ds => if (D.obj k fs :: (ds ++ dd)).length = np then (ff (.obj k fs :: (ds ++ dd))).bind fun r => some (.val r.1, q.2) else none else none
  | _ => none
theorem meth_core {z : Zn} {F : Hp} {env env' : Env} {σ : St} {H : Hp} {Q : VK} {kk : Nat} {nm : Str} {dd : List D} {d : B} {fo : EF} (S : SR X.K C c z F env σ H) (hdd : ∀ F, RpAll X.K C F dv dd) (q0 : fMe kk nm np ff dd fo fa env = some (d, env')) (k : ∀ v F' H', Same F F' → SR X.K C c z F' env' σ H' → RB X.K C c F' σ v d → Q v H') :
    tMeth (C kk) nm (spF X.K C [] false np ff) dv E0 (tE X.K C c fo) (tAr X.K C c fa) σ H Q := by
  obtain ⟨⟨b, e1⟩, h1, q1⟩ := Option.bind_eq_some_iff.mp q0
  clear q0
  cases b with
  | slot _ => cases q1
  | val dx =>
    cases dx <;> simp only at q1 <;> try (cases q1; done)
    split at q1
    case isFalse => cases q1
    next hk =>
    obtain ⟨hk, hl⟩ := hk
    subst hk
    obtain ⟨⟨bs, e2⟩, h2, q2⟩ := Option.bind_eq_some_iff.mp q1
    obtain ⟨ds, h3, q3⟩ := Option.bind_eq_some_iff.mp q2
    clear q1 q2
    split at q3
    case isFalse => cases q3
    next hnp =>
    obtain ⟨r, h4, q4⟩ := Option.bind_eq_some_iff.mp q3
    cases q4
    refine ⟨z, F, env, _, e1, S, h1, fun v F1 H1 s1 S1 r1 => ?_⟩
    cases r1 with
    | obj w1 w2 =>
      refine ⟨_, _, _, rfl, S1.sub _ _ w1, w2.look_none hl, z, F1, e1, bs, e2, S1, h2, fun vs F2 H2 s2 S2 r2 => ?_⟩
      have rp : RpAll X.K C F2 (.ref _ :: vs) (.obj _ _ :: ds) := .cons (Rp.mono s2 (.obj w1 w2)) (vals_rp r2 h3)
      exact call0_read (m := false) S2.sub rp (hdd F2) (by rw [List.length_append, rp.length, (hdd F2).length, ← List.length_append]; exact hnp) h4 fun v F' H' ex rv => k v F' H' (s1.trans (s2.trans ex.sub)) (S2.ext ex) rv
theorem de_meth {dd : List D} (kk : Nat) {nm : Str} {pl : Sem Bool} (ho : DE X C c o f) (cl : Cls X.K (C kk)) (hmt : Meth X.K (C kk) nm fad) (Fk : FnOk X.prog X.w X.K X.mg X.base CX0 k fad fd ps (spF X.K C [] false np ff)) (hr : Room k X.A) (hb : Binds X.K fd ps ds0) (hd : Vals dv ds0) (hdd : ∀ F, RpAll X.K C F dv dd) (ha : DA X C c (e :: es) fa)
    (hst : starEach (e :: es) X.env = (false, eval e X.env) :: starEach es X.env := by rfl) (hpl : (backTo pos (starEach es X.env)).any (·.1) = false := by rfl)
    (ht : eval (.Call (.Attribute o nm apos) (e :: es) [] pos) X.env = (do
      let ov ← eval o X.env
      standAt apos.atName
      let (f, first) ← holding [ov] (getMethod ov nm pl)
      callWith pos f first (backTo pos (starEach (e :: es) X.env)) (backToKw pos (keywordEach [] X.env))) := by rfl) :
    DE X C c (.Call (.Attribute o nm apos) (e :: es) [] pos) (fMe kk nm np ff dd f fa) :=
  PE.imp (pe_meth ho cl hmt Fk hr hb hd pass0 ha hst hpl ht) fun σ H Q ⟨z, F, env, b, env', S, e, kk⟩ => meth_core S hdd e kk
/-! ### isinstance -/
def instB (T : String) : D → Option Bool
  | .non => some false
  | .bl _ => some (T == "bool" || T == "int")
  | .int _ => some (T == "int")
  | .str _ => some (T == "str")
  | .lst _ => some (T == "list")
  | .tup _ => some (T == "tuple")
  | .dic _ => some (T == "dict")
  | _ => none
def tyN : D → String
  | .non => "NoneType"
  | .bl _ => "bool"
  | .int _ => "int"
  | .str _ => "str"
  | .lst _ => "list"
  | .tup _ => "tuple"
  | .dic _ => "dict"
  | _ => "object"
def isTN (T : String) : Prop := T = "bool" ∨ T = "int" ∨ T = "str" ∨ T = "list" ∨ T = "tuple" ∨ T = "dict"
theorem inst_kit {K : PySem.W.Frag} {T : String} {d : D} {b : Bool} (h : instB T d = some b) (hT : isTN T) : PySem.W.kitOne K (.type (tyN d)) (.type T) = some b := by
  rcases hT with rfl | rfl | rfl | rfl | rfl | rfl <;> (cases d <;> cases h <;> dsimp only [tyN] <;> exact kit_ty (by decide +kernel))
theorem Rb.ty {K : PySem.W.Frag} {F H : Hp} {v : V} {d : D} {T : String} {b : Bool} (s : Same F H) (h : Rb K C F H v d) (e : instB T d = some b) : TyX K H v (.type (tyN d)) := by
  cases d <;> simp only [instB] at e <;> try (cases e; done)
  · rw [h.non]; exact .base .non
  · rw [h.bl]; exact .base (.bl _)
  · rw [h.int]; exact .base (.int _)
  · rw [h.str]; exact .base (.str _)
  · obtain ⟨a, vs, rfl, q, _⟩ := h.lst s; exact .base (.lst q)
  · obtain ⟨a, vs, rfl, q, _⟩ := h.tup s
    rcases q with (q | ⟨o, q⟩) | ⟨o, its, n, hk, hc, _⟩
    · exact .base (.tup q)
    · exact .fTuple q
    · exact .kTuple hk hc
  · obtain ⟨a, vs, rfl, q, _⟩ := h.dic s
    rcases q with q | ⟨o, q⟩
    · exact .base (.dK q)
    · exact .fDict q
/-- isinstance(x, T), T a built-in class by its name -/
def fIs (T : String) (f : EF) : EF := fun env => (f env).bind fun p => (rdB p.2 p.1).bind fun d => (instB T d).bind fun b => some (.val (.bl b), p.2)
theorem de_isinst {T : Str} {q1 : Pos} (TN : String) (hTN : isTN TN) (he : DE X C c e f) (hm : X.mg "isinstance" = none) (hT : X.mg T = none) (hv : bootBuiltins T = some (.type TN)) (hg : Gl X "isinstance" := by rfl) (hgT : Gl X T := by rfl) (hnT : T ≠ "__name__" := by decide) (hdT : (T == ("__debug__" : Str)) = false := by decide)
    (hs1 : starEach (e :: [.Name T q1]) X.env = (false, eval e X.env) :: starEach [.Name T q1] X.env := by rfl) (hs2 : starEach (.Name T q1 :: []) X.env = (false, eval (.Name T q1) X.env) :: starEach [] X.env := by rfl) (hpl : (backTo pos (starEach [.Name T q1] X.env)).any (·.1) = false := by rfl) :
    DE X C c (.Call (.Name "isinstance" p) [e, .Name T q1] [] pos) (fIs TN f) := by
  refine PE.imp (pe_callB call_isi hg hm (by decide +kernel) (pa_cons he (pa_cons (pe_bltn (v := .ty TN) hgT hT hv rfl hnT hdT) pa_nil hs2) hs1) (by decide) (by decide) hs1 hpl) fun σ H Q ⟨z, F, env, b, env', S, e, k⟩ => ?_
  simp only [fIs, Option.bind_eq_some_iff] at e
  obtain ⟨⟨b1, e1⟩, h1, d, h2, bb, h3, e⟩ := e
  cases e
  refine ⟨z, F, env, b1, e1, S, h1, fun v F1 H1 s1 S1 r1 => ?_⟩
  exact ⟨v, .ty TN, _, _, bb, rfl, .ty TN, (r1.rb S1 h2).ty S1.sub h3, inst_kit h3 hTN, k _ F1 H1 s1 S1 (.bl bb)⟩
/-- isinstance(x, (list, tuple)) -/
def fIsLT (f : EF) : EF := fun env => (f env).bind fun p => (rdB p.2 p.1).bind fun d => (instB "list" d).bind fun b1 => (instB "tuple" d).bind fun b2 => some (.val (.bl (b1 || b2)), p.2)
theorem de_isLT {q1 q2 q3 : Pos} {kt : Nat} (he : DE X C c e f) (hm : X.mg "isinstance" = none) (hL : X.mg "list" = none) (hTu : X.mg "tuple" = none) (hg : Gl X "isinstance" := by rfl) (hgL : Gl X "list" := by rfl) (hgT : Gl X "tuple" := by rfl)
    (hs1 : starEach (e :: [.Tuple [.Name "list" q1, .Name "tuple" q2] kt q3]) X.env = (false, eval e X.env) :: starEach [.Tuple [.Name "list" q1, .Name "tuple" q2] kt q3] X.env := by rfl)
    (hs2 : starEach (.Tuple [.Name "list" q1, .Name "tuple" q2] kt q3 :: []) X.env = (false, eval (.Tuple [.Name "list" q1, .Name "tuple" q2] kt q3) X.env) :: starEach [] X.env := by rfl) (hpl : (backTo pos (starEach [.Tuple [.Name "list" q1, .Name "tuple" q2] kt q3] X.env)).any (·.1) = false := by rfl)
    (hs3 : starEach (.Name "list" q1 :: [.Name "tuple" q2]) X.env = (false, eval (.Name "list" q1) X.env) :: starEach [.Name "tuple" q2] X.env := by rfl) (hs4 : starEach (.Name "tuple" q2 :: []) X.env = (false, eval (.Name "tuple" q2) X.env) :: starEach [] X.env := by rfl) :
    DE X C c (.Call (.Name "isinstance" p) [e, .Tuple [.Name "list" q1, .Name "tuple" q2] kt q3] [] pos) (fIsLT f) := by
  refine PE.imp (pe_callB call_isiT hg hm (by decide +kernel) (pa_cons he (pa_cons (pe_tup (pa_cons (pe_bltn (v := .ty "list") hgL hL (by decide +kernel) rfl) (pa_cons (pe_bltn (v := .ty "tuple") hgT hTu (by decide +kernel) rfl) pa_nil hs4) hs3)) pa_nil hs2) hs1) (by decide) (by decide) hs1 hpl) fun σ H Q ⟨z, F, env, b, env', S, e, k⟩ => ?_
  simp only [fIsLT, Option.bind_eq_some_iff] at e
  obtain ⟨⟨b1, e1⟩, h1, d, h2, bb, h3, b2, h4, e⟩ := e
  cases e
  refine ⟨z, F, env, b1, e1, S, h1, fun v F1 H1 s1 S1 r1 => ⟨by rw [sizeLine_eq]; show 2 ≤ 16777216; decide, fun t ht => ?_⟩⟩
  have ex : Ext F1 H1 F1 (upd H1 t (.tup [.ty "list", .ty "tuple"])) := ⟨Same.refl _, S1.sub.trans (same_upd ht), same_upd ht, fun b o h => .inl h⟩
  have S2 := S1.ext ex
  have rb := r1.rb S2 h2
  refine ⟨v, t, [.ty "list", .ty "tuple"], _, [.type "list", .type "tuple"], bb || b2, rfl, upd_same, .cons (.ty _) (.cons (.ty _) .nil), rb.ty S2.sub h3, ?_, k _ F1 _ s1 S2 (.bl _)⟩
  refine kitAny_cons (inst_kit h3 (by simp [isTN])) (fun hb => ?_) fun hb => by rw [hb]; rfl
  rw [hb]
  exact kitAny_cons (inst_kit h4 (by simp [isTN])) (fun hb2 => by rw [hb2]; exact kitAny_nil) fun hb2 => by rw [hb2]; rfl
end
end DL

namespace DL
open PySem L2
/-! ### lists of lists of ints in order -/
def leL (x y : List Int) : Bool := !HT.lexLt y x
theorem lexLt_irrefl : ∀ x : List Int, HT.lexLt x x = false
  | [] => rfl
  | a :: x => by rw [HT.lexLt_cons, if_pos rfl]; exact lexLt_irrefl x
theorem lexLt_total : ∀ {x y : List Int}, HT.lexLt x y = false → HT.lexLt y x = false → x = y
  | [], [], _, _ => rfl
  | [], _ :: _, h, _ => by cases h
  | _ :: _, [], _, h => by cases h
  | a :: x, b :: y, h1, h2 => by
    rw [HT.lexLt_cons] at h1 h2
    by_cases e : a = b
    · subst e
      rw [if_pos rfl] at h1 h2
      rw [lexLt_total h1 h2]
    · rw [if_neg e] at h1
      rw [if_neg (Ne.symm e)] at h2
      have := of_decide_eq_false h1
      have := of_decide_eq_false h2
      omega
theorem lexLt_negTrans : ∀ {x y z : List Int}, HT.lexLt y x = false → HT.lexLt z y = false → HT.lexLt z x = false
  | [], [], z, _, h => h
  | [], b :: y, [], _, _ => by rfl
  | [], b :: y, c :: z, _, _ => by rfl
  | a :: x, [], z, h, _ => by cases h
  | a :: x, b :: y, [], _, h => by cases h
  | a :: x, b :: y, c :: z, h1, h2 => by
    rw [HT.lexLt_cons] at h1 h2 ⊢
    by_cases e1 : b = a
    · subst e1
      rw [if_pos rfl] at h1
      by_cases e2 : c = b
      · subst e2
        rw [if_pos rfl] at h2 ⊢
        exact lexLt_negTrans h1 h2
      · rw [if_neg e2] at h2 ⊢
        exact h2
    · rw [if_neg e1] at h1
      have q1 := of_decide_eq_false h1
      by_cases e2 : c = b
      · subst e2
        rw [if_neg e1]
        exact decide_eq_false q1
      · rw [if_neg e2] at h2
        have q2 := of_decide_eq_false h2
        rw [if_neg (by omega)]
        exact decide_eq_false (by omega)
def insL (n : List Int) : List (List Int) → List (List Int)
  | [] => [n]
  | m :: ms => if leL n m = true then n :: m :: ms else m :: insL n ms
def sortL : List (List Int) → List (List Int)
  | [] => []
  | n :: ns => insL n (sortL ns)
theorem insL_perm (n : List Int) : ∀ ns : List (List Int), (insL n ns).Perm (n :: ns)
  | [] => .refl _
  | m :: ms => by
    unfold insL
    split
    · exact .refl _
    · exact ((insL_perm n ms).cons m).trans (.swap n m ms)
theorem sortL_perm : ∀ ns : List (List Int), (sortL ns).Perm ns
  | [] => .refl _
  | n :: ns => (insL_perm n (sortL ns)).trans ((sortL_perm ns).cons n)
theorem leL_trans {x y z : List Int} (h1 : leL x y = true) (h2 : leL y z = true) : leL x z = true := by
  unfold leL at *
  rw [Bool.not_eq_true'] at *
  exact lexLt_negTrans h1 h2
theorem leL_total {x y : List Int} (h : ¬ leL x y = true) : leL y x = true := by
  unfold leL at *
  rw [Bool.not_eq_true'] at *
  cases q : HT.lexLt x y with
  | false => rfl
  | true =>
    exfalso
    apply h
    cases q2 : HT.lexLt y x with
    | false => rfl
    | true =>
      have asym : ∀ (x y : List Int), HT.lexLt x y = true → HT.lexLt y x = true → False := by
        intro x
        induction x with
        | nil => intro y h1 h2; cases y <;> cases h2
        | cons a x ih =>
          intro y h1 h2
          cases y with
          | nil => cases h1
          | cons b y =>
            rw [HT.lexLt_cons] at h1 h2
            by_cases e : a = b
            · subst e
              rw [if_pos rfl] at h1 h2
              exact ih y h1 h2
            · rw [if_neg e] at h1
              rw [if_neg (Ne.symm e)] at h2
              have := of_decide_eq_true h1
              have := of_decide_eq_true h2
              omega
      exact (asym x y q q2).elim
theorem leL_anti {x y : List Int} (h1 : leL x y = true) (h2 : leL y x = true) : x = y := by
  unfold leL at *
  rw [Bool.not_eq_true'] at *
  exact lexLt_total h2 h1
theorem insL_sorted (n : List Int) : ∀ ns : List (List Int), ns.Pairwise (fun a b => leL a b = true) → (insL n ns).Pairwise (fun a b => leL a b = true)
  | [], _ => List.pairwise_singleton _ _
  | m :: ms, h => by
    unfold insL
    have h' := List.pairwise_cons.mp h
    split
    · next q =>
      refine List.pairwise_cons.mpr ⟨fun y hy => ?_, h⟩
      rcases List.mem_cons.mp hy with z | z
      · subst z; exact q
      · exact leL_trans q (h'.1 y z)
    · next q =>
      refine List.pairwise_cons.mpr ⟨fun y hy => ?_, insL_sorted n ms h'.2⟩
      have hy' := (insL_perm n ms).mem_iff.mp hy
      rcases List.mem_cons.mp hy' with z | z
      · subst z; exact leL_total q
      · exact h'.1 y z
theorem sortL_sorted : ∀ ns : List (List Int), (sortL ns).Pairwise (fun a b => leL a b = true)
  | [] => .nil
  | n :: ns => insL_sorted n _ (sortL_sorted ns)
theorem sortedL_unique : ∀ {xs ys : List (List Int)}, xs.Perm ys → xs.Pairwise (fun a b => leL a b = true) → ys.Pairwise (fun a b => leL a b = true) → xs = ys
  | [], ys, p, _, _ => (List.Perm.nil_eq p)
  | x :: xs, [], p, _, _ => by have := p.length_eq; simp at this
  | x :: xs, y :: ys, p, hx, hy => by
    have hx' := List.pairwise_cons.mp hx
    have hy' := List.pairwise_cons.mp hy
    have e : x = y := by
      have h1 : x ∈ y :: ys := p.mem_iff.mp (List.mem_cons_self ..)
      have h2 : y ∈ x :: xs := p.mem_iff.mpr (List.mem_cons_self ..)
      have rf : ∀ z : List Int, leL z z = true := fun z => by unfold leL; rw [lexLt_irrefl]; rfl
      have a1 : leL y x = true := by
        rcases List.mem_cons.mp h1 with q | q
        · rw [q]; exact rf _
        · exact hy'.1 x q
      have a2 : leL x y = true := by
        rcases List.mem_cons.mp h2 with q | q
        · rw [q]; exact rf _
        · exact hx'.1 y q
      exact leL_anti a2 a1
    subst e
    rw [sortedL_unique (List.perm_cons x |>.mp p) hx'.2 hy'.2]
/-! ### as data -/
open PySem.W PyProof.Rows in
theorem toks_lex : ∀ (ns ms : List Int), PyProof.Rows.lexLt itemOrd (keyToksAll (ns.map PyData.int)) (keyToksAll (ms.map PyData.int)) = HT.lexLt ns ms
  | [], [] => by first | rfl | simp [keyToksAll, HT.lexLt_nil_nil]; rfl
  | [], m :: ms => by
    rw [HT.lexLt_nil_cons, List.map_cons, toks_all_cons]
    show PyProof.Rows.lexLt itemOrd [.inl 0] (.inl 1 :: _) = true
    rw [lex_atom (by simp), lex_one]
    rfl
  | n :: ns, [] => by
    rw [HT.lexLt_cons_nil, List.map_cons, toks_all_cons]
    show PyProof.Rows.lexLt itemOrd (.inl 1 :: _) [.inl 0] = false
    rw [lex_atom (by simp), lex_one]
    rfl
  | n :: ns, m :: ms => by
    rw [HT.lexLt_cons, List.map_cons, List.map_cons]
    by_cases e : n = m
    · subst e
      rw [if_pos rfl, dataLt_all_yes (by rfl) (by simp [PyData.eqv])]
      exact toks_lex ns ms
    · rw [if_neg e, dataLt_all_no (by rfl) (by simp [PyData.eqv, e]), dataLt_int]
open PySem.W PyProof.Rows in
theorem dataLe_list (x y : List Int) : dataLe false (fun ns : List Int => PyData.list (ns.map PyData.int)) x y = leL x y := by
  show (!(PyProof.Rows.lexLt itemOrd (keyToks (PyData.list (y.map PyData.int))) (keyToks (PyData.list (x.map PyData.int))))) = !HT.lexLt y x
  have := toks_lex y x
  simp only [keyToks]
  rw [this]
open PySem.W PyProof.Rows in
theorem dataLe_tup (x y : List Int) : dataLe false (fun ns : List Int => PyData.tuple (ns.map PyData.int)) x y = leL x y := by
  show (!(PyProof.Rows.lexLt itemOrd (keyToks (PyData.tuple (y.map PyData.int))) (keyToks (PyData.tuple (x.map PyData.int))))) = !HT.lexLt y x
  have := toks_lex y x
  simp only [keyToks]
  rw [this]
open PySem.W PyProof.Rows in
theorem merge_sort {k : List Int → PyData} (hk : ∀ x y, dataLe false k x y = leL x y) (ls : List (List Int)) : ls.mergeSort (dataLe false k) = sortL ls := by
  have e : dataLe false k = leL := by funext x y; exact hk x y
  rw [e]
  refine sortedL_unique ((List.mergeSort_perm ls leL).trans (sortL_perm ls).symm) ?_ (sortL_sorted ls)
  exact List.pairwise_mergeSort (le := leL) (fun a b c h1 h2 => leL_trans h1 h2) (fun a b => by
    cases q : leL a b with
    | true => rfl
    | false => rw [Bool.false_or]; exact leL_total (by rw [q]; decide)) ls
/-! ### the rule -/
section
variable {X : Cx} {C : CA}
open PySem.W (EachIs AllAlike Sortable)
/-- sorted(xs) of data that are alike: k makes the data of the keys -/
def rSortG (K : PySem.W.Frag) (tupl : Bool) : List V → Hp → VK → Prop := fun vs H Q => ∃ (a : Addr) (xs : List V) (ls : List (List Int)), vs = [V.ref a] ∧ SqL K H a xs ∧ (tupl = true → (∀ l ∈ ls, l ≠ []) ∨ ls = [[]]) ∧ xs.length ≤ sizeLine ∧
  ∃ P : V → List Int → Prop, EachIs P xs ls ∧ (∀ y l, P y l → Dp K H y (if tupl then PyData.tuple (l.map PyData.int) else PyData.list (l.map PyData.int))) ∧ ∀ (ys : List V) (p : Addr), ys.Perm xs → EachIs P ys (sortL ls) → H p = none → Q (.ref p) (upd H p (.lst ys))
theorem alike_ints : ∀ (ns ms : List Int), PySem.W.alikeAll (ns.map PyData.int) (ms.map PyData.int) = true
  | [], _ => by simp [PySem.W.alikeAll]
  | _ :: _, [] => by simp [PySem.W.alikeAll]
  | n :: ns, m :: ms => by
    simp only [List.map_cons, PySem.W.alikeAll, PySem.W.alike, Bool.true_and]
    exact alike_ints ns ms
theorem depth_ints : ∀ (ns : List Int), PyData.depthAll (ns.map PyData.int) ≤ 1
  | [] => by simp [PyData.depthAll]
  | n :: ns => by
    have := depth_ints ns
    simp only [List.map_cons, PyData.depthAll, PyData.depth]
    omega
theorem each_reads {pins : List (Addr × Obj)} {σ : St} {H : Hp} {s : Shared} (I : Inv X pins σ H s) : ∀ {xs : List V} {its : List Value} {ds : List PyData}, DpAll X.K H xs ds → Vals xs its → EachIs (fun v d => ∃ as, Reads s.heap v d as) its ds
  | _, _, _, .nil, .nil => .nil
  | _, _, _, .cons h1 h2, .cons r1 r2 => .cons (Dp.reads I _ _ _ h1 r1) (each_reads I h2 r2)
theorem each_vals {P : V → List Int → Prop} : ∀ {xs : List V} {its : List Value} {ls : List (List Int)}, EachIs P xs ls → Vals xs its → EachIs (fun v l => ∃ y, RelV y v ∧ P y l) its ls
  | _, _, _, .nil, .nil => .nil
  | _, _, _, .cons h t, .cons r q => .cons ⟨_, r, h⟩ (each_vals t q)
theorem each_dp {K : PySem.W.Frag} {H : Hp} {P : V → List Int → Prop} {kf : List Int → PyData} (hp : ∀ y l, P y l → Dp K H y (kf l)) : ∀ {xs : List V} {ls : List (List Int)}, EachIs P xs ls → DpAll K H xs (ls.map kf)
  | _, _, .nil => .nil
  | _, _, .cons h t => .cons (hp _ _ h) (each_dp hp t)
theorem each_pick {P : V → List Int → Prop} : ∀ {out : List Value} {ls : List (List Int)}, EachIs (fun v l => ∃ y, RelV y v ∧ P y l) out ls → ∃ ys : List V, Vals ys out ∧ EachIs P ys ls
  | _, _, .nil => ⟨[], .nil, .nil⟩
  | _, _, .cons ⟨y, h1, h2⟩ t => by
    obtain ⟨ys, q1, q2⟩ := each_pick t
    exact ⟨y :: ys, .cons h1 q1, .cons h2 q2⟩
theorem vals_perm {out its : List Value} (p : out.Perm its) : ∀ {ys xs : List V}, Vals ys out → Vals xs its → ys.Perm xs := by
  intro ys xs h1 h2
  have back : ∀ {xs : List V} {its : List Value}, Vals xs its → xs.map some = its.map absV := by
    intro xs its h
    induction h with
    | nil => rfl
    | cons r _ ih => simp only [List.map_cons, ih, r.abs]
  have e1 := back h1
  have e2 := back h2
  have q : (ys.map some).Perm (xs.map some) := by rw [e1, e2]; exact p.map absV
  have unmap : ∀ (l : List V), (l.map some).filterMap _root_.id = l := by
    intro l
    induction l with
    | nil => rfl
    | cons a l ih => simp
  have q2 := q.filterMap _root_.id
  rw [unmap, unmap] at q2
  exact q2
theorem sortVals_perm {κ : PyProof.Rows.KeyKind} (vs : List Value) : (PySem.W.sortVals κ false vs vs).Perm vs := by
  unfold PySem.W.sortVals
  have h := (List.mergeSort_perm (vs.zip vs) (PySem.W.sortLe κ.toKeyOrd false fun p : PyProof.Rows.Keyed => PySem.W.keyD κ p.1)).map Prod.snd
  have e : (vs.zip vs).map Prod.snd = vs := by rw [List.map_snd_zip]; exact Nat.le_refl _
  rw [e] at h
  exact h
/-- one empty tuple -/
theorem sortsAt_unit {prog : Program} {w : World} {A : Around} {s : Shared} {vs : List Value} (e : EachIs (fun v d => ∃ as, Reads s.heap v d as) vs [PyData.tuple []]) (hu : A.units < cLine) : PySem.W.SortsAt prog w A s (PySem.W.dataKind s.heap [PyData.tuple []]) vs := by
  have hal : AllAlike [PyData.tuple []] := fun d hd d' hd' => by
    simp at hd hd'
    subst hd hd'
    rfl
  have hl : vs.length = 1 := by
    cases e with
    | cons _ t => cases t; rfl
  refine ⟨fun v hv => ?_, ?_⟩
  · obtain ⟨d, hd, as, r⟩ := e.left v hv
    exact ⟨_, PySem.W.dataKind_some hal hd r⟩
  · refine ⟨PyProof.Rows.tuples' true, ?_, fun h2 => absurd h2 (by omega)⟩
    intro E x y a b Q ha hb hq
    obtain ⟨d, as, hd, ra, rfl⟩ := PySem.W.dataKind_inv ha
    obtain ⟨d', as', hd', rb, rfl⟩ := PySem.W.dataKind_inv hb
    simp at hd hd'
    subst hd hd'
    have hq' : Q (PySem.W.dataLt (.tuple []) (.tuple [])) s := hq
    rw [PySem.W.dataLt_tuple] at hq'
    cases ra with
    | @tuple l o xs n _ _ h1 h2 h3 h4 =>
      cases rb with
      | @tuple l' o' xs' n' _ _ k1 k2 k3 k4 =>
        have n1 : xs.size = ([] : List PyData).length := by simpa using SeqAt.ReadsAll.length _ _ _ h4
        have n2 : xs'.size = ([] : List PyData).length := by simpa using SeqAt.ReadsAll.length _ _ _ k4
        exact PySem.W.kat_lt h1 h3 k1 k3 (PySem.W.katLex_alike (A := A) [] [] 0 _ _ _ _ h4 k4 rfl (by simp [PyData.depthAll]; omega) (fun hb _ x r t ex => (nomatch ex)) (by rw [n1, n2]) hq')
theorem cr_sortG (tupl : Bool) (hu : X.A.units + 64 < cLine) : CallR X (.builtin "sorted") (rSortG X.K tupl) := by
  intro pins s σ H vs us Q I r h
  obtain ⟨a, xs, ls, rfl, hs, hne, hxl, P, hP, hPd, q⟩ := h
  obtain ⟨its, rv, hl, hz⟩ := I.list hs
  rw [Vals.ref1 r]
  generalize hkd : (fun ns : List Int => if tupl = true then PyData.tuple (ns.map PyData.int) else PyData.list (ns.map PyData.int)) = kf at *
  have hle : ∀ x y, PySem.W.dataLe false kf x y = leL x y := fun x y => by
    subst hkd
    cases tupl with
    | true => exact dataLe_tup x y
    | false => exact dataLe_list x y
  have hal : AllAlike (ls.map kf) := fun d hd d' hd' => by
    obtain ⟨n, _, rfl⟩ := List.mem_map.mp hd
    obtain ⟨m, _, rfl⟩ := List.mem_map.mp hd'
    subst hkd
    cases tupl with
    | true => exact alike_ints n m
    | false => exact alike_ints n m
  have hso : (tupl = true ∧ ls = [[]]) ∨ Sortable (ls.map kf) := by
    subst hkd
    cases tupl with
    | true =>
      rcases hne rfl with hne | hone
      · refine .inr (.inl fun d hd => ?_)
        obtain ⟨n, hn, rfl⟩ := List.mem_map.mp hd
        cases n with
        | nil => exact absurd rfl (hne _ hn)
        | cons i n => exact ⟨_, _, rfl⟩
      · exact .inl ⟨rfl, hone⟩
    | false =>
      refine .inr (.inr fun d hd => ?_)
      obtain ⟨n, hn, rfl⟩ := List.mem_map.mp hd
      exact ⟨fun z => (nomatch z), fun xs z => (nomatch z)⟩
  have hdep : ∀ d, d ∈ ls.map kf → d.depth ≤ 2 := fun d hd => by
    obtain ⟨n, hn, rfl⟩ := List.mem_map.mp hd
    have := depth_ints n
    subst hkd
    cases tupl <;> (simp only [PyData.depth, if_true, if_false, Bool.false_eq_true]; omega)
  have hdp : DpAll X.K H xs (ls.map kf) := each_dp (fun y l h => by subst hkd; exact hPd y l h) hP
  have er := each_reads I hdp rv
  have keep : ∀ b o, s.heap.get? b = some o → (PySem.W.sortingHeap (PySem.W.copyHeap s.heap its) (s.heap.objs.size + 1) its).get? b = some o := fun b o => PySem.W.sorting_copy_old
  have I' : Inv X pins σ H { s with heap := PySem.W.sortingHeap (PySem.W.copyHeap s.heap its) (s.heap.objs.size + 1) its } := I.kept (t' := s.toks) keep
  have er' := each_reads I' hdp rv
  refine PySem.W.sorted_vals (κ := PySem.W.dataKind (PySem.W.sortingHeap (PySem.W.copyHeap s.heap its) (s.heap.objs.size + 1) its) (ls.map kf)) hl.isList ?_ (by rw [← rv.length]; exact hz) ?_
  · rcases hso with ⟨ht, h1⟩ | hso
    · have ek : ls.map kf = [PyData.tuple []] := by
        subst hkd h1 ht
        rfl
      rw [ek] at er' ⊢
      exact sortsAt_unit (s := { s with heap := PySem.W.sortingHeap (PySem.W.copyHeap s.heap its) (s.heap.objs.size + 1) its }) er' (by show X.A.units + 1 + 1 < cLine; omega)
    · refine PySem.W.SortsAt.data (s := { s with heap := PySem.W.sortingHeap (PySem.W.copyHeap s.heap its) (s.heap.objs.size + 1) its }) er' hal hso fun d hd => ?_
      have := hdep d hd
      show X.A.units + 1 + 1 + d.depth < cLine
      omega
  · have ev := each_vals hP rv
    have ko : PySem.W.KeyedOut false (ls.map kf) its (PySem.W.sortVals (PySem.W.dataKind (PySem.W.sortingHeap (PySem.W.copyHeap s.heap its) (s.heap.objs.size + 1) its) (ls.map kf)) false its its) := ⟨_, its, hal, rfl, er'⟩
    have eo := PySem.W.keyedOut_each kf ko ev
    rw [merge_sort hle] at eo
    obtain ⟨ys, w1, w2⟩ := each_pick eo
    generalize hout : PySem.W.sortVals (PySem.W.dataKind (PySem.W.sortingHeap (PySem.W.copyHeap s.heap its) (s.heap.objs.size + 1) its) (ls.map kf)) false its its = out at *
    have pm : ys.Perm xs := vals_perm (by rw [← hout]; exact sortVals_perm its) w1 rv
    obtain ⟨ep, he'⟩ := PyProof.Rows.sortedAll_at s.heap its out.toArray
    have hlen : ys.length ≤ sizeLine := by rw [pm.length_eq]; exact hz
    refine ⟨.ref _, upd H (s.heap.objs.size + 1) (.lst ys), I.laid (t' := s.toks) (fun _ _ => PyProof.Rows.sortedAll_old) (Nat.le_succ _) ⟨hlen, out, ep, w1, he'⟩, rfl, q ys _ pm w2 (I.hok.fresh (Nat.le_succ _))⟩
/-- the rows of ints of a list of lists; of a list of tuples that are not empty -/
def rowsL : List D → Option (List (List Int))
  | [] => some []
  | .lst xs :: ds => (intsD xs).bind fun ns => (rowsL ds).bind fun ls => some (ns :: ls)
  | _ => none
def rowsT : List D → Option (List (List Int))
  | [] => some []
  | .tup xs :: ds => (intsNE xs).bind fun ns => (rowsT ds).bind fun ls => some (ns :: ls)
  | _ => none
theorem toPys_ints (ns : List Int) : toPys (ns.map D.int) = ns.map PyData.int := by
  induction ns with
  | nil => rfl
  | cons n ns ih => simp [toPys, toPy, ih]
theorem rowsL_eq : ∀ {ds : List D} {ls : List (List Int)}, rowsL ds = some ls → ds = ls.map fun ns => D.lst (ns.map D.int)
  | [], _, e => by cases e; rfl
  | d :: ds, _, e => by
    cases d <;> simp only [rowsL] at e <;> try (cases e; done)
    obtain ⟨ns, h1, e⟩ := Option.bind_eq_some_iff.mp e
    obtain ⟨ls, h2, e⟩ := Option.bind_eq_some_iff.mp e
    cases e
    rw [List.map_cons, ← rowsL_eq h2, ← intsD_eq h1]
theorem rowsT_eq : ∀ {ds : List D} {ls : List (List Int)}, rowsT ds = some ls → (ds = ls.map fun ns => D.tup (ns.map D.int)) ∧ ∀ l ∈ ls, l ≠ []
  | [], _, e => by cases e; exact ⟨rfl, fun _ h => (nomatch h)⟩
  | d :: ds, _, e => by
    cases d <;> simp only [rowsT] at e <;> try (cases e; done)
    obtain ⟨ns, h1, e⟩ := Option.bind_eq_some_iff.mp e
    obtain ⟨ls, h2, e⟩ := Option.bind_eq_some_iff.mp e
    cases e
    obtain ⟨q1, q2⟩ := intsNE_some h1
    obtain ⟨q3, q4⟩ := rowsT_eq h2
    refine ⟨by rw [List.map_cons, ← q3, ← intsD_eq q1], fun l hl => ?_⟩
    rcases List.mem_cons.mp hl with z | z
    · rw [z]; exact q2
    · exact q4 l z
theorem RpAll.mem {K : PySem.W.Frag} {F : Hp} {vs : List V} {ds : List D} (h : RpAll K C F vs ds) {v : V} (hv : v ∈ vs) : ∃ d ∈ ds, Rp K C F v d := by
  obtain ⟨i, hi⟩ := List.getElem?_of_mem hv
  obtain ⟨d, h1, h2⟩ := h.get hi
  exact ⟨d, List.mem_of_getElem? h1, h2⟩
/-- one empty tuple, sorted -/
def unitT : List D → Option D
  | [.tup []] => some (.lst [.tup []])
  | _ => none
def sortedD : List D → Option D
  | [.lst ds] => ((intsD ds).bind fun ns => some (.lst ((sortI ns).map D.int))).or (((rowsL ds).bind fun ls => some (.lst ((sortL ls).map fun ns => D.lst (ns.map D.int)))).or (((rowsT ds).bind fun ls => some (.lst ((sortL ls).map fun ns => D.tup (ns.map D.int)))).or (unitT ds)))
  | _ => none
theorem each_rp {K : PySem.W.Frag} {F : Hp} {kd : List Int → D} : ∀ {xs : List V} {ls : List (List Int)}, RpAll K C F xs (ls.map kd) → EachIs (fun y l => Rp K C F y (kd l)) xs ls
  | [], [], _ => .nil
  | [], _ :: _, h => by cases h
  | _ :: _, [], h => by cases h
  | _ :: _, _ :: _, h => by
    cases h with
    | cons h1 h2 => exact .cons h1 (each_rp h2)
theorem rp_each {K : PySem.W.Frag} {F : Hp} {kd : List Int → D} : ∀ {xs : List V} {ls : List (List Int)}, EachIs (fun y l => Rp K C F y (kd l)) xs ls → RpAll K C F xs (ls.map kd)
  | _, _, .nil => .nil
  | _, _, .cons h t => .cons h (rp_each t)
theorem plains_ints (ns : List Int) : plains (ns.map D.int) = true := by
  induction ns with
  | nil => rfl
  | cons n ns ih => simp [plains, plain, ih]
theorem co_sortG {tupl : Bool} {F H : Hp} {ls : List (List Int)} {v : V} {Q : VK} (s : Same F H) (hne : tupl = true → (∀ l ∈ ls, l ≠ []) ∨ ls = [[]]) (r : Rb X.K C F H v (.lst (ls.map fun ns => if tupl then D.tup (ns.map D.int) else D.lst (ns.map D.int))))
    (k : ∀ p o, H p = none → Own X.K C F (upd H p o) p (.lst ((sortL ls).map fun ns => if tupl then D.tup (ns.map D.int) else D.lst (ns.map D.int))) → Q (.ref p) (upd H p o)) : rSortG X.K tupl [v] H Q := by
  obtain ⟨a, vs, rfl, q, ql, rp⟩ := r.lst s
  refine ⟨a, vs, ls, rfl, SqL.of q, hne, ql, fun y l => Rp X.K C F y (if tupl then D.tup (l.map D.int) else D.lst (l.map D.int)), each_rp rp, fun y l h => ?_, fun ys p hp he hn => ?_⟩
  · cases tupl with
    | true =>
      have := h.dp (d := .tup (l.map D.int)) s (plains_ints l)
      simp only [toPy, toPys_ints] at this
      exact this
    | false =>
      have := h.dp (d := .lst (l.map D.int)) s (plains_ints l)
      simp only [toPy, toPys_ints] at this
      exact this
  · exact k p _ hn ⟨ys, upd_same, by rw [hp.length_eq]; exact ql, rp_each he⟩
theorem co_sortedD (hu : X.A.units + 64 < cLine) : CallO X C (.builtin "sorted") sortedD := by
  refine ⟨_, cr_sortedI.or ((cr_sortG false hu).or (cr_sortG true hu)), fun F H vs ds d Q s r e k => ?_⟩
  unfold sortedD at e
  split at e
  case h_2 => cases e
  next ds =>
  cases r with
  | cons r1 r2 =>
    cases r2
    cases h1 : intsD ds with
    | some ns =>
      simp only [h1, Option.bind_some, Option.some_or] at e
      cases e
      obtain ⟨a, vs, rfl, q, ql, r⟩ := r1.lst s
      have ev := intsD_rp r h1
      subst ev
      refine .inl ⟨a, ns, rfl, SqL.of q, fun ns' p hp hs hn => ?_⟩
      have e2 : ns' = sortI ns := sorted_unique (hp.trans (sortI_perm ns).symm) hs (sortI_sorted ns)
      subst e2
      refine k p _ hn ⟨_, upd_same, ?_, rp_ints _⟩
      rw [List.length_map] at ql ⊢
      rw [(sortI_perm ns).length_eq]
      exact ql
    | none =>
      simp only [h1, Option.bind_none, Option.none_or] at e
      cases h2 : rowsL ds with
      | some ls =>
        simp only [h2, Option.bind_some, Option.some_or] at e
        cases e
        have eq := rowsL_eq h2
        subst eq
        exact .inr (.inl (co_sortG (tupl := false) s (fun z => (nomatch z)) r1 k))
      | none =>
        simp only [h2, Option.bind_none, Option.none_or] at e
        cases h3 : rowsT ds with
        | some ls =>
          simp only [h3, Option.bind_some, Option.some_or] at e
          cases e
          obtain ⟨eq, hne⟩ := rowsT_eq h3
          subst eq
          exact .inr (.inr (co_sortG (tupl := true) s (fun _ => .inl hne) r1 k))
        | none =>
          simp only [h3, Option.bind_none, Option.none_or] at e
          unfold unitT at e
          split at e
          · cases e
            exact .inr (.inr (co_sortG (tupl := true) (ls := [[]]) s (fun _ => .inr rfl) r1 k))
          · cases e
end
end DL

namespace DL
open PySem L2
/-! ### an own object that is only read from here on -/
section
variable {m : Bool} {X : Cx} {C : CA} {c : Cs} {ss : List Stmt} {f : SF}
def Cs.frz (c : Cs) (i : Nat) : Cs := ⟨c.n, c.O.filter fun j => decide (j ≠ i), c.io, c.ci, c.cn⟩
theorem mem_frz {c : Cs} {i j : Nat} : j ∈ (c.frz i).O ↔ j ∈ c.O ∧ j ≠ i := by simp [Cs.frz]
theorem SRo.frz {K : PySem.W.Frag} {z : Zn} {F : Hp} {env : Env} {σ : St} {H : Hp} (S : SRo K C c z F env σ H) {i : Nat} (hO : i ∈ c.O) (hio : i ∉ c.io) : SRo K C (c.frz i) z F env σ H ∨ ∃ a o, H a = some o ∧ ∀ o', Fz o o' → ∃ F', Same F F' ∧ SRo K C (c.frz i) z F' env σ (upd H a o') := by
  cases hd : gt env i with
  | none =>
    refine .inl ⟨S.sub, S.f0, S.new, S.keep, S.len, S.num, fun j e h hj => ?_, fun j e h hj => S.own j e h (mem_frz.mp hj).1, fun j k dj dk b hj hk => S.dist j k dj dk b (mem_frz.mp hj).1 (mem_frz.mp hk).1, S.iol, S.gho, fun b e j e2 h hj => S.ghd b e j e2 h (mem_frz.mp hj).1, S.ghn, fun k j hk => ?_⟩
    · by_cases q : j ∈ c.O
      · by_cases q2 : j = i
        · subst q2; rw [hd] at h; cases h
        · exact absurd (mem_frz.mpr ⟨q, q2⟩) hj
      · exact S.pur j e h q
    · obtain ⟨h1, h2⟩ := S.ios k j hk
      exact ⟨mem_frz.mpr ⟨h1, fun q => hio (q ▸ List.mem_of_getElem? hk)⟩, h2⟩
  | some d =>
    obtain ⟨a, hv, _, ho, _⟩ := S.own i d hd hO
    obtain ⟨o, hao⟩ := ho.some
    refine .inr ⟨a, o, hao, fun o' fz => ?_⟩
    obtain ⟨S', s', r⟩ := S.freeze hO hio hd hv hao fz
    have ne : ∀ {j e}, gt env j = some e → j ≠ i → gt (st env i none) j = some e := fun h q => by rw [gt_st_ne (Ne.symm q)]; exact h
    refine ⟨_, s', S'.sub, S'.f0, S'.new, S'.keep, S.len, S.num, fun j e h hj => ?_, fun j e h hj => ?_, fun j k dj dk b hj hk hjk ej ek => ?_, S'.iol, S'.gho, fun b e j e2 h hj ej => ?_, S'.ghn, fun k j hk => ?_⟩
    · by_cases q2 : j = i
      · subst q2; rw [hd] at h; cases h; exact ⟨_, hv, r⟩
      · exact S'.pur j e (ne h q2) fun q => hj (mem_frz.mpr ⟨q, q2⟩)
    · obtain ⟨h1, h2⟩ := mem_frz.mp hj
      exact S'.own j e (ne h h2) h1
    · obtain ⟨h1, h2⟩ := mem_frz.mp hj
      obtain ⟨h3, h4⟩ := mem_frz.mp hk
      exact S'.dist j k dj dk b h1 h3 hjk (ne ej h2) (ne ek h4)
    · obtain ⟨h1, h2⟩ := mem_frz.mp hj
      exact S'.ghd b e j e2 h h1 (ne ej h2)
    · obtain ⟨h1, b, e, h2, h3, h4⟩ := S.ios k j hk
      exact ⟨mem_frz.mpr ⟨h1, fun q => hio (q ▸ List.mem_of_getElem? hk)⟩, b, e, h2, h3, h4⟩
theorem SRo.unfrz {K : PySem.W.Frag} {z : Zn} {F : Hp} {env : Env} {σ : St} {H : Hp} {i : Nat} (S : SRo K C (c.frz i) z F env σ H) (hio : i ∉ c.io) : SRo K C c z F (st env i none) σ H := by
  have le : (st env i none).length = env.length := st_length ..
  refine ⟨S.sub, S.f0, S.new, S.keep, by rw [le]; exact S.len, by rw [le]; exact S.num, fun j e h hj => ?_, fun j e h hj => ?_, fun j k dj dk b hj hk hjk ej ek => ?_, S.iol, S.gho, fun b e j e2 h hj ej => ?_, S.ghn, fun k j hk => ?_⟩
  · obtain ⟨hij, h⟩ := gt_st_none h
    exact S.pur j e h fun q => hj (mem_frz.mp q).1
  · obtain ⟨hij, h⟩ := gt_st_none h
    exact S.own j e h (mem_frz.mpr ⟨hj, Ne.symm hij⟩)
  · obtain ⟨h1, ej⟩ := gt_st_none ej
    obtain ⟨h2, ek⟩ := gt_st_none ek
    exact S.dist j k dj dk b (mem_frz.mpr ⟨hj, Ne.symm h1⟩) (mem_frz.mpr ⟨hk, Ne.symm h2⟩) hjk ej ek
  · obtain ⟨h1, ej⟩ := gt_st_none ej
    exact S.ghd b e j e2 h (mem_frz.mpr ⟨hj, Ne.symm h1⟩) ej
  · obtain ⟨h1, b, e, h2, h3, h4⟩ := S.ios k j hk
    have hij : i ≠ j := fun q => hio (q ▸ List.mem_of_getElem? hk)
    exact ⟨(mem_frz.mp h1).1, b, e, h2, h3, by rw [gt_st_ne hij]; exact h4⟩
theorem frz_x {c : Cs} {i : Nat} (h : i < c.n) : (c.frz i).x = c.x.frz i := by
  have e : (c.O ++ c.ixs).filter (fun j => decide (j ≠ i)) = c.O.filter (fun j => decide (j ≠ i)) ++ c.ixs := by
    have f2 : c.ixs.filter (fun j => decide (j ≠ i)) = c.ixs := List.filter_eq_self.mpr fun j hj => decide_eq_true (show j ≠ i from fun q => by have := ixs_ge hj; omega)
    rw [List.filter_append, f2]
  show Cs.mk _ _ _ _ _ = Cs.mk _ _ _ _ _
  congr 1
  exact e.symm
theorem SR.frz {K : PySem.W.Frag} {z : Zn} {F : Hp} {env : Env} {σ : St} {H : Hp} (S : SR K C c z F env σ H) {i : Nat} (hO : i ∈ c.O) (hio : i ∉ c.io) : SR K C (c.frz i) z F env σ H ∨ ∃ a o, H a = some o ∧ ∀ o', Fz o o' → ∃ F', Same F F' ∧ SR K C (c.frz i) z F' env σ (upd H a o') := by
  have lt := S.hO i hO
  have up : ∀ {F' H'}, SRo K C (c.x.frz i) z F' env (σ ++ cells C c) H' → SR K C (c.frz i) z F' env σ H' := fun h => ⟨by rw [frz_x lt]; exact h, S.ln, fun j hj => S.hO j (mem_frz.mp hj).1, fun j hj => mem_frz.mpr ⟨S.hio j hj, fun q => hio (q ▸ hj)⟩⟩
  rcases S.b.frz (x_mem hO) (x_notio hio lt) with h | ⟨a, o, h1, h2⟩
  · exact .inl (up h)
  · exact .inr ⟨a, o, h1, fun o' fz => let ⟨F', s, h⟩ := h2 o' fz; ⟨F', s, up h⟩⟩
theorem SR.unfrz {K : PySem.W.Frag} {z z0 : Zn} {F F0 : Hp} {env env0 : Env} {σ σ0 : St} {H H0 : Hp} {i : Nat} (S0 : SR K C c z0 F0 env0 σ0 H0) (S : SR K C (c.frz i) z F env σ H) (hO : i ∈ c.O) (hio : i ∉ c.io) : SR K C c z F (st env i none) σ H := by
  have lt := S0.hO i hO
  have h := S.b
  rw [frz_x lt] at h
  exact ⟨h.unfrz (x_notio hio lt), S.ln, S0.hO, S0.hio⟩
def Fl.wipe (i : Nat) : Fl → Fl
  | .nx e => .nx (st e i none)
  | .bk e => .bk (st e i none)
  | .ct e => .ct (st e i none)
  | .rt d e => .rt d e
def sFrz (i : Nat) (f : SF) : SF := fun env => (f env).map (Fl.wipe i)
theorem PSs.fz {t : TS} (h : PSs X ss t) : PSs X ss (fun Dn σ H => t Dn σ H ∨ ∃ a u, H a = some u ∧ ∀ u', Fz u u' → t Dn σ (upd H a u')) :=
  ⟨fun pins s σ H Dn I q => by
    rcases q with q | ⟨a, u, hu, q⟩
    · exact h.run pins s σ H Dn I q
    · obtain ⟨u', fz, I2⟩ := Inv_fz I hu
      exact h.run pins s σ _ Dn I2 (q u' fz)⟩
theorem dss_frz (i : Nat) (h : DSs m X C (c.frz i) ss f) (hO : i ∈ c.O := by decide) (hio : i ∉ c.io := by decide) : DSs m X C c ss (sFrz i f) := by
  refine PSs.imp (PSs.fz h) fun Dn σ H ⟨z, F, env, fl, S, hg, e, k⟩ => ?_
  obtain ⟨fl1, e1, rfl⟩ := Option.map_eq_some_iff.mp e
  have key : ∀ F' H', Same F F' → SR X.K C (c.frz i) z F' env σ H' → tS m X.K C (c.frz i) f Dn σ H' := fun F' H' s' S' => by
    refine ⟨z, F', env, fl1, S', hg, e1, ?_⟩
    cases fl1 with
    | nx _ => exact fun F2 σ2 H2 s2 S2 => k F2 σ2 H2 (s'.trans s2) (S.unfrz S2 hO hio)
    | bk _ => exact fun F2 σ2 H2 s2 S2 => k F2 σ2 H2 (s'.trans s2) (S.unfrz S2 hO hio)
    | ct _ => exact fun F2 σ2 H2 s2 S2 => k F2 σ2 H2 (s'.trans s2) (S.unfrz S2 hO hio)
    | rt _ _ => exact fun v F2 H2 s2 R => k v F2 H2 (s'.trans s2) ⟨R.sub, R.f0, R.new, R.keep, R.ios, R.val⟩
  rcases S.frz hO hio with S' | ⟨a, o, hao, q⟩
  · exact .inl (key F H (Same.refl _) S')
  · refine .inr ⟨a, o, hao, fun o' fz => ?_⟩
    obtain ⟨F', s', S'⟩ := q o' fz
    exact key F' _ s' S'
/-! ### a body that always returns -/
def NoNx (f : SF) : Prop := ∀ env env', f env ≠ some (.nx env')
end
section
variable {m : Bool} {X : Cx} {C : CA} {c : Cs} {e a b : Expr} {es : List Expr} {fa : AF} {f g : EF} {pos p : Pos} {x : Str}
/-! ### slices of lists and tuples, as data -/
def fSlc (f : EF) (l h : PF) : EF := fun env => (f env).bind fun p => (l p.2).bind fun q => (h q.2).bind fun r => (rdB r.2 p.1).bind fun d => match d with
  | .lst xs => some (.val (.lst (cutD xs q.1 r.1)), r.2)
  | .tup xs => some (.val (.tup (cutD xs q.1 r.1)), r.2)
  | _ => none
theorem cut_whole {xs : List D} {lo hi : Option Int} (h1 : HT.sIx xs.length 0 lo = 0) (h2 : HT.sIx xs.length xs.length hi = xs.length) : cutD xs lo hi = xs := by
  unfold cutD
  rw [h1, h2]
  simp
theorem SlR.or {r r' : V → Option Int → Option Int → Hp → VK → Prop} (h : SlR X r) (h' : SlR X r') : SlR X (fun x lo hi H Q => r x lo hi H Q ∨ r' x lo hi H Q) := by
  intro pins s σ H x v vl vu lo hi sl Q I rx hs pl pu q
  rcases q with q | q
  · exact h pins s σ H x v vl vu lo hi sl Q I rx hs pl pu q
  · exact h' pins s σ H x v vl vu lo hi sl Q I rx hs pl pu q
theorem de_slc {lo hi : Option Expr} {fl fh : PF} {p2 : Pos} (he : DE X C c e f) (hl : DPt X C c lo fl) (hh : DPt X C c hi fh) : DE X C c (.Subscript e (.Slice lo hi none p2) pos) (fSlc f fl fh) := by
  refine PE.imp (pe_slice (SlR.or sl_list sl_tupA) he hl hh) fun σ H Q ⟨z, F, env, b, env', S, e, k⟩ => ?_
  simp only [fSlc, Option.bind_eq_some_iff] at e
  obtain ⟨⟨b1, e1⟩, h1, ⟨i1, e2⟩, h2, ⟨i2, e3⟩, h3, d, h4, e⟩ := e
  refine ⟨z, F, env, b1, e1, S, h1, fun v F1 H1 s1 S1 r1 => ⟨z, F1, e1, i1, e2, S1, h2, fun F2 H2 s2 S2 => ⟨z, F2, e2, i2, e3, S2, h3, fun F3 H3 s3 S3 => ?_⟩⟩⟩
  have s13 := s1.trans (s2.trans s3)
  have rb := (r1.mono (s2.trans s3)).rb S3 h4
  cases d <;> simp only at e <;> try (cases e; done)
  · cases e
    obtain ⟨a, vs, rfl, q, ql, r⟩ := rb.lst S3.sub
    refine .inl ⟨a, vs, rfl, SqL.of q, fun p hp => ?_⟩
    have ex : Ext F3 H3 (upd F3 p (.lst (cutV vs i1 i2))) (upd H3 p (.lst (cutV vs i1 i2))) := Ext.laid S3.sub hp
    exact k _ _ _ (s13.trans ex.sub) (S3.ext ex) (.lst upd_same (Nat.le_trans (cutV_length vs i1 i2) ql) ((cut_rp r i1 i2).mono ex.sub))
  · cases e
    rename_i xs
    obtain ⟨a, vs, rfl, q, ql, r⟩ := rb.tup S3.sub
    refine .inr ⟨a, vs, rfl, q, fun ⟨w1, w2⟩ => ?_, fun _ p hp => ?_⟩
    · rw [r.length] at w1 w2
      refine k _ F3 H3 s13 S3 ?_
      rw [cut_whole w1 w2]
      rcases rb with w | ⟨a', w, ow⟩
      · exact w
      · exact ow.elim
    · have ex : Ext F3 H3 (upd F3 p (.tup (cutV vs i1 i2))) (upd H3 p (.tup (cutV vs i1 i2))) := Ext.laid S3.sub hp
      exact k _ _ _ (s13.trans ex.sub) (S3.ext ex) (.tup (SqT.of upd_same) (Nat.le_trans (cutV_length vs i1 i2) ql) ((cut_rp r i1 i2).mono ex.sub))
/-! ### *e -/
def aS (f : EF) (fa : AF) : AF := fun env => (f env).bind fun p => (rdB p.2 p.1).bind fun d => (itmsS d).bind fun xs => (fa p.2).bind fun q => some (xs.map B.val ++ q.1, q.2)
theorem RBs.app {K : PySem.W.Frag} {F : Hp} {σ : St} : ∀ {vs : List V} {bs : List B} {ws : List V} {cs : List B}, RBs K C c F σ vs bs → RBs K C c F σ ws cs → RBs K C c F σ (vs ++ ws) (bs ++ cs)
  | _, _, _, _, .nil, h => h
  | _, _, _, _, .cons h t, g => .cons h (t.app g)
theorem rbs_vals {K : PySem.W.Frag} {F : Hp} {σ : St} : ∀ {vs : List V} {ds : List D}, RpAll K C F vs ds → RBs K C c F σ vs (ds.map B.val)
  | _, _, .nil => .nil
  | _, _, .cons h t => .cons h (rbs_vals t)
theorem da_star {p2 : Pos} (h : DE X C c e f) (hr : DA X C c es fa) (hs : starEach (.Starred e p2 :: es) X.env = (true, eval e X.env) :: starEach es X.env := by rfl) : DA X C c (.Starred e p2 :: es) (aS f fa) := by
  refine PA.imp (StX.pa_star h hr hs) fun σ H Q ⟨z, F, env, b, env', S, e, k⟩ => ?_
  simp only [aS, Option.bind_eq_some_iff] at e
  obtain ⟨⟨b1, e1⟩, h1, d, h2, xs, h3, ⟨bs, e2⟩, h4, e⟩ := e
  cases e
  refine ⟨z, F, env, b1, e1, S, h1, fun v F1 H1 s1 S1 r1 => ?_⟩
  have rb := r1.rb S1 h2
  have fin : ∀ {vs : List V}, RpAll X.K C F1 vs xs → (tAr X.K C c fa) σ H1 fun ys H2 => Q (vs ++ ys) H2 := fun r => ⟨z, F1, e1, bs, _, S1, h4, fun ws F2 H2 s2 S2 r2 => k _ F2 H2 (s1.trans s2) S2 ((rbs_vals (r.mono s2)).app r2)⟩
  cases d <;> simp only [itmsS] at h3 <;> try (cases h3; done)
  · cases h3
    obtain ⟨a, vs, rfl, q, ql, r⟩ := rb.lst S1.sub
    exact ⟨a, vs, rfl, .inr (SqL.of q), fin r⟩
  · cases h3
    obtain ⟨a, vs, rfl, q, ql, r⟩ := rb.tup S1.sub
    exact ⟨a, vs, rfl, .inl q, fin r⟩
/-! ### xs * n -/
def repD (xs : List D) : Nat → List D
  | 0 => []
  | n + 1 => xs ++ repD xs n
theorem rep_rp {K : PySem.W.Frag} {F : Hp} {vs : List V} {ds : List D} (h : RpAll K C F vs ds) : ∀ n : Nat, RpAll K C F (List.replicate n vs).flatten (repD ds n)
  | 0 => .nil
  | n + 1 => by rw [List.replicate_succ, List.flatten_cons]; exact h.app (rep_rp h n)
theorem rep_len {α : Type} (xs : List α) : ∀ n : Nat, (List.replicate n xs).flatten.length = n * xs.length
  | 0 => by simp
  | n + 1 => by rw [List.replicate_succ, List.flatten_cons, List.length_append, rep_len xs n, Nat.succ_mul, Nat.add_comm]
def mulL (x y : D) : Option D := match x with
  | .lst xs => (match y with
    | .int k => if decide (-(2 ^ 63) ≤ k) && decide (k < 2 ^ 63) then gd (xs.length * k.toNat) (some (.lst (repD xs k.toNat))) else none
    | _ => none)
  | _ => none
/-! ### xs + ys of lists: a new list -/
def oCat (f g : EF) : OF := fun env => (f env).bind fun p => (g p.2).bind fun q => (rdB q.2 p.1).bind fun x => (rdB q.2 q.1).bind fun y => (addLL x y).bind fun d => some (d, q.2)
theorem do_cat (ha : DE X C c a f) (hb : DE X C c b g) : DO X C c (.BinOp a .Add b pos) (oCat f g) := by
  refine PE.imp (pe_op op_cat ha hb) fun σ H Q ⟨z, F, env, b, env', S, e, k⟩ => ?_
  simp only [oCat, Option.bind_eq_some_iff] at e
  obtain ⟨⟨b1, e1⟩, h1, ⟨b2, e2⟩, h2, x, hx, y, hy, d, hd, e⟩ := e
  cases e
  refine ⟨z, F, env, b1, e1, S, h1, fun v F1 H1 s1 S1 r1 => ⟨z, F1, e1, b2, _, S1, h2, fun w F2 H2 s2 S2 r2 => ?_⟩⟩
  have rx := (r1.mono s2).rb S2 hx
  have ry := r2.rb S2 hy
  cases x <;> simp only [addLL] at hd <;> try (cases hd; done)
  cases y <;> try (cases hd; done)
  obtain ⟨hl, hd⟩ := gd_some hd
  cases hd
  obtain ⟨a, vs, rfl, q1, l1, w1⟩ := rx.lst S2.sub
  obtain ⟨b, ws, rfl, q2, l2, w2⟩ := ry.lst S2.sub
  have hl' : vs.length + ws.length ≤ sizeLine := by rw [w1.length, w2.length]; exact hl
  refine ⟨a, b, vs, ws, rfl, rfl, q1, q2, hl', fun p hp => ?_⟩
  obtain ⟨S3, fp, zp, ap, ng⟩ := S2.newO (o := .lst (vs ++ ws)) hp
  exact k p F2 _ (s1.trans s2) S3 fp zp ⟨_, upd_same, by rw [List.length_append]; exact hl', w1.app w2⟩ ap ng
/-! ### {k: v} -/
def oDi1 (f g : EF) : OF := fun env => (f env).bind fun p => (g p.2).bind fun q => (rdB q.2 p.1).bind fun x => (keyD x).bind fun kk => match q.1 with
  | .val d => some (.dic [(kk, d)], q.2)
  | .slot _ => none
theorem do_dict1 (hu : X.A.units + 64 < cLine) (ha : DE X C c a f) (hb : DE X C c b g) : DO X C c (.Dict [some a] [b] pos) (oDi1 f g) := by
  refine PE.imp (pe_disp (pps_cons ha hb pps_nil) rfl rfl (by simp) (by simp)) fun σ H Q ⟨z, F, env, d, env', S, e, k⟩ => ?_
  simp only [oDi1, Option.bind_eq_some_iff] at e
  obtain ⟨⟨b1, e1⟩, h1, ⟨b2, e2⟩, h2, x, hx, kk, hk, e⟩ := e
  cases b2 with
  | slot _ => cases e
  | val dv =>
    cases e
    intro p hp
    obtain ⟨S0, fp, zp, ap, ng⟩ := S.newO (o := .dK []) hp
    have Sg := S0.ghost (d := .dic []) fp zp ⟨[], upd_same, .nil⟩ ap ng
    refine ⟨_, F, env, b1, e1, Sg, h1, fun v F1 H1 s1 S1 r1 => ⟨_, F1, e1, _, _, S1, h2, fun w F2 H2 s2 S2 r2 => ?_⟩⟩
    have rx := (r1.mono s2).rb S2 hx
    have rw_ : Rp X.K C F2 w dv := r2
    have hv := keyD_v rx hk
    obtain ⟨q1, q2, q3⟩ := S2.gho p (.dic []) (List.mem_cons_self ..)
    obtain ⟨kvs, q4, q5⟩ := q2
    cases q5
    refine ⟨q4, [(kk, w)], by rw [hv]; rfl, by simp, ?_⟩
    have S3 := S2.gwrite (d' := .dic [(kk, dv)]) (o := .dK (mergeK [] [(kk, w)])) ⟨_, upd_same, .cons rw_ .nil⟩
    obtain ⟨S4, fa, za, ow, ap2, ng2⟩ := S3.unghost
    exact k p F2 _ (s1.trans s2) S4 fa za ow ap2 ng2
end
end DL

namespace DL
open PySem L2
section
variable {m : Bool} {X : Cx} {C : CA} {c : Cs} {e a b : Expr} {es : List Expr} {fa : AF} {f g : EF} {pos p : Pos} {x : Str}
theorem wipe_cong (own : List Nat) (σ1 σ2 : St) (hl : σ1.length = σ2.length) (h : ∀ j, j ∉ own → σ1[j]? = σ2[j]?) : L2.wipe σ1 own = L2.wipe σ2 own := by
  refine List.ext_getElem? fun j => ?_
  by_cases q : j ∈ own
  · have z : ∀ σ : St, (L2.wipe σ own)[j]? = if j < σ.length then some none else none := by
      intro σ
      by_cases lt : j < σ.length
      · rw [if_pos lt]
        cases e : (L2.wipe σ own)[j]? with
        | none => rw [List.getElem?_eq_none_iff, wipe_length] at e; omega
        | some v =>
          cases v with
          | none => rfl
          | some v => exact absurd q (wipe_some e).2
      · rw [if_neg lt, List.getElem?_eq_none_iff, wipe_length]; omega
    rw [z, z, hl]
  · rw [wipe_out q, wipe_out q, h j q]
theorem wipe_sub {own own1 : List Nat} (σ : St) (h : ∀ j ∈ own1, j ∈ own) : L2.wipe (L2.wipe σ own1) own = L2.wipe σ own :=
  wipe_cong own _ _ (wipe_length σ own1) fun j hj => wipe_out fun q => hj (h j q)
/-! ### [e for x in a for y in b if t] -/
def lc2D (gg : GF) (fi1 : IF) (gg1 : GF) (tt : TF) (f : EF) (own own1 : List Nat) : List D → Env → List D → Option (List D × Env)
  | [], env, acc => some (acc, env)
  | d :: ds, env, acc => (gg d env).bind fun e1 => (fi1 e1).bind fun p => (lcD gg1 tt f own1 p.1 (wipeE p.2 own1) acc).bind fun r => lc2D gg fi1 gg1 tt f own own1 ds (wipeE r.2 own) r.1
theorem lcD_len {gg : GF} {tt : TF} {f : EF} {own : List Nat} : ∀ {ds : List D} {env : Env} {acc : List D} {r : List D × Env}, lcD gg tt f own ds env acc = some r → acc.length ≤ r.1.length
  | [], _, _, _, h => by cases h; exact Nat.le_refl _
  | d :: ds, env, acc, r, h => by
    simp only [lcD, Option.bind_eq_some_iff] at h
    obtain ⟨e1, h1, ⟨k, e2⟩, h2, h⟩ := h
    cases k with
    | false => exact lcD_len h
    | true =>
      rw [if_pos rfl] at h
      obtain ⟨⟨b, e3⟩, h3, h⟩ := Option.bind_eq_some_iff.mp h
      cases b with
      | slot _ => cases h
      | val y =>
        have := lcD_len h
        rw [List.length_append, List.length_singleton] at this
        omega
theorem lc2D_len {gg : GF} {fi1 : IF} {gg1 : GF} {tt : TF} {f : EF} {own own1 : List Nat} : ∀ {ds : List D} {env : Env} {acc : List D} {r : List D × Env}, lc2D gg fi1 gg1 tt f own own1 ds env acc = some r → acc.length ≤ r.1.length
  | [], _, _, _, h => by cases h; exact Nat.le_refl _
  | d :: ds, env, acc, r, h => by
    simp only [lc2D, Option.bind_eq_some_iff] at h
    obtain ⟨e1, h1, p, h2, q, h3, h⟩ := h
    exact Nat.le_trans (lcD_len h3) (lc2D_len h)
def oLc2 (i : IF) (gg : GF) (fi1 : IF) (gg1 : GF) (tt : TF) (f : EF) (own own1 : List Nat) : OF := fun env => (i env).bind fun p => (lc2D gg fi1 gg1 tt f own own1 p.1 (wipeE p.2 own) []).bind fun r => gd r.1.length (some (.lst r.1, backE p.2 own r.2))
theorem lc2_read {tt : TF} {gg gg1 : GF} {ts ts1 own own1 : List Nat} {f : EF} {fi fi1 : IF} {σ : St} {H : Hp} {Q : VK} {z : Zn} {F : Hp} {env env' : Env} {d : D} (ho : ∀ j ∈ own, j ∉ c.O ∧ j < c.n) (hts : ∀ t ∈ ts, t ∈ own) (hts1 : ∀ t ∈ ts1, t ∈ own1) (how : ∀ j ∈ own1, j ∈ own) (S : SR X.K C c z F env σ H) (e : oLc2 fi gg fi1 gg1 tt f own own1 env = some (d, env'))
    (k : ∀ a F' H', Same F F' → SR X.K C c z F' env' σ H' → F' a = none → z.H0 a = none → Own X.K C F' H' a d → (Apt C c env' σ a) → (∀ e, (a, e) ∉ z.gh) → Q (.ref a) H') :
    tLc2 (tI X.K C c fi) (tG X.K C c ts gg) (tT X.K C c tYesF) (tI X.K C c fi1) (tG X.K C c ts1 gg1) (tT X.K C c tt) (tE X.K C c f) own own1 σ H Q := by
  simp only [oLc2, Option.bind_eq_some_iff] at e
  obtain ⟨⟨ds, e1⟩, h1, ⟨res, e2⟩, h2, e⟩ := e
  obtain ⟨hres, e⟩ := gd_some e
  cases e
  have hres : res.length ≤ sizeLine := hres
  have ho1 : ∀ j ∈ own1, j ∉ c.O ∧ j < c.n := fun j hj => ho j (how j hj)
  refine ⟨z, F, env, ds, e1, S, h1, fun J F1 H1 s1 S1 W D hD => ?_⟩
  obtain ⟨S2, fD, zD, apD, ngD⟩ := S1.newO (o := .lst []) hD
  have S3 := (S2.ghost (d := .lst []) fD zD ⟨[], upd_same, Nat.zero_le _, .nil⟩ apD ngD).wipe ho
  refine ⟨fun i n H => n = ds.length - i ∧ i ≤ ds.length ∧ ∃ F4 env4 acc, Same F1 F4 ∧ SR X.K C c { z with gh := (D, .lst acc) :: z.gh } F4 env4 (L2.wipe σ own) H ∧ lc2D gg fi1 gg1 tt f own own1 (ds.drop i) env4 acc = some (res, e2), ⟨ds.length, by simp, Nat.zero_le _, F1, _, [], Same.refl _, S3, h2⟩, ?_⟩
  rintro i n H4 ⟨rfl, hi, F4, env4, acc, s4, S4, e4⟩
  by_cases hlt : i < ds.length
  · refine .inr ⟨W.go i F4 H4 s4 S4.sub hlt, fun H' => ∃ F5 env5 acc5, Same F1 F5 ∧ SR X.K C c { z with gh := (D, .lst acc5) :: z.gh } F5 env5 (L2.wipe σ own) H' ∧ lc2D gg fi1 gg1 tt f own own1 (ds.drop (i + 1)) env5 acc5 = some (res, e2), fun H' ⟨F5, env5, acc5, q1, q2, q4⟩ => ⟨ds.length - (i + 1), by omega, rfl, hlt, F5, env5, acc5, q1, q2, q4⟩, fun x H5 y => ?_⟩
    obtain ⟨F5, dx, ex, hd, r⟩ := W.yld i F4 H4 x H5 s4 S4.sub hlt y
    have ed : ds.drop i = dx :: ds.drop (i + 1) := by
      rw [List.drop_eq_getElem_cons hlt]
      obtain ⟨_, q⟩ := List.getElem?_eq_some_iff.mp hd
      rw [q]
    rw [ed] at e4
    simp only [lc2D, Option.bind_eq_some_iff] at e4
    obtain ⟨e5, h5, ⟨ds1, e6⟩, h6, ⟨acc7, e7⟩, h7, e8⟩ := e4
    refine ⟨_, F5, env4, dx, e5, S4.ext ex, r, h5, fun F6 σ6 H6 s6 S6 w6 => ?_⟩
    have w6' := (w6 own hts).trans (wipe_idem own σ)
    refine ⟨w6', _, F6, e5, true, e5, S6, rfl, fun F7 H7 s7 S7 => iteT ?_⟩
    refine ⟨_, F7, e5, ds1, e6, S7, h6, fun J1 F8 H8 s8 S8 W1 => ?_⟩
    have s18 : Same F1 F8 := s4.trans (ex.sub.trans (s6.trans (s7.trans s8)))
    have S9 := S8.wipe ho1
    refine ⟨fun j n H => n = ds1.length - j ∧ j ≤ ds1.length ∧ ∃ F9 env9 acc9, Same F8 F9 ∧ SR X.K C c { z with gh := (D, .lst acc9) :: z.gh } F9 env9 (L2.wipe σ6 own1) H ∧ lcD gg1 tt f own1 (ds1.drop j) env9 acc9 = some (acc7, e7), ⟨ds1.length, by simp, Nat.zero_le _, F8, _, acc, Same.refl _, S9, h7⟩, ?_⟩
    rintro j n H10 ⟨rfl, hj, F10, env10, acc10, s10, S10, e10⟩
    by_cases hlt1 : j < ds1.length
    · refine .inr ⟨W1.go j F10 H10 s10 S10.sub hlt1, fun H' => ∃ F5 env5 acc5, Same F8 F5 ∧ SR X.K C c { z with gh := (D, .lst acc5) :: z.gh } F5 env5 (L2.wipe σ6 own1) H' ∧ lcD gg1 tt f own1 (ds1.drop (j + 1)) env5 acc5 = some (acc7, e7), fun H' ⟨F5, env5, acc5, q1, q2, q4⟩ => ⟨ds1.length - (j + 1), by omega, rfl, hlt1, F5, env5, acc5, q1, q2, q4⟩, fun x1 H11 y1 => ?_⟩
      obtain ⟨F11, dx1, ex1, hd1, r1⟩ := W1.yld j F10 H10 x1 H11 s10 S10.sub hlt1 y1
      have ed1 : ds1.drop j = dx1 :: ds1.drop (j + 1) := by
        rw [List.drop_eq_getElem_cons hlt1]
        obtain ⟨_, q⟩ := List.getElem?_eq_some_iff.mp hd1
        rw [q]
      rw [ed1] at e10
      obtain ⟨e11, h11, e10⟩ := Option.bind_eq_some_iff.mp e10
      obtain ⟨⟨k12, e12⟩, h12, e10⟩ := Option.bind_eq_some_iff.mp e10
      refine ⟨_, F11, env10, dx1, e11, S10.ext ex1, r1, h11, fun F12 σ12 H12 s12 S12 w12 => ?_⟩
      have w12' := (w12 own1 hts1).trans (wipe_idem own1 σ6)
      refine ⟨w12', _, F12, e11, k12, e12, S12, h12, fun F13 H13 s13 S13 => ?_⟩
      have s813 : Same F8 F13 := s10.trans (ex1.sub.trans (s12.trans s13))
      cases k12 with
      | false =>
        refine iteF ⟨F13, wipeE e12 own1, acc10, s813, ?_, e10⟩
        have := S13.wipe ho1
        rw [w12'] at this
        exact this
      | true =>
        obtain ⟨⟨b14, e14⟩, h14, e10⟩ := Option.bind_eq_some_iff.mp e10
        refine iteT ⟨_, F13, e12, b14, e14, S13, h14, fun v F14 H14 s14 S14 r14 => ?_⟩
        cases b14 with
        | slot _ => cases e10
        | val yd =>
          obtain ⟨q1, q2, q3⟩ := S14.gho D (.lst acc10) (List.mem_cons_self ..)
          obtain ⟨vs, q4, q5, q6⟩ := q2
          have hlen : vs.length < sizeLine := by
            have a1 := lcD_len e10
            have a2 := lc2D_len e8
            rw [List.length_append, List.length_singleton] at a1
            dsimp only at a1 a2
            rw [q6.length]; omega
          refine ⟨vs, q4, hlen, F14, wipeE e14 own1, acc10 ++ [yd], s813.trans s14, ?_, e10⟩
          have S15 := (S14.gwrite (d' := .lst (acc10 ++ [yd])) (o := .lst (vs ++ [v])) ⟨_, upd_same, by rw [List.length_append]; exact hlen, q6.app (.one r14)⟩).wipe ho1
          rw [w12'] at S15
          exact S15
    · have q : j = ds1.length := by omega
      subst q
      rw [List.drop_length] at e10
      cases e10
      refine .inl ⟨W1.stop F10 H10 s10 S10.sub, F10, wipeE e7 own, acc7, s18.trans s10, ?_, e8⟩
      have := S10.wipe ho
      rw [wipe_sub σ6 how, w6'] at this
      exact this
  · have q : i = ds.length := by omega
    subst q
    rw [List.drop_length] at e4
    cases e4
    refine .inl ⟨W.stop F4 H4 s4 S4.sub, ?_⟩
    obtain ⟨S5, fa, za, ow, ap, ng⟩ := S4.unghost
    have S6 : SR X.K C c z F4 (backE e1 own e2) σ H4 := S1.back S5 s4 ho
    refine k D F4 H4 (s1.trans s4) S6 fa za ow (S1.aptB ho ap) ng
theorem do_lc2 {elt tg iter tg1 iter1 : Expr} {ifs1 : List Expr} {scope : Scope} {fi fi1 : IF} {gg gg1 : GF} {tt : TF} {ts ts1 : List Nat} (own : List (Str × Nat)) (own1 : List Nat) (hN : X.N.Nodup) (hi : DI X C c tg iter fi) (ok : BlkOk X.N X.env.scope scope own)
    (hg : ∀ (s : Shared) (H : Hp) (C' : Addr) (cl : List (Str × Addr)) (fp : List Addr), DG (X.blk s H scope (compEnvC scope cl C' X.env) fp) C c tg ts gg)
    (hi1 : ∀ (s : Shared) (H : Hp) (C' : Addr) (cl : List (Str × Addr)) (fp : List Addr), DI (X.blk s H scope (compEnvC scope cl C' X.env) fp) C c tg1 iter1 fi1)
    (hg1 : ∀ (s : Shared) (H : Hp) (C' : Addr) (cl : List (Str × Addr)) (fp : List Addr), DG (X.blk s H scope (compEnvC scope cl C' X.env) fp) C c tg1 ts1 gg1)
    (ht : ∀ (s : Shared) (H : Hp) (C' : Addr) (cl : List (Str × Addr)) (fp : List Addr), DTs (X.blk s H scope (compEnvC scope cl C' X.env) fp) C c ifs1 tt)
    (he : ∀ (s : Shared) (H : Hp) (C' : Addr) (cl : List (Str × Addr)) (fp : List Addr), DE (X.blk s H scope (compEnvC scope cl C' X.env) fp) C c elt f) (ho : ∀ j ∈ own.map (·.2), j ∉ c.O ∧ j < c.n := by decide) (hts : ∀ t ∈ ts, t ∈ own.map (·.2) := by decide) (hts1 : ∀ t ∈ ts1, t ∈ own1 := by decide) (how : ∀ j ∈ own1, j ∈ own.map (·.2) := by decide) (hc : X.calm = true := by rfl) (hs : ∀ x, foldedSetIterable iter X.env x = pure x := by intro _; rfl) (hs1 : ∀ env x, foldedSetIterable iter1 env x = pure x := by intro _ _; rfl) :
    DO X C c (.ListComp elt [⟨tg, iter, [], 0⟩, ⟨tg1, iter1, ifs1, 0⟩] scope pos) (oLc2 fi gg fi1 gg1 tt f (own.map (·.2)) own1) := by
  refine PE.imp (pe_lc2 (wi := tI X.K C c fi) (g := tG X.K C c ts gg) (tt := tT X.K C c tYesF) (wi1 := tI X.K C c fi1) (g1 := tG X.K C c ts1 gg1) (tt1 := tT X.K C c tt) (te := tE X.K C c f) (vs1 := own1) hc hN hi ok how (fun s H C' cl fp => hg s H C' cl fp) (fun s H C' cl fp => dts_nil) (fun s H C' cl fp => hi1 s H C' cl fp) (fun s H C' cl fp => hg1 s H C' cl fp) (fun s H C' cl fp => ht s H C' cl fp) (fun s H C' cl fp => he s H C' cl fp) hs hs1) fun σ H Q ⟨z, F, env, d, env', S, e, k⟩ => ?_
  exact lc2_read ho hts hts1 how S e k
theorem oLc2_lst {i i1 : IF} {gg gg1 : GF} {tt : TF} {f : EF} {own own1 : List Nat} {env e1 : Env} {d : D} (h : oLc2 i gg i1 gg1 tt f own own1 env = some (d, e1)) : ∃ ds, d = .lst ds := by
  simp only [oLc2, Option.bind_eq_some_iff] at h
  obtain ⟨_, _, _, _, e⟩ := h
  obtain ⟨_, e⟩ := gd_some e
  cases e
  exact ⟨_, rfl⟩
theorem ds_setLcP2 (i : Nat) {y : Str} {py spos : Pos} {elt tg iter tg1 iter1 : Expr} {ifs1 : List Expr} {scope : Scope} {fi fi1 : IF} {gg gg1 : GF} {tt : TF} {ts ts1 : List Nat} (own : List (Str × Nat)) (own1 : List Nat) (hN : X.N.Nodup) (hi : DI X C c tg iter fi) (ok : BlkOk X.N X.env.scope scope own)
    (hg : ∀ (s : Shared) (H : Hp) (C' : Addr) (cl : List (Str × Addr)) (fp : List Addr), DG (X.blk s H scope (compEnvC scope cl C' X.env) fp) C c tg ts gg)
    (hi1 : ∀ (s : Shared) (H : Hp) (C' : Addr) (cl : List (Str × Addr)) (fp : List Addr), DI (X.blk s H scope (compEnvC scope cl C' X.env) fp) C c tg1 iter1 fi1)
    (hg1 : ∀ (s : Shared) (H : Hp) (C' : Addr) (cl : List (Str × Addr)) (fp : List Addr), DG (X.blk s H scope (compEnvC scope cl C' X.env) fp) C c tg1 ts1 gg1)
    (ht : ∀ (s : Shared) (H : Hp) (C' : Addr) (cl : List (Str × Addr)) (fp : List Addr), DTs (X.blk s H scope (compEnvC scope cl C' X.env) fp) C c ifs1 tt)
    (he : ∀ (s : Shared) (H : Hp) (C' : Addr) (cl : List (Str × Addr)) (fp : List Addr), DE (X.blk s H scope (compEnvC scope cl C' X.env) fp) C c elt f) (hsw : swapsWith (.ListComp elt [⟨tg, iter, [], 0⟩, ⟨tg1, iter1, ifs1, 0⟩] scope pos) (some (.Name y py)) spos.line X.env = pure true) (ho : ∀ j ∈ own.map (·.2), j ∉ c.O ∧ j < c.n := by decide) (hts : ∀ t ∈ ts, t ∈ own.map (·.2) := by decide) (hts1 : ∀ t ∈ ts1, t ∈ own1 := by decide) (how : ∀ j ∈ own1, j ∈ own.map (·.2) := by decide)
    (hO : i ∉ c.O := by decide) (hn : i < c.n := by decide) (hy : X.N[i]? = some y := by rfl) (hyl : X.env.scope.names.lookup y = some .local := by rfl) (hc : X.calm = true := by rfl) (hs : ∀ x, foldedSetIterable iter X.env x = pure x := by intro _; rfl) (hs1 : ∀ env x, foldedSetIterable iter1 env x = pure x := by intro _ _; rfl) :
    DS m X C c (.Assign [.Name y py] (.ListComp elt [⟨tg, iter, [], 0⟩, ⟨tg1, iter1, ifs1, 0⟩] scope pos) spos) (sSet i (fO (oLc2 fi gg fi1 gg1 tt f (own.map (·.2)) own1))) := by
  refine PS.imp (ps_setLc2 (wi := tI X.K C c fi) (g := tG X.K C c ts gg) (tt := tT X.K C c tYesF) (wi1 := tI X.K C c fi1) (g1 := tG X.K C c ts1 gg1) (tt1 := tT X.K C c tt) (te := tE X.K C c f) (vs1 := own1) hc hN hy hyl hsw hi ok how (fun s H C' cl fp => hg s H C' cl fp) (fun s H C' cl fp => dts_nil) (fun s H C' cl fp => hi1 s H C' cl fp) (fun s H C' cl fp => hg1 s H C' cl fp) (fun s H C' cl fp => ht s H C' cl fp) (fun s H C' cl fp => he s H C' cl fp) hs hs1) fun Dn σ H ⟨z, F, env, fl, S, hgh, e, k⟩ => ?_
  simp only [sSet, fO, Option.bind_eq_some_iff] at e
  obtain ⟨r, ⟨⟨d, e1⟩, h1, e0⟩, e⟩ := e
  cases e0
  cases e
  exact lc2_read ho hts hts1 how S h1 fun a F1 H1 s1 S1 fa za ow ap ng => by
    obtain ⟨ds, rfl⟩ := oLc2_lst h1
    obtain ⟨o, S2, s2, r⟩ := S1.freezeL fa za ow ap ng
    exact k _ _ H1 (s1.trans s2) (S2.setP hO hn r)
/-! ### t < u, t > u of tuples of ints -/
def tupInts : D → Option (List Int)
  | .tup ds => intsD ds
  | _ => none
def gtTD (x y : D) : Option D := (tupInts x).bind fun a => (tupInts y).bind fun b => some (.bl (HT.lexLt b a))
def ltTD (x y : D) : Option D := (tupInts x).bind fun a => (tupInts y).bind fun b => some (.bl (HT.lexLt a b))
open PySem.W PyProof.Rows in
theorem dataLt_tup (x y : List Int) : dataLt (PyData.tuple (x.map PyData.int)) (PyData.tuple (y.map PyData.int)) = HT.lexLt x y := by
  show PyProof.Rows.lexLt itemOrd (keyToks (PyData.tuple (x.map PyData.int))) (keyToks (PyData.tuple (y.map PyData.int))) = HT.lexLt x y
  have := toks_lex x y
  simp only [keyToks]
  rw [this]
def rGtT (K : PySem.W.Frag) (sw : Bool) : R2 := fun x y H Q => ∃ a b : List Int, Dp K H x (.tuple (a.map PyData.int)) ∧ Dp K H y (.tuple (b.map PyData.int)) ∧ Q (.bl (if sw then HT.lexLt b a else HT.lexLt a b)) H
theorem alike_tup (a b : List Int) : PySem.W.alike (.tuple (a.map PyData.int)) (.tuple (b.map PyData.int)) = true := by
  simp only [PySem.W.alike]; exact alike_ints a b
theorem depth_tup (a : List Int) : (PyData.tuple (a.map PyData.int)).depth ≤ 2 := by
  have := depth_ints a
  simp only [PyData.depth]; omega
theorem op_gtT (hu : X.A.units + 64 < cLine) : OpR X (compareOp .Gt) (rGtT X.K true) := by
  intro pins s σ H x y v u Q I rx ry h
  obtain ⟨a, b, hd, he, q⟩ := h
  obtain ⟨as, r1⟩ := Dp.reads I _ x v hd rx
  obtain ⟨bs, r2⟩ := Dp.reads I _ y u he ry
  refine PySem.W.gt_data r1 r2 (alike_tup a b) (by simp) (by have := depth_tup a; have := depth_tup b; omega) ⟨.bl _, H, I, rfl, ?_⟩
  rw [dataLt_tup]; exact q
theorem tupInts_eq {d : D} {a : List Int} (h : tupInts d = some a) : d = .tup (a.map D.int) := by
  cases d <;> simp only [tupInts] at h <;> try (cases h; done)
  rw [intsD_eq h]
theorem od_gtT (hu : X.A.units + 64 < cLine) : OpD X C (compareOp .Gt) gtTD := by
  refine ⟨_, op_gtT hu, fun F H x y dx dy d Q s rx ry e k => ?_⟩
  obtain ⟨a, h1, e⟩ := Option.bind_eq_some_iff.mp e
  obtain ⟨b, h2, e⟩ := Option.bind_eq_some_iff.mp e
  cases e
  have e1 := tupInts_eq h1
  have e2 := tupInts_eq h2
  subst e1 e2
  have w : ∀ {v : V} {n : List Int}, Rb X.K C F H v (.tup (n.map D.int)) → Dp X.K H v (.tuple (n.map PyData.int)) := fun {v n} r => by
    have q := r.dp s (plains_ints n)
    rw [show toPy (.tup (n.map D.int)) = .tuple (toPys (n.map D.int)) from rfl, toPys_ints] at q
    exact q
  exact ⟨a, b, w rx, w ry, k _ F H (Ext.rfl' s) (.bl _)⟩
end
end DL
namespace DL
open PySem L2
/-- the law's promise at a script -/
theorem law_sp {K : PySem.W.Frag} {C : CA} {ff : FF} {a : Addr} {ns : List Int} {H : Hp} {E : XK} (hS : SqL K H a (ns.map V.int)) (e : ff [.scr ns] = some (.bl true, [])) : spF K C [] false 1 ff [.ref a] H (fun v _ => v = .bl true) E :=
  ⟨H, [.scr ns], .bl true, [], Same.refl _, rfl, args0 (.cons (.scr hS) .nil), e, fun v F' H' dn => by
    have r : Rp K C F' v (.bl true) := dn.val
    cases r
    rfl⟩
end DL

namespace DL
open PySem L2
section
variable {m : Bool} {X : Cx} {C : CA} {c : Cs} {e a b : Expr} {es : List Expr} {fa : AF} {f g : EF} {pos p pos2 p2 : Pos} {x : Str}
/-! ### list(range(..)), tuple(range(..)) -/
abbrev RF := Env → Option (Int × Int × Env)
def rg1 (f : EF) : RF := fun env => (f env).bind fun p => (rdB p.2 p.1).bind fun d => match d with
  | .int n => some (0, n, p.2)
  | _ => none
def rg2 (f g : EF) : RF := fun env => (f env).bind fun p => (g p.2).bind fun q => (rdB q.2 p.1).bind fun x => (rdB q.2 q.1).bind fun y => match x with
  | .int i => (match y with
    | .int j => some (i, j, q.2)
    | _ => none)
  | _ => none
def rgB (i j : Int) : Bool := decide (-(2 ^ 62) ≤ i) && decide (i < 2 ^ 62) && decide (-(2 ^ 62) ≤ j) && decide (j < 2 ^ 62) && decide ((j - i).toNat ≤ 16777216)
def tRgD (K : PySem.W.Frag) (C : CA) (c : Cs) (f : RF) : St → Hp → (Int → Int → Hp → Prop) → Prop := fun σ H Q => ∃ z F env i j env', SR K C c z F env σ H ∧ f env = some (i, j, env') ∧ ∀ F' H', Same F F' → SR K C c z F' env' σ H' → Q i j H'
def DR (X : Cx) (C : CA) (c : Cs) (e : Expr) (f : RF) : Prop := PRg X e (tRgD X.K C c f)
theorem PRg.imp {e : Expr} {t t' : St → Hp → (Int → Int → Hp → Prop) → Prop} (h : PRg X e t) (i : ∀ σ H Q, t' σ H Q → t σ H Q) : PRg X e t' := fun pins s σ H Q I q => h pins s σ H Q I (i σ H Q q)
def oRgL (f : RF) : OF := fun env => (f env).bind fun r => if rgB r.1 r.2.1 then some (.lst (rngD r.1 (r.2.1 - r.1).toNat), r.2.2) else none
def fRgT (f : RF) : EF := fun env => (f env).bind fun r => if rgB r.1 r.2.1 then some (.val (.tup (rngD r.1 (r.2.1 - r.1).toNat)), r.2.2) else none
/-! ### t * n, t + u of tuples -/
def mulT (x y : D) : Option D := match x with
  | .tup xs => (match y with
    | .int k => if !xs.isEmpty && (decide (2 ≤ k) && (decide (k ≤ 1000) && decide (xs.length ≤ 1000))) then some (.tup (repD xs k.toNat)) else none
    | _ => none)
  | _ => none
def addTT (x y : D) : Option D := match x with
  | .tup xs => (match y with
    | .tup ys => gd (xs.length + ys.length) (some (.tup (xs ++ ys)))
    | _ => none)
  | _ => none
def addDT (x y : D) : Option D := (addD x y).or (addTT x y)
/-! ### a, b = list or tuple -/
def gU (n : Nat) (gs : GFs) : GF := fun d env => match d with
  | .tup ds => if ds.length = n then gs ds env else none
  | .lst ds => if ds.length = n then gs ds env else none
  | _ => none
theorem PG.or {e : Expr} {t t' : TG} (h : PG X e t) (h' : PG X e t') : PG X e (fun v σ H Q => t v σ H Q ∨ t' v σ H Q) := ⟨fun pins s σ H v u Q I r q => q.elim (h.run pins s σ H v u Q I r) (h'.run pins s σ H v u Q I r)⟩
/-! ### f() -/
def fC00 (ff : FF) : EF := fun env => (ff []).bind fun r => some (.val r.1, env)
def oC00 (ff : FF) : OF := fun env => (ff []).bind fun r => some (r.1, env)
/-! ### {k: v for x in xs if t} -/
def dcD (gg : GF) (tt : TF) (fk fv : EF) (own : List Nat) : List D → Env → List (Key × D) → Option (List (Key × D) × Env)
  | [], env, acc => some (acc, env)
  | d :: ds, env, acc => (gg d env).bind fun e1 => (tt e1).bind fun r => if r.1 = true then (fk r.2).bind fun p => (fv p.2).bind fun q => (rdB q.2 p.1).bind fun y => (keyD y).bind fun kk => (match q.1 with
    | .val v => dcD gg tt fk fv own ds (wipeE q.2 own) (putD acc kk v)
    | .slot _ => none) else dcD gg tt fk fv own ds (wipeE r.2 own) acc
def oDc (i : IF) (gg : GF) (tt : TF) (fk fv : EF) (own : List Nat) : OF := fun env => (i env).bind fun p => (dcD gg tt fk fv own p.1 (wipeE p.2 own) []).bind fun r => some (.dic r.1, backE p.2 own r.2)
theorem putD_len (ks : List (Key × D)) (k : Key) (d : D) : (putD ks k d).length ≤ ks.length + 1 := by
  unfold putD
  split
  · rw [List.length_map]; omega
  · rw [List.length_append]; exact Nat.le_refl _
theorem dc_read {tt : TF} {gg : GF} {ts own : List Nat} {fk fv : EF} {fi : IF} {σ : St} {H : Hp} {Q : VK} {z : Zn} {F : Hp} {env env' : Env} {d : D} (ho : ∀ j ∈ own, j ∉ c.O ∧ j < c.n) (hts : ∀ t ∈ ts, t ∈ own) (S : SR X.K C c z F env σ H) (e : oDc fi gg tt fk fv own env = some (d, env'))
    (k : ∀ a F' H', Same F F' → SR X.K C c z F' env' σ H' → F' a = none → z.H0 a = none → Own X.K C F' H' a d → (Apt C c env' σ a) → (∀ e, (a, e) ∉ z.gh) → Q (.ref a) H') :
    tDc (tI X.K C c fi) (tG X.K C c ts gg) (tT X.K C c tt) (tE X.K C c fk) (tE X.K C c fv) own σ H Q := by
  simp only [oDc, Option.bind_eq_some_iff] at e
  obtain ⟨⟨ds, e1⟩, h1, ⟨res, e2⟩, h2, e⟩ := e
  cases e
  refine ⟨z, F, env, ds, e1, S, h1, fun J F1 H1 s1 S1 W D hD => ?_⟩
  obtain ⟨S2, fD, zD, apD, ngD⟩ := S1.newO (o := .dK []) hD
  have S3 := (S2.ghost (d := .dic []) fD zD ⟨[], upd_same, .nil⟩ apD ngD).wipe ho
  refine ⟨fun i n H => n = ds.length - i ∧ i ≤ ds.length ∧ ∃ F4 env4 acc, Same F1 F4 ∧ SR X.K C c { z with gh := (D, .dic acc) :: z.gh } F4 env4 (L2.wipe σ own) H ∧ acc.length ≤ i ∧ dcD gg tt fk fv own (ds.drop i) env4 acc = some (res, e2), ⟨ds.length, by simp, Nat.zero_le _, F1, _, [], Same.refl _, S3, Nat.zero_le _, h2⟩, ?_⟩
  rintro i n H4 ⟨rfl, hi, F4, env4, acc, s4, S4, hacc, e4⟩
  by_cases hlt : i < ds.length
  · refine .inr ⟨W.go i F4 H4 s4 S4.sub hlt, fun H' => ∃ F5 env5 acc5, Same F1 F5 ∧ SR X.K C c { z with gh := (D, .dic acc5) :: z.gh } F5 env5 (L2.wipe σ own) H' ∧ acc5.length ≤ i + 1 ∧ dcD gg tt fk fv own (ds.drop (i + 1)) env5 acc5 = some (res, e2), fun H' ⟨F5, env5, acc5, q1, q2, q3, q4⟩ => ⟨ds.length - (i + 1), by omega, rfl, hlt, F5, env5, acc5, q1, q2, q3, q4⟩, fun x H5 y => ?_⟩
    obtain ⟨F5, dx, ex, hd, r⟩ := W.yld i F4 H4 x H5 s4 S4.sub hlt y
    have ed : ds.drop i = dx :: ds.drop (i + 1) := by
      rw [List.drop_eq_getElem_cons hlt]
      obtain ⟨_, q⟩ := List.getElem?_eq_some_iff.mp hd
      rw [q]
    rw [ed] at e4
    obtain ⟨e5, h5, e4⟩ := Option.bind_eq_some_iff.mp e4
    obtain ⟨⟨k6, e6⟩, h6, e4⟩ := Option.bind_eq_some_iff.mp e4
    refine ⟨_, F5, env4, dx, e5, S4.ext ex, r, h5, fun F6 σ6 H6 s6 S6 w6 => ?_⟩
    have w6' := (w6 own hts).trans (wipe_idem own σ)
    refine ⟨w6', _, F6, e5, k6, e6, S6, h6, fun F7 H7 s7 S7 => ?_⟩
    have s17 : Same F1 F7 := s4.trans (ex.sub.trans (s6.trans s7))
    cases k6 with
    | false =>
      refine iteF ⟨F7, wipeE e6 own, acc, s17, ?_, by omega, e4⟩
      have := S7.wipe ho
      rw [w6'] at this
      exact this
    | true =>
      rw [if_pos rfl] at e4
      obtain ⟨⟨b8, e8⟩, h8, e4⟩ := Option.bind_eq_some_iff.mp e4
      obtain ⟨⟨b9, e9⟩, h9, e4⟩ := Option.bind_eq_some_iff.mp e4
      obtain ⟨yk, hyk, e4⟩ := Option.bind_eq_some_iff.mp e4
      obtain ⟨kk, hkk, e4⟩ := Option.bind_eq_some_iff.mp e4
      refine iteT ⟨_, F7, e6, b8, e8, S7, h8, fun v F8 H8 s8 S8 r8 => ⟨_, F8, e8, b9, e9, S8, h9, fun w F9 H9 s9 S9 r9 => ?_⟩⟩
      cases b9 with
      | slot _ => cases e4
      | val yd =>
        have hv := keyD_v ((r8.mono s9).rb S9 hyk) hkk
        obtain ⟨q1, q2, q3⟩ := S9.gho D (.dic acc) (List.mem_cons_self ..)
        obtain ⟨kvs, q4, q6⟩ := q2
        have hlen : kvs.length < sizeLine := by
          have := W.size
          rw [q6.length]; omega
        refine ⟨kvs, kk, hv, q4, hlen, F9, wipeE e9 own, putD acc kk yd, s17.trans (s8.trans s9), ?_, Nat.le_trans (putD_len acc kk yd) (by omega), e4⟩
        have S10 := (S9.gwrite (d' := .dic (putD acc kk yd)) (o := .dK (putK kvs kk w)) ⟨_, upd_same, q6.put kk r9⟩).wipe ho
        rw [w6'] at S10
        exact S10
  · have q : i = ds.length := by omega
    subst q
    rw [List.drop_length] at e4
    cases e4
    refine .inl ⟨W.stop F4 H4 s4 S4.sub, ?_⟩
    obtain ⟨S5, fa, za, ow, ap, ng⟩ := S4.unghost
    have S6 : SR X.K C c z F4 (backE e1 own e2) σ H4 := S1.back S5 s4 ho
    refine k D F4 H4 (s1.trans s4) S6 fa za ow (S1.aptB ho ap) ng
theorem do_dc {kx vx tg iter : Expr} {ifs : List Expr} {scope : Scope} {fi : IF} {gg : GF} {tt : TF} {fk fv : EF} {ts : List Nat} (own : List (Str × Nat)) (hN : X.N.Nodup) (hi : DI X C c tg iter fi) (ok : BlkOk X.N X.env.scope scope own)
    (hg : ∀ (s : Shared) (H : Hp) (C' : Addr) (cl : List (Str × Addr)) (fp : List Addr), DG (X.blk s H scope (compEnvC scope cl C' X.env) fp) C c tg ts gg) (ht : ∀ (s : Shared) (H : Hp) (C' : Addr) (cl : List (Str × Addr)) (fp : List Addr), DTs (X.blk s H scope (compEnvC scope cl C' X.env) fp) C c ifs tt)
    (hk : ∀ (s : Shared) (H : Hp) (C' : Addr) (cl : List (Str × Addr)) (fp : List Addr), DE (X.blk s H scope (compEnvC scope cl C' X.env) fp) C c kx fk)
    (he : ∀ (s : Shared) (H : Hp) (C' : Addr) (cl : List (Str × Addr)) (fp : List Addr), DE (X.blk s H scope (compEnvC scope cl C' X.env) fp) C c vx fv) (ho : ∀ j ∈ own.map (·.2), j ∉ c.O ∧ j < c.n := by decide) (hts : ∀ t ∈ ts, t ∈ own.map (·.2) := by decide) (hc : X.calm = true := by rfl) (hs : ∀ x, foldedSetIterable iter X.env x = pure x := by intro _; rfl) :
    DO X C c (.DictComp kx vx [⟨tg, iter, ifs, 0⟩] scope pos) (oDc fi gg tt fk fv (own.map (·.2))) := by
  refine PE.imp (pe_dc (wi := tI X.K C c fi) (g := tG X.K C c ts gg) (tt := tT X.K C c tt) (tk := tE X.K C c fk) (tv := tE X.K C c fv) hc hN hi ok (fun s H C' cl fp => hg s H C' cl fp) (fun s H C' cl fp => ht s H C' cl fp) (fun s H C' cl fp => hk s H C' cl fp) (fun s H C' cl fp => he s H C' cl fp) hs) fun σ H Q ⟨z, F, env, d, env', S, e, k⟩ => ?_
  exact dc_read ho hts S e k
end
end DL

namespace DL
open PySem L2
section
variable {X : Cx} {Cc f : Addr} {n : Nat} {fd : FuncData} {ps : List Str} {sp : Sp}
/-- a def of the class, run a little deeper -/
theorem run_in1 {pins : List (Addr × Obj)} {s : Shared} {σ : St} {H : Hp} {vs : List V} {us : List Value} {Q : VK} (F : FnOk X.prog X.w X.K X.mg X.base CX0 n f fd ps sp) (hb : Binds X.K fd ps []) (hr : Room n X.A.in1) (I : Inv X pins σ H s) (r : Vals vs us) (hsp : sp vs H Q E0) :
    wpAny (model X.prog X.w) X.A.in1 (call (.ref f) us) (EP X pins σ Q) X.xe s := by
  have e0 : Env0 X.prog X.w X.K X.mg X.base X.A.in1 X.stack s H := by
    have e := I.env0
    exact ⟨e.frames, e.mod, e.bs, e.bsz, e.funs, e.frf, e.hok, e.bare⟩
  have hl := F.len _ _ _ _ hsp
  refine wpAny_call (codeAny_mono (F.run X.A.in1 X.stack s H ⟨us, []⟩ us vs _ E0 hr e0 (by
    have := hb s us I.kIn (by rw [List.append_nil, ← r.length]; exact hl)
    simpa using this) r hsp) fun r s' hq => ?_)
  cases r with
  | error e => exact pass0 pins σ H s e s' I hq
  | ok fl =>
    cases fl with
    | ret w => exact I.after hq
    | next => exact False.elim hq
    | brk => exact False.elim hq
    | cont => exact False.elim hq
/-- len(o) through the class's own __len__ -/
theorem call_lenO (F : FnOk X.prog X.w X.K X.mg X.base CX0 n f fd ps sp) (hm : Meth X.K Cc "__len__" f) (hb : Binds X.K fd ps []) (hr : Room (n + 1) X.A) :
    CallR X (.builtin "len") (fun xs H Q => ∃ a dx fs, xs = [V.ref a] ∧ H a = some (.ins Cc dx fs) ∧ sp [V.ref a] H (fun v H' => ∃ k : Int, v = .int k ∧ 0 ≤ k ∧ k < 2 ^ 63 ∧ Q (.int k) H') E0) := by
  intro pins s σ H xs us Q I r h
  obtain ⟨a, dx, fs, rfl, ha, hsp⟩ := h
  obtain ⟨u, rfl, ru⟩ := vals1 r
  cases ru
  obtain ⟨mA, J, _⟩ := ins_get I.hok ha
  obtain ⟨od, J, _⟩ := J.look
  obtain ⟨m, hF⟩ := I.fr
  refine PySem.W.len_K hF I.ok.mod.kin J hm.at_ hm.fn (wpAny_mono (run_in1 F hb hr.in1 I (vs := [V.ref a]) (.cons rfl .nil) hsp) (fun v s' hq => ?_) fun _ _ z => z)
  obtain ⟨v', H', I', rv, k, rfl, h0, h1, q⟩ := hq
  obtain ⟨t, rfl⟩ := rv
  exact ⟨⟨h0, h1⟩, .int k, H', I'.tok _, ⟨_, rfl⟩, q⟩
end
section
variable {X : Cx} {C : CA} {c : Cs} {e o : Expr} {f : EF} {pos p : Pos} {k np : Nat} {fad : Addr} {fd : FuncData} {ps : List Str} {ff : FF}
/-- len(o), o an object that is data -/
def fLenO (kk : Nat) (ff : FF) (f : EF) : EF := fun env => (f env).bind fun p => match p.1 with
  | .val d => (match d with
    | .obj k fs => if k = kk then (ff [.obj k fs]).bind fun r => (match r.1 with
      | .int n => if decide (0 ≤ n) && decide (n < 2 ^ 63) then some (.val (.int n), p.2) else none
      | _ => none) else none
    | _ => none)
  | .slot _ => none
theorem de_lenO (kk : Nat) (he : DE X C c e f) (hmt : Meth X.K (C kk) "__len__" fad) (Fk : FnOk X.prog X.w X.K X.mg X.base CX0 k fad fd ps (spF X.K C [] false 1 ff)) (hr : Room (k + 1) X.A) (hb : Binds X.K fd ps []) (hm : X.mg "len" = none) (hv : bootBuiltins "len" = some (.builtin "len")) (hg : Gl X "len" := by rfl)
    (hs : starEach (e :: []) X.env = (false, eval e X.env) :: starEach [] X.env := by rfl) : DE X C c (.Call (.Name "len" p) [e] [] pos) (fLenO kk ff f) := by
  refine PE.imp (pe_callB (call_lenO Fk hmt hb hr) hg hm hv (pa_cons he pa_nil hs) (by decide) (by decide) hs rfl) fun σ H Q ⟨z, F, env, b, env', S, e, kq⟩ => ?_
  simp only [fLenO, Option.bind_eq_some_iff] at e
  obtain ⟨⟨b1, e1⟩, h1, e⟩ := e
  cases b1 with
  | slot _ => cases e
  | val d =>
    cases d <;> simp only at e <;> try (cases e; done)
    split at e
    case isFalse => cases e
    next hk =>
    subst hk
    obtain ⟨⟨r, os⟩, h3, e⟩ := Option.bind_eq_some_iff.mp e
    cases r <;> simp only at e <;> try (cases e; done)
    split at e
    case isFalse => cases e
    next hb2 =>
    simp only [Bool.and_eq_true, decide_eq_true_eq] at hb2
    cases e
    refine ⟨z, F, env, _, _, S, h1, fun v F1 H1 s1 S1 r1 => ?_⟩
    have r1' := r1
    cases r1 with
    | obj w1 w2 =>
      refine ⟨_, _, _, rfl, S1.sub _ _ w1, ?_⟩
      exact call0_read (m := false) (dv := []) (dd := []) S1.sub (.cons r1' .nil) .nil rfl (by simpa using h3) fun v F' H' ex rv => by
        have rv' : Rp X.K C F' v (.int _) := rv
        cases rv'
        exact ⟨_, rfl, hb2.1, hb2.2, kq _ F' H' (s1.trans ex.sub) (S1.ext ex) (.int _)⟩
end
end DL

namespace L2
open PySem PySem.Spec PyProof.Rows HT
section
variable {prog : Program} {w : World} {A : Around} {E : Value → Shared → Prop} {s : Shared}
end
section
variable {X : Cx}
/-- t[::k], k = -1 -/
def tRevT (K : PySem.W.Frag) (te : TE) (ts : TO) : TE := fun σ H Q => te σ H fun x H1 => ts σ H1 fun o H2 => o = some (-1) ∧ ∃ a xs, x = .ref a ∧ SqT K H2 a xs ∧ ∀ p, H2 p = none → Q (.ref p) (upd H2 p (.tup xs.reverse))
end
end L2

namespace DL
open PySem L2
section
variable {X : Cx} {C : CA} {c : Cs} {e e2 : Expr} {f g : EF} {pos p3 : Pos}
/-- t[::k] of a tuple, k = -1 -/
def fRev (f : EF) (g : PF) : EF := fun env => (f env).bind fun p => (g p.2).bind fun q => match q.1 with
  | some i => if i = -1 then (rdB q.2 p.1).bind fun d => (match d with
    | .tup xs => some (.val (.tup xs.reverse), q.2)
    | _ => none) else none
  | none => none
end
end DL

namespace DL
open PySem L2
section
variable {m : Bool} {X : Cx} {C : CA} {c : Cs} {a b e : Expr} {fa : AF} {pos : Pos}
/-- x, y, z = a, b, e of data -/
def sPar3 (i j l : Nat) (fa : AF) : SF := fun env => (fa env).bind fun p => (vals p.1).bind fun ds => match ds with
  | [d1, d2, d3] => some (.nx (st (st (st p.2 i (some d1)) j (some d2)) l (some d3)))
  | _ => none
end
section
variable {X : Cx} {C : CA}
/-- b is True -/
def isBD (x y : D) : Option D := match x with
  | .bl a => (match y with
    | .bl b => some (.bl (decide (a = b)))
    | _ => none)
  | _ => none
def isNotBD (x y : D) : Option D := match x with
  | .bl a => (match y with
    | .bl b => some (.bl (!decide (a = b)))
    | _ => none)
  | _ => none
end
end DL

/-! zip of a list and a tuple, either way: one turn of zip for any two iterators that keep their promises. -/
namespace ZM
open PySem PyProof.Rows L2 RZ
open PySem.Sem (wp)
/-- what P says rests upon the objects i and l alone -/
def On (i l : Addr) (P : Heap → Prop) : Prop := ∀ h h' : Heap, P h → (∀ o, h.get? i = some o → h'.get? i = some o) → (∀ o, h.get? l = some o → h'.get? l = some o) → P h'
/-- the iterator i over l stands as P says; its next turn gives u and it stands as P' says -/
structure Gives (i l : Addr) (P P' : Heap → Prop) (u : Value) : Prop where
  run : ∀ {prog : Program} {w : World} {A : Around} {E : Value → Shared → Prop} {s : Shared} {Q : Value → Shared → Prop}, P s.heap → (∀ h', P' h' → Heap.SameBut i s.heap h' → Q u { s with heap := h' }) → wpAny (model prog w) A (Builtin.SmallTypes.nextOf (.ref i)) Q E s
  old : On i l P
  new : On i l P'
/-- the iterator i over l stands as P says, and is at its end -/
structure Over (i l : Addr) (P : Heap → Prop) : Prop where
  run : ∀ {prog : Program} {w : World} {A : Around} {E : Value → Shared → Prop} {s : Shared} {Q : Value → Shared → Prop}, A.handled = none → P s.heap → (∀ h' e, Heap.ExtBut i s.heap h' → (∃ o, h'.get? e = some o ∧ o.cls = .type "StopIteration") → E (.ref e) { s with heap := h' }) → wpAny (model prog w) A (Builtin.SmallTypes.nextOf (.ref i)) Q E s
  old : On i l P
/-- an iterator over a tuple (true) or a list (false) -/
def St : Bool → Addr → Addr → Array Value → Nat → Heap → Prop
  | true, i, l, xs, k => fun h => h.IsTupleIter i l k ∧ h.IsTuple l xs
  | false, i, l, xs, k => fun h => h.IsListIter i l k ∧ h.IsList l xs
theorem St.on : ∀ (b : Bool) {i l : Addr} {xs : Array Value} {k : Nat}, On i l (St b i l xs k)
  | true, _, _, _, _ => fun _ _ p a b => ⟨p.1.at a, let ⟨o, e, r⟩ := p.2; ⟨o, b _ e, r⟩⟩
  | false, _, _, _, _ => fun _ _ p a b => ⟨p.1.at a, let ⟨o, e, r⟩ := p.2; ⟨o, b _ e, r⟩⟩
theorem St.gives : ∀ (b : Bool) {i l : Addr} {xs : Array Value} {k : Nat} {u : Value}, i ≠ l → xs[k]? = some u → Gives i l (St b i l xs k) (St b i l xs (k + 1)) u
  | true, _, _, _, _, _ => fun n hx => ⟨fun p q => nextOf_tuple_item p.1 p.2 hx fun h' a sb => q h' ⟨a, let ⟨o, e, r⟩ := p.2; ⟨o, (sb.2 _ n.symm).trans e, r⟩⟩ sb, St.on true, St.on true⟩
  | false, _, _, _, _, _ => fun n hx => ⟨fun p q => wpAny_nextOf_list_item p.1 p.2 hx fun h' a sb => q h' ⟨a, let ⟨o, e, r⟩ := p.2; ⟨o, (sb.2 _ n.symm).trans e, r⟩⟩ sb, St.on false, St.on false⟩
theorem St.over : ∀ (b : Bool) {i l : Addr} {xs : Array Value} {k : Nat}, xs[k]? = none → Over i l (St b i l xs k)
  | true, _, _, _, _ => fun hx => ⟨fun hh p q => nextOf_tuple_end hh p.1 p.2 hx q, St.on true⟩
  | false, _, _, _, _ => fun hx => ⟨fun hh p q => wpAny_nextOf_list_end hh p.1 p.2 hx q, St.on false⟩
/-- the objects other than z's own are as they were -/
theorem On.keep {i l c : Addr} {P : Heap → Prop} (on : On i l P) (hi : i ≠ c) (hl : l ≠ c) {h h' : Heap} (sb : Heap.SameBut c h h') (p : P h) : P h' :=
  on h h' p (fun _ e => (sb.2 _ hi).trans e) fun _ e => (sb.2 _ hl).trans e
section
variable {prog : Program} {w : World} {A : Around} {E : Value → Shared → Prop} {s : Shared} {z TI TO i1 i2 l1 l2 : Addr} {P1 P1' P2 P2' : Heap → Prop} {x y a b : Value}
theorem gives {Q : Value → Shared → Prop} (D : ZipApart z TI TO i1 i2 l1 l2) (hz : IsZip s.heap z TI TO .none) (hTI : IsPair s.heap TI (.ref i1) (.ref i2)) (hTO : IsPair s.heap TO a b)
    (g1 : Gives i1 l1 P1 P1' x) (g2 : Gives i2 l2 P2 P2' y) (p1 : P1 s.heap) (p2 : P2 s.heap)
    (hQ : ∀ h', IsZip h' z TI TO (rawInt s.heap.objs.size) → IsPair h' TO x y → P1' h' → P2' h' → IsPair h' s.heap.objs.size x y → h'.objs.size = s.heap.objs.size + 1 →
      (∀ c o, c ≠ z → c ≠ TO → c ≠ i1 → c ≠ i2 → s.heap.get? c = some o → h'.get? c = some o) → Q (.ref s.heap.objs.size) { s with heap := h' }) :
    wpAny (model prog w) A (Builtin.«zip.__next__» ⟨[.ref z], []⟩) (fun fin s' => ∃ v, fin = .done (.ret v) ∧ Q v s') E s := by
  show wpAny _ _ (field (.ref _) 2 >>= _) _ _ _
  refine wpAny_bind (wpAny_field hz rfl (x := .bool false) rfl ?_)
  show wpAny _ _ (field (.ref _) 3 >>= _) _ _ _
  refine wpAny_bind (wpAny_field hz rfl (x := .ref _) rfl (wpAny_bind (wpAny_seqItems hTI rfl ?_)))
  show wpAny _ _ (Builtin.SmallTypes.ownedTupleIsFree (.ref _) >>= _) _ _ _
  unfold Builtin.SmallTypes.ownedTupleIsFree
  refine wpAny_bind (wpAny_bind (wpAny_field hz rfl (x := .none) rfl (wpAny_pure ?_)))
  simp only [if_true]
  refine wpAny_bind (wpAny_rule (wpAny_bind (wpAny_field hz rfl (x := .ref _) rfl (wpAny_bind (wpAny_setField_rec hz (by simp) fun h1 z1 k1 => ?_)))))
  refine wpAny_bind ?_
  simp only [List.zipIdx_cons, List.zipIdx_nil, List.forIn_cons, List.forIn_nil]
  refine wpAny_bind (wpAny_bind (wpAny_onRaise ?_))
  show wpAny _ _ (Builtin.SmallTypes.nextOf (.ref _) >>= _) _ _ _
  have z1 : IsZip h1 z TI TO .ellipsis := z1
  -- the first thing
  refine wpAny_bind (g1.run (g1.old.keep D.i1z D.l1z k1 p1) fun h2 p1a k2 => wpAny_pure ?_)
  have t2 : IsPair h2 TO a b := (k2.2 _ D.TOi1).trans ((k1.2 _ D.TOz).trans hTO)
  refine wpAny_bind (wpAny_seqItems t2 rfl (wpAny_bind (wpAny_updateSeq_pair t2 fun h3 t3 k3 => wpAny_bind (wpAny_letGo (wpAny_pure ?_)))))
  have t3 : IsPair h3 TO x b := t3
  -- the second thing
  refine wpAny_bind (wpAny_bind (wpAny_onRaise ?_))
  show wpAny _ _ (Builtin.SmallTypes.nextOf (.ref i2) >>= _) _ _ _
  have p2c : P2 h3 := g2.old.keep D.TOi2.symm D.l2TO k3 (g2.old.keep D.i12.symm D.l2i1 k2 (g2.old.keep D.i2z D.l2z k1 p2))
  refine wpAny_bind (g2.run p2c fun h4 p2d k4 => wpAny_pure ?_)
  have t4 : IsPair h4 TO x b := (k4.2 _ D.TOi2).trans t3
  refine wpAny_bind (wpAny_seqItems t4 rfl (wpAny_bind (wpAny_updateSeq_pair t4 fun h5 t5 k5 => wpAny_bind (wpAny_letGo (wpAny_pure (wpAny_pure ?_))))))
  have t5 : IsPair h5 TO x y := t5
  -- the pair that is handed out
  have p1e : P1' h5 := g1.new.keep D.TOi1.symm D.l1TO k5 (g1.new.keep D.i12 D.l1i2 k4 (g1.new.keep D.TOi1.symm D.l1TO k3 p1a))
  have p2e : P2' h5 := g2.new.keep D.TOi2.symm D.l2TO k5 p2d
  have n5 : h5.objs.size = s.heap.objs.size := k5.1.trans (k4.1.trans (k3.1.trans (k2.1.trans k1.1)))
  have z5 : IsZip h5 z TI TO .ellipsis := (k5.2 _ D.TOz.symm).trans ((k4.2 _ D.i2z.symm).trans ((k3.2 _ D.TOz.symm).trans ((k2.2 _ D.i1z.symm).trans z1)))
  have all5 : ∀ c o, c ≠ z → c ≠ TO → c ≠ i1 → c ≠ i2 → s.heap.get? c = some o → h5.get? c = some o := fun c o c1 c2 c3 c4 e =>
    (k5.2 _ c2).trans ((k4.2 _ c4).trans ((k3.2 _ c2).trans ((k2.2 _ c3).trans ((k1.2 _ c1).trans e))))
  refine wpAny_bind (wpAny_seqItems t5 rfl (wpAny_bind (wpAny_newTuple ?_)))
  show wpAny _ _ (Builtin.SmallTypes.ownedTupleHandOut (.ref z) (.ref h5.objs.size) >>= _) _ _ _
  unfold Builtin.SmallTypes.ownedTupleHandOut
  have zl : z < h5.objs.size := Heap.lt_size z5
  refine wpAny_bind (wpAny_bind (wpAny_setField_rec (Heap.get?_push_of_some _ z5) (by simp) fun h7 z7 k7 => wpAny_setField_rec z7 (by simp) fun h8 z8 k8 => ?_))
  have up : ∀ c o, c ≠ z → h5.get? c = some o → h8.get? c = some o := fun c o c1 e => (k8.2 _ c1).trans ((k7.2 _ c1).trans (Heap.get?_push_of_some _ e))
  have new : IsPair h8 h5.objs.size x y := (k8.2 _ (Nat.ne_of_gt zl)).trans ((k7.2 _ (Nat.ne_of_gt zl)).trans (Heap.get?_push_size _ rfl))
  have n8 : h8.objs.size = h5.objs.size + 1 := by rw [k8.1, k7.1, Heap.size_push]
  have z8 : IsZip h8 z TI TO (rawInt h5.objs.size) := z8
  refine wpAny_pure ⟨_, rfl, ?_⟩
  have q := hQ h8
  rw [← n5] at q
  exact q z8 (up _ _ D.TOz t5) (g1.new _ _ p1e (fun o e => up _ o D.i1z e) fun o e => up _ o D.l1z e) (g2.new _ _ p2e (fun o e => up _ o D.i2z e) fun o e => up _ o D.l2z e) new n8 fun c o c1 c2 c3 c4 e => up c o c1 (all5 c o c1 c2 c3 c4 e)
/-- one of both is at its end -/
theorem over {Q : Fin → Shared → Prop} (hh : A.handled = none) (D : ZipApart z TI TO i1 i2 l1 l2) (hz : IsZip s.heap z TI TO .none) (hTI : IsPair s.heap TI (.ref i1) (.ref i2)) (hTO : IsPair s.heap TO a b) (p1 : P1 s.heap) (p2 : P2 s.heap)
    (g : Over i1 l1 P1 ∨ Gives i1 l1 P1 P1' x ∧ Over i2 l2 P2)
    (hE : ∀ h' e, (∀ c o, c ≠ z → c ≠ TO → c ≠ i1 → c ≠ i2 → s.heap.get? c = some o → h'.get? c = some o) → (∃ o, h'.get? e = some o ∧ o.cls = .type "StopIteration") → E (.ref e) { s with heap := h' }) :
    wpAny (model prog w) A (Builtin.«zip.__next__» ⟨[.ref z], []⟩) Q E s := by
  show wpAny _ _ (field (.ref _) 2 >>= _) _ _ _
  refine wpAny_bind (wpAny_field hz rfl (x := .bool false) rfl ?_)
  show wpAny _ _ (field (.ref _) 3 >>= _) _ _ _
  refine wpAny_bind (wpAny_field hz rfl (x := .ref _) rfl (wpAny_bind (wpAny_seqItems hTI rfl ?_)))
  show wpAny _ _ (Builtin.SmallTypes.ownedTupleIsFree (.ref _) >>= _) _ _ _
  unfold Builtin.SmallTypes.ownedTupleIsFree
  refine wpAny_bind (wpAny_bind (wpAny_field hz rfl (x := .none) rfl (wpAny_pure ?_)))
  simp only [if_true]
  refine wpAny_bind (wpAny_rule (wpAny_bind (wpAny_field hz rfl (x := .ref _) rfl (wpAny_bind (wpAny_setField_rec hz (by simp) fun h1 z1 k1 => ?_)))))
  refine wpAny_bind ?_
  simp only [List.zipIdx_cons, List.zipIdx_nil, List.forIn_cons, List.forIn_nil]
  refine wpAny_bind (wpAny_bind (wpAny_onRaise ?_))
  show wpAny _ _ (Builtin.SmallTypes.nextOf (.ref _) >>= _) _ _ _
  have z1 : IsZip h1 z TI TO .ellipsis := z1
  have notz : ∀ (h : Heap) (e : Addr), IsZip h z TI TO .ellipsis → (∃ o, h.get? e = some o ∧ o.cls = .type "StopIteration") → e ≠ z := fun h e q ⟨o, ho, hc⟩ n => by
    subst n; rw [q] at ho; cases ho; simp at hc
  rcases g with g1 | ⟨g1, g2⟩
  · refine wpAny_bind (g1.run hh (g1.old.keep D.i1z D.l1z k1 p1) fun h2 e k2 st => ?_)
    have z2 : IsZip h2 z TI TO .ellipsis := k2 _ _ D.i1z.symm z1
    have ne := notz h2 e z2 st
    obtain ⟨o, ho, hc⟩ := st
    exact wpAny_setField_rec z2 (by simp) fun h3 _ k3 => hE h3 e (fun c o c1 _ c3 _ q => (k3.2 _ c1).trans (k2 _ _ c3 ((k1.2 _ c1).trans q))) ⟨o, (k3.2 _ ne).trans ho, hc⟩
  · refine wpAny_bind (g1.run (g1.old.keep D.i1z D.l1z k1 p1) fun h2 p1a k2 => wpAny_pure ?_)
    have t2 : IsPair h2 TO a b := (k2.2 _ D.TOi1).trans ((k1.2 _ D.TOz).trans hTO)
    refine wpAny_bind (wpAny_seqItems t2 rfl (wpAny_bind (wpAny_updateSeq_pair t2 fun h3 t3 k3 => wpAny_bind (wpAny_letGo (wpAny_pure ?_)))))
    refine wpAny_bind (wpAny_bind (wpAny_onRaise ?_))
    show wpAny _ _ (Builtin.SmallTypes.nextOf (.ref i2) >>= _) _ _ _
    have p2c : P2 h3 := g2.old.keep D.TOi2.symm D.l2TO k3 (g2.old.keep D.i12.symm D.l2i1 k2 (g2.old.keep D.i2z D.l2z k1 p2))
    refine wpAny_bind (g2.run hh p2c fun h4 e k4 st => ?_)
    have z4 : IsZip h4 z TI TO .ellipsis := k4 _ _ D.i2z.symm ((k3.2 _ D.TOz.symm).trans ((k2.2 _ D.i1z.symm).trans z1))
    have ne := notz h4 e z4 st
    obtain ⟨o, ho, hc⟩ := st
    exact wpAny_setField_rec z4 (by simp) fun h5 _ k5 => hE h5 e (fun c o c1 c2 c3 c4 q => (k5.2 _ c1).trans (k4 _ _ c4 ((k3.2 _ c2).trans ((k2.2 _ c3).trans ((k1.2 _ c1).trans q))))) ⟨o, (k5.2 _ ne).trans ho, hc⟩
end
section
variable {prog : Program} {w : World} {A : Around} {E : Value → Shared → Prop} {s : Shared} {z TI TO i1 i2 l1 l2 : Addr} {P1 P1' P2 P2' : Heap → Prop} {x y a b : Value}
end
/-! ### zip(a, b) is made -/
def kn : Bool → String | true => "tuple_iterator" | false => "list_iterator"
def Sq : Bool → Heap → Addr → Array Value → Prop | true => Heap.IsTuple | false => Heap.IsList
abbrev m1 (b1 : Bool) (h : Heap) (l1 : Addr) : Heap := h.push { cls := .type (kn b1), data := .fields #[.ref l1, .int 0 0] }
abbrev m2 (b1 b2 : Bool) (h : Heap) (l1 l2 : Addr) : Heap := (m1 b1 h l1).push { cls := .type (kn b2), data := .fields #[.ref l2, .int 0 0] }
abbrev m3 (b1 b2 : Bool) (h : Heap) (l1 l2 : Addr) : Heap := (m2 b1 b2 h l1 l2).push { cls := .type "tuple", data := .seq #[.ref h.objs.size, .ref (m1 b1 h l1).objs.size] }
abbrev m4 (b1 b2 : Bool) (h : Heap) (l1 l2 : Addr) : Heap := (m3 b1 b2 h l1 l2).push { cls := .type "tuple", data := .seq #[.none, .none] }
abbrev m5 (b1 b2 : Bool) (h : Heap) (l1 l2 : Addr) : Heap := (m4 b1 b2 h l1 l2).push { cls := .type "zip", data := .fields #[.none, .bool false, .bool false, .ref (m2 b1 b2 h l1 l2).objs.size, .ref (m3 b1 b2 h l1 l2).objs.size] }
theorem made (b b2 : Bool) (l1 l2 : Addr) (xs ys : Array Value) : Meets (Builtin.«zip.__new__» ⟨[.type "zip", .ref l1, .ref l2], []⟩) (fun _ R s => Sq b s.heap l1 xs ∧ Sq b2 s.heap l2 ys ∧
    R (.ok (.ret (.ref (m4 b b2 s.heap l1 l2).objs.size))) { s with heap := m5 b b2 s.heap l1 l2 }) :=
  match b, b2 with
  | true, true => meets_zipT_new l1 l2 xs ys
  | false, false => meets_zip_new l1 l2 xs ys
  | true, false => .of_wp fun prog w A R s h => by
    obtain ⟨hp, g, d, tk, os⟩ := s
    obtain ⟨q1, q2, h⟩ := h
    have sub := sub_zip
    have a1 : Heap.IsTuple (Shared.heap ⟨hp, g, d, tk, os⟩) l1 xs := q1
    have a2 : Heap.IsList (Shared.heap ⟨hp.push { cls := .type "tuple_iterator", data := .fields #[.ref l1, .int 0 0] }, g, d, tk, os⟩) l2 ys := Heap.IsList.push q2 _
    wp_walk using wpAny_pyIter_tuple a1, wpAny_pyIter_list a2
    exact ⟨_, rfl, h⟩
  | false, true => .of_wp fun prog w A R s h => by
    obtain ⟨hp, g, d, tk, os⟩ := s
    obtain ⟨q1, q2, h⟩ := h
    have sub := sub_zip
    have a1 : Heap.IsList (Shared.heap ⟨hp, g, d, tk, os⟩) l1 xs := q1
    have a2 : Heap.IsTuple (Shared.heap ⟨hp.push { cls := .type "list_iterator", data := .fields #[.ref l1, .int 0 0] }, g, d, tk, os⟩) l2 ys := Heap.IsTuple.push q2 _
    wp_walk using wpAny_pyIter_list a1, wpAny_pyIter_tuple a2
    exact ⟨_, rfl, h⟩
/-- an iterator, and what it goes over -/
def Itr : Bool → Addr → Addr → Nat → Heap → Prop | true => fun i l k h => h.IsTupleIter i l k | false => fun i l k h => h.IsListIter i l k
theorem St.mk : ∀ {b : Bool} {i l : Addr} {xs : Array Value} {k : Nat} {h : Heap}, Itr b i l k h → Sq b h l xs → St b i l xs k h | true, _, _, _, _, _, p, q => ⟨p, q⟩ | false, _, _, _, _, _, p, q => ⟨p, q⟩
theorem Itr.at : ∀ {b : Bool} {i l : Addr} {k : Nat} {h h' : Heap}, Itr b i l k h → (∀ o, h.get? i = some o → h'.get? i = some o) → Itr b i l k h'
  | true, _, _, _, _, _, p, e => Heap.IsTupleIter.at p e
  | false, _, _, _, _, _, p, e => Heap.IsListIter.at p e
theorem Itr.obj : ∀ {b : Bool} {i l : Addr} {k : Nat} {h : Heap}, Itr b i l k h → ∃ o, h.get? i = some o ∧ ∀ v, o.data ≠ .cell v
  | true, _, _, _, _, ⟨o, e, _, d⟩ => ⟨o, e, fun v q => by rw [d] at q; cases q⟩
  | false, _, _, _, _, ⟨o, e, _, d⟩ => ⟨o, e, fun v q => by rw [d] at q; cases q⟩
section
variable {prog : Program} {w : World} {A : Around} {E : Value → Shared → Prop} {s : Shared}
end
/-! ### a turn, for the walk -/
def SqB : Bool → PySem.W.Frag → Hp → Addr → List V → Prop | true => SqT | false => SqL
theorem SqB.inj {X : Cx} {pins : List (Addr × Obj)} {σ : L2.St} {H : Hp} {s : Shared} (I : Inv X pins σ H s) : ∀ {b : Bool} {a : Addr} {xs ys : List V}, SqB b X.K H a xs → SqB b X.K H a ys → xs = ys
  | true, _, _, _, p, q => I.tuple_inj p q
  | false, _, _, _, p, q => I.list_inj p q
theorem SqB.get {X : Cx} {pins : List (Addr × Obj)} {σ : L2.St} {H : Hp} {s : Shared} (I : Inv X pins σ H s) : ∀ {b : Bool} {a : Addr} {xs : List V}, SqB b X.K H a xs → ∃ its : List Value, Vals xs its ∧ Sq b s.heap a its.toArray
  | true, _, _, p => let ⟨its, r, t, _⟩ := I.tuple p; ⟨its, r, t⟩
  | false, _, _, p => let ⟨its, r, t, _⟩ := I.list p; ⟨its, r, t.isList⟩
/-- what zip of the one at a and the other at c gives: the items in new pairs -/
def Itm (b b2 : Bool) (K : PySem.W.Frag) (a c : Addr) : L2.It where
  go i H := ∃ (xs ys : List V) (x y : V), SqB b K H a xs ∧ SqB b2 K H c ys ∧ xs[i]? = some x ∧ ys[i]? = some y
  yld i H v H' := ∃ T x y, v = .ref T ∧ H T = none ∧ H' = upd H T (.tup [x, y]) ∧ (∀ xs, SqB b K H a xs → xs[i]? = some x) ∧ ∀ ys, SqB b2 K H c ys → ys[i]? = some y
  stop i H := ∃ xs ys : List V, SqB b K H a xs ∧ SqB b2 K H c ys ∧ (xs.length ≤ i ∨ ys.length ≤ i)
def Tz (b b2 : Bool) (a c z TI TO i1 i2 : Addr) (i : Nat) (h : Heap) : Prop := IsZip h z TI TO .none ∧ IsPair h TI (.ref i1) (.ref i2) ∧ (∃ x y, IsPair h TO x y) ∧ Itr b i1 a i h ∧ Itr b2 i2 c i h
def iZipM (K : PySem.W.Frag) (ta : TA) : TI := fun σ H R => ta σ H fun vs H1 => ∃ (b b2 : Bool) (a c : Addr) (xs ys : List V), vs = [.ref a, .ref c] ∧ SqB b K H1 a xs ∧ SqB b2 K H1 c ys ∧ R (Itm b b2 K a c) H1
end ZM

namespace DL
open PySem L2
section
variable {m : Bool} {X : Cx} {C : CA} {c : Cs} {e a b b2 : Expr} {es : List Expr} {fa : AF} {f g h : EF} {pos p : Pos} {x : Str}
/-! ### {} -/
def oDi0 : OF := fun env => some (.dic [], env)
/-! ### a < b < c -/
def fCh (o o' : D → D → Option D) (f g h : EF) : EF := fun env => (f env).bind fun p => (g p.2).bind fun q => (rdB q.2 p.1).bind fun x => (rdB q.2 q.1).bind fun y => (o x y).bind fun d => (isB d).bind fun k => if k = true then (h q.2).bind fun r => (rdB r.2 q.1).bind fun y' => (rdB r.2 r.1).bind fun w => (o' y' w).bind fun d' => some (.val d', r.2) else some (.val (.bl false), q.2)
theorem isB_some {d : D} {k : Bool} (h : isB d = some k) : d = .bl k := by
  cases d <;> cases h
  rfl
theorem rp_bl {K : PySem.W.Frag} {F : Hp} {v : V} {k : Bool} (h : Rp K C F v (.bl k)) : v = .bl k := by cases h; rfl
theorem de_chain {op op' : CmpOp} {o o' : D → D → Option D} (ho : OpD X C (compareOp op) o) (ho' : OpD X C (compareOp op') o') (ha : DE X C c a f) (hb : DE X C c b g) (hc : DE X C c b2 h) (hm : lastMarks [op, op'] [b, b2] = false := by with_unfolding_all rfl) :
    DE X C c (.Compare a [op, op'] [b, b2] pos) (fCh o o' f g h) := by
  obtain ⟨r, hr, hw⟩ := ho
  obtain ⟨r', hr', hw'⟩ := ho'
  refine PE.imp (pe_chain hr hr' ha hb hc hm) fun σ H Q ⟨z, F, env, b, env', S, e, k⟩ => ?_
  simp only [fCh, Option.bind_eq_some_iff] at e
  obtain ⟨⟨b1, e1⟩, h1, ⟨b2, e2⟩, h2, x, hx, y, hy, d, hd, kk, hk, e⟩ := e
  have dk := isB_some hk
  subst dk
  refine ⟨z, F, env, b1, e1, S, h1, fun v F1 H1 s1 S1 r1 => ⟨z, F1, e1, b2, e2, S1, h2, fun w F2 H2 s2 S2 r2 => 
    hw F2 H2 v w x y _ _ S2.sub ((r1.mono s2).rb S2 hx) (r2.rb S2 hy) hd fun u F3 H3 ex ru => ⟨kk, rp_bl ru, ?_⟩⟩⟩
  have S3 := S2.ext ex
  cases kk with
  | false =>
    simp only [Bool.false_eq_true, if_false] at e ⊢
    cases e
    exact k _ F3 H3 (s1.trans (s2.trans ex.sub)) S3 (.bl false)
  | true =>
    simp only [if_true, Option.bind_eq_some_iff] at e ⊢
    obtain ⟨⟨b3, e3⟩, h3, y', hy', w', hw3, d', hd', e⟩ := e
    cases e
    exact ⟨z, F3, e2, b3, e3, S3, h3, fun w2 F4 H4 s4 S4 r4 => hw' F4 H4 w w2 y' w' d' Q S4.sub (((r2.mono ex.sub).mono s4).rb S4 hy') (r4.rb S4 hw3) hd' fun u F5 H5 ex5 ru5 => k u F5 H5 (s1.trans (s2.trans (ex.sub.trans (s4.trans ex5.sub)))) (S4.ext ex5) ru5⟩
/-! ### zip -/
def zipL : List D → List D → List D
  | x :: xs, y :: ys => .tup [x, y] :: zipL xs ys
  | _, _ => []
/-- a list or a tuple -/
def itemsD : D → Option (List D)
  | .lst xs => some xs
  | .tup xs => some xs
  | _ => none
def zipD : List D → Option (List D)
  | [x, y] => (itemsD x).bind fun xs => (itemsD y).bind fun ys => some (zipL xs ys)
  | _ => none
def iZ (fa : AF) : IF := fun env => (fa env).bind fun p => (vals p.1).bind fun ds => (zipD ds).bind fun xs => some (xs, p.2)
/-! ### for v in d.values() -/
def iVs (f : EF) : IF := fun env => (f env).bind fun p => match p.1 with
  | .val (.dic ks) => gd ks.length (some (ks.map (·.2), p.2))
  | _ => none
/-! ### d.get(k, x) -/
def fGet (fd fk fx : EF) : EF := fun env => (fd env).bind fun p => (rdB p.2 p.1).bind fun d0 => (fk p.2).bind fun q => (fx q.2).bind fun r => (rdB r.2 p.1).bind fun d => (rdB r.2 q.1).bind fun kd => (keyD kd).bind fun k => match d0 with
  | .dic _ => (match d with
    | .dic ks => (match lookD ks k with
      | some v => some (.val v, r.2)
      | none => (match r.1 with
        | .val v => some (.val v, r.2)
        | .slot _ => none))
    | _ => none)
  | _ => none
end
end DL

namespace L2
open PySem PySem.Spec PyProof.Rows PySem.W
section
variable {prog : Program} {w : World} {A : Around} {E : Value → Shared → Prop} {s : Shared} {r d : Addr} {n : Nat} {P : Nat → Value → Prop} {OK : Heap → Prop}
/-- tuple(d), d a dict: a new tuple of its keys -/
theorem tuple_of_dict {Q : Value → Shared → Prop} (S : KdlSrc prog w "dict" r d n P OK) (hh : A.handled = none) (hok : OK s.heap) (hn : n ≤ sizeLine)
    (hQ : ∀ (h' : Heap) (tk : Nat) (acc : Array Value), (∀ b o, s.heap.get? b = some o → h'.get? b = some o) → ItemsOf P acc n → Q (.ref h'.objs.size) { s with heap := h'.push { cls := .type "tuple", data := .seq acc }, toks := tk }) :
    wpAny (model prog w) A (call (.type "tuple") [.ref r]) Q E s := by
  have new : codeAny (model prog w) A.in1 (.call (.builtin "tuple.__new__") ⟨[.type "tuple", .ref r], []⟩) (wants (fun obj s₁ => s₁.TypeIs obj "tuple" ∧ Q obj s₁) E) s := by
    refine codeAny_of_tree ?_
    show wpAny _ A.in1.in1 (do checkBuiltinCall "tuple.__new__" ⟨[.type "tuple", .ref r], []⟩; again (.builtin "tuple.__new__" ⟨[.type "tuple", .ref r], []⟩)) _ _ s
    refine wpAny_bind (wpAny_of_eq (F.newCall_tuple_1 _) (wpAny_pure ⟨plainId_quiet F.plain_tuple_new _, codeAny_builtin F.entry_tuple_new ?_⟩))
    rw [Around.under_plainId F.plain_tuple_new _]
    have hsub := sub_tuple_self
    have hinit := init_tuple_lookup
    have hmh := madeHere_tuple
    have hTI : s.TypeIs (.ref r) "dict" := S.type s hok
    have hh2 : A.in1.in1.handled = none := hh
    wp_walk using wpAny_typeOf hTI, kdu_collect (A := A.in1.in1) S hh2 hok hn
    intro h' tk acc hk hacc
    show wpAny _ _ (Builtin.Tuple.tupleExact acc.toList.toArray >>= fun v => ret v) _ _ _
    unfold Builtin.Tuple.tupleExact
    refine wpAny_bind (wpAny_newObj_type ?_ (by show acc.toList.toArray.size ≤ sizeLine; simp only [Array.toArray_toList]; rw [hacc.1]; exact hn))
    refine wpAny_pure ?_
    have e : acc.toList.toArray = acc := by simp
    rw [e]
    exact ⟨⟨_, Heap.get?_push_size _ rfl, rfl⟩, hQ h' tk acc hk hacc⟩
  refine callType_codes (Q₁ := fun obj s₁ => s₁.TypeIs obj "tuple" ∧ Q obj s₁) F.called_tuple (F.typeCall_tuple_1 _) F.entry_object_init new fun obj s₁ h₁ => ?_
  exact ⟨h₁.1, F.args_object_init_2 obj _, object_init_meets F.called_tuple.init.lookup F.called_tuple.made (by decide) prog w A.in1 _ s₁ ⟨h₁.1, rfl, h₁.2⟩⟩
end
section
variable {X : Cx}
theorem keys_vals {kvs : List (Key × V)} {vs : List (Key × Value)} (rk : KV kvs vs) {acc : Array Value} (ha : ItemsOf (fun i v => ∃ k x, vs[i]? = some (k, x) ∧ (mixKind X.prog X.w).is k v = true) acc vs.length) : Vals (kvs.map fun kv => kV kv.1) acc.toList := by
  have hl : kvs.length = vs.length := Paired.length rk
  have el : acc.toList.length = acc.size := by simp
  refine vals_of_at (by rw [List.length_map, el, ha.1, hl]) fun j x u h1 h2 => ?_
  obtain ⟨k, y, hky, hi⟩ := ha.2 j u (by rw [← Array.getElem?_toList]; exact h2)
  have e1 : (kvs.map (·.1))[j]? = some k := by rw [KV.keys rk, List.getElem?_map, hky] <;> rfl
  have e2 : (kvs.map fun kv => kV kv.1)[j]? = some (kV k) := by
    have e3 : (kvs.map fun kv => kV kv.1) = (kvs.map (·.1)).map kV := by rw [List.map_map] <;> rfl
    rw [e3, List.getElem?_map, e1] <;> rfl
  rw [e2] at h1
  cases h1
  exact keyIs_rel hi
/-- tuple(d), list(d): its keys -/
theorem call_tuple_rd (hc : X.calm = true) : CallR X (.type "tuple") (fun xs H Q => ∃ p kvs, xs = [V.ref p] ∧ Rd H p (.dK kvs) ∧ ∀ q, H q = none → Q (.ref q) (upd H q (.tup (kvs.map fun kv => kV kv.1)))) := by
  intro pins s σ H xs us Q I r h
  obtain ⟨p, kvs, rfl, hk, q⟩ := h
  obtain ⟨u, rfl, rx⟩ := r.one
  obtain rfl : u = Value.ref p := rx
  obtain ⟨z, lo, vs, rk, hd⟩ := (show ObjOk X.prog X.w H s.heap p (.dK kvs) from hk.ok I.hok)
  obtain ⟨ep, hat⟩ := hd.dictAt
  have hl : kvs.length = vs.length := Paired.length rk
  refine tuple_of_dict (kdl_dict (knd := mixKind X.prog X.w) (kvs := vs) (ep := ep) lo) (I.ok.hd hc) hat (by rw [← hl]; exact z) fun h' tk acc hkeep hacc => ?_
  have I1 : Inv X pins σ H { s with heap := h', toks := tk } := I.kept (t' := tk) hkeep
  have I2 : Inv X pins σ (upd H h'.objs.size (.tup (kvs.map fun kv => kV kv.1))) { s with heap := h'.push { cls := .type "tuple", data := .seq acc }, toks := tk } :=
    I1.laid (t' := tk) (fun b o e => Heap.get?_push_of_some _ e) (Nat.le_refl _) (show ObjOk X.prog X.w _ _ _ (.tup _) from ⟨by rw [List.length_map]; exact z, acc.toList, keys_vals rk hacc, by rw [Array.toArray_toList]; exact IsTup.new h' acc⟩)
  exact ⟨.ref h'.objs.size, _, I2, rfl, q _ (I1.hok.fresh (Nat.le_refl _))⟩
theorem call_list_rd (hc : X.calm = true) : CallR X (.type "list") (fun xs H Q => ∃ p kvs, xs = [V.ref p] ∧ Rd H p (.dK kvs) ∧ ∀ q, H q = none → Q (.ref q) (upd H q (.lst (kvs.map fun kv => kV kv.1)))) := by
  intro pins s σ H xs us Q I r h
  obtain ⟨p, kvs, rfl, hk, q⟩ := h
  obtain ⟨u, rfl, rx⟩ := r.one
  obtain rfl : u = Value.ref p := rx
  obtain ⟨z, lo, vs, rk, hd⟩ := (show ObjOk X.prog X.w H s.heap p (.dK kvs) from hk.ok I.hok)
  obtain ⟨ep, hat⟩ := hd.dictAt
  have hl : kvs.length = vs.length := Paired.length rk
  refine kdl_call (kdl_dict (knd := mixKind X.prog X.w) (kvs := vs) (ep := ep) lo) (I.ok.hd hc) hat (by rw [← hl]; exact z) fun h' tk acc c' hkeep hS hacc => ?_
  refine ⟨.ref s.heap.objs.size, _, I.laid (o := .lst (kvs.map fun kv => kV kv.1)) hkeep (Nat.le_refl _) ?_, rfl, q _ (I.hok.fresh (Nat.le_refl _))⟩
  exact ⟨by rw [List.length_map]; exact z, acc.toList, c', keys_vals rk hacc, by rw [Array.toArray_toList]; exact hS⟩
end
end L2
namespace DL
open PySem L2
section
variable {m : Bool} {X : Cx} {C : CA} {c : Cs} {e a b b2 : Expr} {es : List Expr} {fa : AF} {f g h : EF} {pos p : Pos} {x : Str}
theorem rp_keys {K : PySem.W.Frag} {F F' : Hp} : ∀ {kvs : List (Key × V)} {ks : List (Key × D)}, RpKV K C F kvs ks → RpAll K C F' (kvs.map fun kv => kV kv.1) (ks.map fun p => keyVD p.1)
  | _, _, .nil => .nil
  | _, _, .cons _ t => .cons (keyVD_rp _) (rp_keys t)
theorem CallD.or {fv : Value} {o o' : List D → Option D} (h : CallD X C fv o) (h' : CallD X C fv o') : CallD X C fv (fun ds => (o ds).or (o' ds)) := by
  obtain ⟨r, h1, h2⟩ := h
  obtain ⟨r', h1', h2'⟩ := h'
  refine ⟨fun xs H Q => r xs H Q ∨ r' xs H Q, fun pins s σ H xs us Q I v q => q.elim (h1 pins s σ H xs us Q I v) (h1' pins s σ H xs us Q I v), fun F H vs ds d Q s rb e k => ?_⟩
  cases q : o ds with
  | some z => simp only [q, Option.some_or] at e; cases e; exact .inl (h2 F H vs ds d Q s rb q k)
  | none => simp only [q, Option.none_or] at e; exact .inr (h2' F H vs ds d Q s rb e k)
theorem CallO.or {fv : Value} {o o' : List D → Option D} (h : CallO X C fv o) (h' : CallO X C fv o') : CallO X C fv (fun ds => (o ds).or (o' ds)) := by
  obtain ⟨r, h1, h2⟩ := h
  obtain ⟨r', h1', h2'⟩ := h'
  refine ⟨fun xs H Q => r xs H Q ∨ r' xs H Q, fun pins s σ H xs us Q I v q => q.elim (h1 pins s σ H xs us Q I v) (h1' pins s σ H xs us Q I v), fun F H vs ds d Q s rb e k => ?_⟩
  cases q : o ds with
  | some z => simp only [q, Option.some_or] at e; cases e; exact .inl (h2 F H vs ds d Q s rb q k)
  | none => simp only [q, Option.none_or] at e; exact .inr (h2' F H vs ds d Q s rb e k)
def tupleK : List D → Option D
  | [.dic ks] => gd ks.length (some (.tup (ks.map fun p => keyVD p.1)))
  | _ => none
theorem cd_tupleK (hc : X.calm = true) : CallD X C (.type "tuple") tupleK := by
  refine ⟨_, call_tuple_rd hc, fun F H vs ds d Q s rb e k => ?_⟩
  unfold tupleK at e
  split at e
  · obtain ⟨hl, e⟩ := gd_some e
    cases e
    cases rb with
    | cons r1 r2 =>
      cases r2
      obtain ⟨a, kvs, rfl, rd, rk⟩ := r1.dic s
      refine ⟨a, kvs, rfl, rd, fun q hq => ?_⟩
      exact k _ _ _ (Ext.laid s hq) (.tup (SqT.of upd_same) (by rw [List.length_map, rk.len]; exact hl) (rp_keys rk))
  · cases e
def tupleX (ds : List D) : Option D := (tupleD ds).or (tupleK ds)
theorem cd_tupleX (hc : X.calm = true) : CallD X C (.type "tuple") tupleX := cd_tuple.or (cd_tupleK hc)
def listK : List D → Option D
  | [.dic ks] => gd ks.length (some (.lst (ks.map fun p => keyVD p.1)))
  | _ => none
theorem co_listK (hc : X.calm = true) : CallO X C (.type "list") listK := by
  refine ⟨_, call_list_rd hc, fun F H vs ds d Q s rb e k => ?_⟩
  unfold listK at e
  split at e
  · obtain ⟨hl, e⟩ := gd_some e
    cases e
    cases rb with
    | cons r1 r2 =>
      cases r2
      obtain ⟨a, kvs, rfl, rd, rk⟩ := r1.dic s
      refine ⟨a, kvs, rfl, rd, fun q hq => ?_⟩
      exact k q _ hq ⟨_, upd_same, by rw [List.length_map, rk.len]; exact hl, rp_keys rk⟩
  · cases e
def listX (ds : List D) : Option D := (listD ds).or (listK ds)
theorem co_listX (hc : X.calm = true) : CallO X C (.type "list") listX := co_list.or (co_listK hc)
/-! ### a < b < c as a test -/
theorem dt_chain {op op' : CmpOp} {o o' : D → D → Option D} (ho : OpD X C (compareOp op) o) (ho' : OpD X C (compareOp op') o') (ha : DE X C c a f) (hb : DE X C c b g) (hc : DE X C c b2 h) (hm : lastMarks [op, op'] [b, b2] = false := by with_unfolding_all rfl) :
    DT X C c (.Compare a [op, op'] [b, b2] pos) (fTst (fCh o o' f g h)) := by
  obtain ⟨r, hr, hw⟩ := ho
  obtain ⟨r', hr', hw'⟩ := ho'
  refine PT.imp (pt_chain hr hr' ha hb hc hm) fun σ H Q ⟨z, F, env, b, env', S, e, k⟩ => ?_
  have e := fTst_some e
  simp only [fCh, Option.bind_eq_some_iff] at e
  obtain ⟨⟨b1, e1⟩, h1, ⟨b2, e2⟩, h2, x, hx, y, hy, d, hd, kk, hk, e⟩ := e
  have dk := isB_some hk
  subst dk
  refine ⟨z, F, env, b1, e1, S, h1, fun v F1 H1 s1 S1 r1 => ⟨z, F1, e1, b2, e2, S1, h2, fun w F2 H2 s2 S2 r2 => 
    hw F2 H2 v w x y _ _ S2.sub ((r1.mono s2).rb S2 hx) (r2.rb S2 hy) hd fun u F3 H3 ex ru => ⟨kk, rp_bl ru, ?_⟩⟩⟩
  have S3 := S2.ext ex
  cases kk with
  | false =>
    simp only [Bool.false_eq_true, if_false] at e ⊢
    cases e
    exact ⟨_, rfl, k F3 H3 (s1.trans (s2.trans ex.sub)) S3⟩
  | true =>
    simp only [if_true, Option.bind_eq_some_iff] at e ⊢
    obtain ⟨⟨b3, e3⟩, h3, y', hy', w', hw3, d', hd', e⟩ := e
    cases e
    exact ⟨z, F3, e2, b3, e3, S3, h3, fun w2 F4 H4 s4 S4 r4 => hw' F4 H4 w w2 y' w' _ _ S4.sub (((r2.mono ex.sub).mono s4).rb S4 hy') (r4.rb S4 hw3) hd' fun u F5 H5 ex5 ru5 => by
      cases ru5
      exact ⟨_, rfl, k F5 H5 (s1.trans (s2.trans (ex.sub.trans (s4.trans ex5.sub)))) (S4.ext ex5)⟩⟩
end
end DL

namespace DL
open PySem L2
/-! ### repr of data -/
mutual
/-- no texts, numbers of at most a hundred bits -/
def smB : D → Bool
  | .non => true
  | .bl _ => true
  | .int i => decide (i.natAbs.log2 < 100)
  | .str x => decide (x.cps.size ≤ 100) && x.cps.toList.all fun c => decide (c < 16 ^ 8)
  | .lst xs => smBs xs
  | .tup xs => smBs xs
  | _ => false
termination_by structural x => x
def smBs : List D → Bool
  | [] => true
  | x :: xs => smB x && smBs xs
termination_by structural x => x
end
mutual
def cnt : D → Nat
  | .lst xs => cnts xs + 1
  | .tup xs => cnts xs + 1
  | _ => 1
termination_by structural x => x
def cnts : List D → Nat
  | [] => 0
  | x :: xs => cnt x + cnts xs
termination_by structural x => x
end
theorem andB {a b : Bool} (h : (a && b) = true) : a = true ∧ b = true := Bool.and_eq_true_iff.mp h
mutual
theorem sm_plain : ∀ d : D, smB d = true → DL.plain d = true
  | .non, _ => rfl
  | .bl _, _ => rfl
  | .int _, _ => rfl
  | .lst xs, h => sm_plains xs h
  | .tup xs, h => sm_plains xs h
  | .str _, _ => rfl
  | .dic _, h => by cases h
  | .obj _ _, h => by cases h
  | .scr _, h => by cases h
  | .cel _, h => by cases h
  | .dtu _, h => by cases h
  | .btu _, h => by cases h
termination_by structural x => x
theorem sm_plains : ∀ xs : List D, smBs xs = true → plains xs = true
  | [], _ => rfl
  | x :: xs, h => by
    obtain ⟨h1, h2⟩ := andB h
    show (DL.plain x && plains xs) = true
    rw [sm_plain x h1, sm_plains xs h2]
    rfl
termination_by structural x => x
end
mutual
theorem sm_show : ∀ d : D, smB d = true → (toPy d).showable = true ∧ (toPy d).hasDict = false ∧ (toPy d).leavesShort 110 = true ∧ (toPy d).weight + 1 ≤ 102 * cnt d
  | .non, _ => ⟨rfl, rfl, rfl, by show 0 + 1 ≤ 102 * 1; decide⟩
  | .bl _, _ => ⟨rfl, rfl, rfl, by show 0 + 1 ≤ 102 * 1; decide⟩
  | .int i, h => by
    have h : i.natAbs.log2 < 100 := of_decide_eq_true h
    refine ⟨decide_eq_true (by omega), rfl, decide_eq_true ?_, ?_⟩
    · have := int_text_length_le (a := i) (k := 100) (by decide) h
      show (Str.ofString (toString i)).length ≤ 110
      rw [ofString_length]
      omega
    · show (if i == 0 then 0 else i.natAbs.log2 + 1) + 1 ≤ 102 * 1
      split <;> omega
  | .lst xs, h => by
    obtain ⟨h1, h2, h3, h4⟩ := sm_shows xs h
    exact ⟨h1, h2, h3, by show PyData.weightAll (toPys xs) + 1 ≤ 102 * (cnts xs + 1); omega⟩
  | .tup xs, h => by
    obtain ⟨h1, h2, h3, h4⟩ := sm_shows xs h
    exact ⟨h1, h2, h3, by show PyData.weightAll (toPys xs) + 1 ≤ 102 * (cnts xs + 1); omega⟩
  | .str x, h => by
    obtain ⟨h1, h2⟩ := andB h
    have h1 := of_decide_eq_true h1
    exact ⟨rfl, rfl, h2, by show x.cps.size + 1 ≤ 102 * 1; omega⟩
  | .dic _, h => by cases h
  | .obj _ _, h => by cases h
  | .scr _, h => by cases h
  | .cel _, h => by cases h
  | .dtu _, h => by cases h
  | .btu _, h => by cases h
termination_by structural x => x
theorem sm_shows : ∀ xs : List D, smBs xs = true → PyData.showableAll (toPys xs) = true ∧ PyData.hasDictAll (toPys xs) = false ∧ PyData.leavesShortAll 110 (toPys xs) = true ∧ PyData.weightAll (toPys xs) ≤ 102 * cnts xs
  | [], _ => ⟨rfl, rfl, rfl, Nat.zero_le _⟩
  | x :: xs, h => by
    obtain ⟨h1, h2⟩ := andB h
    obtain ⟨a1, a2, a3, a4⟩ := sm_show x h1
    obtain ⟨b1, b2, b3, b4⟩ := sm_shows xs h2
    refine ⟨?_, ?_, ?_, ?_⟩
    · show ((toPy x).showable && PyData.showableAll (toPys xs)) = true
      rw [a1, b1]; rfl
    · show ((toPy x).hasDict || PyData.hasDictAll (toPys xs)) = false
      rw [a2, b2]; rfl
    · show ((toPy x).leavesShort 110 && PyData.leavesShortAll 110 (toPys xs)) = true
      rw [a3, b3]; rfl
    · show (toPy x).weight + 1 + PyData.weightAll (toPys xs) ≤ 102 * (cnt x + cnts xs)
      omega
termination_by structural x => x
end
mutual
/-- no texts -/
def noS : D → Bool
  | .str _ => false
  | .lst xs => noSs xs
  | .tup xs => noSs xs
  | _ => true
termination_by structural x => x
def noSs : List D → Bool
  | [] => true
  | x :: xs => noS x && noSs xs
termination_by structural x => x
end
mutual
theorem bulk_le : ∀ d : D, smB d = true → noS d = true → (toPy d).bulk + 1 ≤ cnt d
  | .non, _, _ => Nat.le_refl 1
  | .bl _, _, _ => Nat.le_refl 1
  | .int i, _, _ => Nat.le_refl 1
  | .lst xs, h, g => by
    have := bulks_le xs h g
    show PyData.bulkAll (toPys xs) + 1 ≤ cnts xs + 1
    omega
  | .tup xs, h, g => by
    have := bulks_le xs h g
    show PyData.bulkAll (toPys xs) + 1 ≤ cnts xs + 1
    omega
  | .str x, _, g => by cases g
  | .dic _, h, _ => by cases h
  | .obj _ _, h, _ => by cases h
  | .scr _, h, _ => by cases h
  | .cel _, h, _ => by cases h
  | .dtu _, h, _ => by cases h
  | .btu _, h, _ => by cases h
termination_by structural x => x
theorem bulks_le : ∀ xs : List D, smBs xs = true → noSs xs = true → PyData.bulkAll (toPys xs) ≤ cnts xs
  | [], _, _ => Nat.le_refl 0
  | x :: xs, h, g => by
    obtain ⟨h1, h2⟩ := andB h
    obtain ⟨g1, g2⟩ := andB g
    have a := bulk_le x h1 g1
    have b := bulks_le xs h2 g2
    show (toPy x).bulk + 1 + PyData.bulkAll (toPys xs) ≤ cnt x + cnts xs
    omega
termination_by structural x => x
end
def reprB (x : D) : Bool := smB x && decide (dp x ≤ 50) && (decide (cnt x ≤ 1000) || (noS x && decide (cnt x ≤ 100000)))
def reprD : List D → Option D
  | [x] => if reprB x then some (.str (toPy x).shown) else none
  | _ => none
section
variable {X : Cx} {C : CA}
end
end DL
namespace L2
open PySem PySem.Spec PyProof.Rows
/-! ### a def that is called while no repr runs -/
/-- as FnOk, for calls under which no repr stands -/
def FnG (P : Program) (w : World) (K : PySem.W.Frag) (mg : Str → Option Value) (base : Heap) (k : Nat) (f : Addr) (fd : FuncData) (ps : List Str) (sp : Sp) : Prop :=
  ∀ (A : Around) (outer : List Env) (s : Shared) (H : Hp) (args : Args) (us : List Value) (vs : List V) (Q : VK) (E : XK), Room k A → A.guards = some [] → Env0 P w K mg base A outer s H → BindsTo s fd args (ps.zip us) → Vals vs us → sp vs H Q E →
    codeAny (model P w) A (.call (.ref f) args) (CR CX0 outer P w H s Q E) s
section
variable {P : Program} {w : World} {K : PySem.W.Frag} {mg mb : Str → Option Value} {base : Heap} {x qual : Str} {params : Arguments} {body : List Stmt} {scope : Scope} {dvs : List V} {kws : List (Str × V)} {f : Addr} {fd : FuncData}
theorem FunD.okG {N ps : List Str} {k : Nat} {sp : Sp} (F : FunD K x qual params body scope dvs kws f fd) (S : FnScope N ps scope) (len : ∀ vs H Q E, sp vs H Q E → vs.length = ps.length)
    (hbody : ∀ (cdv : Value) (A : Around) (outer : List Env) (s : Shared) (H : Hp) (vs : List V) (Q : VK) (E : XK), Room k (A.deeper (envOfC qual scope s.heap.objs.size f cdv)) → A.guards = some [] → fd.code = cdv → sp vs H Q E →
      ∃ t, PSs (cxOf CX0 P w K mg base N qual scope f cdv A outer s H E) body t ∧ t { nx := fun _ G => Q .non G, rt := Q } (start N vs) H) : FnG P w K mg base (k + 1) f fd ps sp := by
  intro A outer s H args us vs Q E room guards env0 binds rel holds
  obtain ⟨_, _, _, _, _, _, _, cdv, _, _, rfl, look, code, _, _⟩ := F.ex
  have stays : ∀ b o, base.get? b = some o → s.heap.get? b = some o := fun b o e => (env0.bs b o e).1
  have inK : K.In s.heap := env0.mod.kin.keeps stays
  obtain ⟨t, walk, start0⟩ := hbody cdv A outer s H vs Q E (room.deeper _) guards rfl holds
  have kinds : ∀ y ∈ ps.zip us, scope.names.lookup y.1 = some .local ∨ (scope.names.lookup y.1 = some .cell ∧ ((cellsFrom (s.heap.objs.size + 1) scope.names []).lookup y.1).isSome = true) := fun y hy =>
    (S.par y.1 (List.of_mem_zip hy).1).imp (fun q => q) fun q => ⟨q, PySem.W.cellsFrom_some _ _ _ (.inl q)⟩
  refine codeAny_call_function room.depth (inK _ _ look) rfl S.co S.gen rfl (PySem.W.codeRec_of inK code) (binds _ _ _ _ (wpAny_newFunctionEnv_cells S.kind kinds fun env he s1 inCall => ?_))
  subst he
  refine ⟨(env0.mod.nolimit.keeps stays).keeps inCall.toInCall.keep, codeAny_func (wpAny_mono (walk.run [] s1 _ H _ (inv_start S room.hd env0 (len _ _ _ _ holds) rel inCall) start0) (fun fl s2 out => ?_) fun _ _ z => z)⟩
  match fl, out with
  | .ret u, ⟨v, _, G, J, rv, q⟩ => exact ⟨v, G, J.os, J.bare, J.base, J.hok, rv, q⟩
  | .next, ⟨_, G, J, q⟩ => exact ⟨.non, G, J.os, J.bare, J.base, J.hok, rfl, q⟩
  | .brk, ⟨_, _, _, q⟩ => exact q.elim
  | .cont, ⟨_, _, _, q⟩ => exact q.elim
/-- the law's own call -/
theorem law_callG {k : Nat} {fa a : Addr} {y : Str} {sp : Sp} {s₁ : Shared} {vs : List Value} {ns : List Int} (inK : K.In s₁.heap) (glob : s₁.heap.Ns mainGlobals mg) (blt : s₁.heap.Ns builtinsNs mb) (boot : ∀ x : Str, x ≠ "__name__" → mb x = bootBuiltins x) (lim : s₁.heap.NoLimit) (gens : s₁.gens = #[])
    (atList : s₁.heap.get? a = some { cls := .type "list", data := .seq vs.toArray }) (arInts : IntsAre vs ns) (few : ns.length ≤ sizeLine) (room : Room k callerA) (F : ∀ base : Heap, K.In base → base.Ns mainGlobals mg → FnG P w K mg base k fa fd [y] sp)
    (binds : ∀ (s : Shared) (u : Value), BindsTo s fd ⟨[u], []⟩ [(y, u)]) (holds : ∀ H : Hp, Only H → SqL K H a (ns.map V.int) → sp [.ref a] H (fun v _ => v = .bl true) fun _ _ _ => False) :
    codeAny (model P w) callerA (.call (.ref fa) ⟨[.ref a], []⟩) (fun r s' => r = .ok (.ret (.bool true)) ∧ OldK s₁.heap s'.heap ∧ s'.os = s₁.os ∧ AllBare s'.gens) s₁ := by
  have rel := vals_ints arInts
  -- what is tracked: at most the script, and that it is locked
  obtain ⟨H, only, sq, hok, atA, notK⟩ : ∃ H : Hp, Only H ∧ SqL K H a (ns.map V.int) ∧ HOk P w H s₁.heap ∧ (∀ b u, H b = some u → b = a) ∧ (∀ u, H a = some u → K.lookup a = none) := by
    cases look : K.lookup a with
    | some o =>
      have e := (inK a o look).symm.trans atList
      cases e
      exact ⟨fun _ => none, fun _ => .inl rfl, .inr ⟨_, vs.toArray, _, look, rfl, rfl, rfl, by rw [List.size_toArray, arInts.length]; exact few, by simpa using rel⟩, fun b u z => (nomatch z), fun b u z => (nomatch z), fun u z => (nomatch z)⟩
    | none =>
      refine ⟨upd (fun _ => none) a (.frz { cls := .type "list", data := .seq vs.toArray } (.lst (ns.map V.int))), fun b => ?_, .inl (.inr ⟨_, upd_same⟩), fun b u z => ?_, fun b u z => ?_, fun _ _ => rfl⟩
      · by_cases e : b = a
        · subst e; exact .inr ⟨_, _, upd_same⟩
        · exact .inl (upd_ne e)
      · by_cases e : b = a
        · subst e
          rw [upd_same] at z
          cases z
          exact ⟨atList, by rw [List.length_map]; exact few, vs, _, rel, atList⟩
        · rw [upd_ne e] at z; cases z
      · by_cases e : b = a
        · exact e
        · rw [upd_ne e] at z; cases z
  have free : ∀ b o, s₁.heap.get? b = some o → (∀ v n, o.data ≠ .seq v n) → H b = none := fun b o e nd => by
    cases q : H b with
    | none => rfl
    | some u =>
      have := atA b u q
      subst this
      rw [atList] at e
      cases e
      exact absurd rfl (nd _ _)
  have ns_ : ∀ {b : Addr} {m : Str → Option Value}, s₁.heap.Ns b m → (hidT s₁.heap H).Ns b m := fun ⟨o, es, ep, e, d, r⟩ => ⟨o, es, ep, hidT_get e (free _ o e fun v n z => by rw [d] at z; cases z), d, r⟩
  have inB : K.In (hidT s₁.heap H) := fun b o e => hidT_get (inK b o e) (by
    cases q : H b with
    | none => rfl
    | some u =>
      have := atA b u q
      subst this
      rw [notK u q] at e
      cases e)
  have env0 : Env0 P w K mg (hidT s₁.heap H) callerA [] s₁ H := { frames := rfl, mod := ⟨inB, ns_ glob, ⟨mb, ns_ blt, boot⟩, let ⟨mc, h1, h2⟩ := lim; ⟨mc, ns_ h1, h2⟩⟩, bs := fun b o e => of_hidT e, bsz := Nat.le_of_eq (hidT_size _ _), funs := trivial, frf := fun b hb => (nomatch (show b ∈ ([] : List Addr) from hb)), hok := hok, bare := .of_eq gens }
  refine codeAny_mono (F _ inB (ns_ glob) callerA [] s₁ H ⟨[.ref a], []⟩ [.ref a] [.ref a] _ _ room rfl env0 (binds s₁ _) (.cons rfl .nil) (holds H only sq)) fun r s2 out => ?_
  match r, out with
  | .ok (.ret u), ⟨v, G, os, bare, un, hok2, rv, q⟩ =>
    have q : v = .bl true := q
    subst q
    obtain rfl : u = Value.bool true := rv
    refine ⟨rfl, OldK.of_keep fun b o e => ?_, os, bare⟩
    cases q : H b with
    | none => exact un.keep b o e q (fun z => (nomatch (show b ∈ ([] : List Addr) from z))) (by simp)
    | some u =>
      rcases only b with z | ⟨ob, xs, z⟩
      · rw [z] at q; cases q
      · have e1 := (hok b _ z).1
        have e2 := (hok2 b _ (un.frzs b ob _ z)).1
        rw [e] at e1
        cases e1
        exact e2
theorem walkG {l : PySem.W.OpenLaw} {n k : Nat} {q : Program} {loose : List Str} {XP : (Str → Option Value) → Heap → Prop} {YP : World → Heap → Prop} {d : DefRec} {y : Str} (most : l.most = some n) (size : n ≤ sizeLine) (bare : d.params.defaults = []) (room : Room k callerA)
    (F : ∀ (w : World) (mg : Str → Option Value) (fa : Addr) (h : Heap), YP w h → h.Ns mainGlobals mg → mg d.name = some (.ref fa) → ∃ (K : PySem.W.Frag) (fd : FuncData) (sp : Sp), K.In h ∧ (∀ (s : Shared) (u : Value), BindsTo s fd ⟨[u], []⟩ [(y, u)]) ∧
      (∀ (H : Hp) (a : Addr) (ns : List Int), ns.length ≤ n → Only H → SqL K H a (ns.map V.int) → sp [.ref a] H (fun v _ => v = .bl true) fun _ _ _ => False) ∧ ∀ base : Heap, K.In base → base.Ns mainGlobals mg → FnG l.prog w K mg base k fa fd [y] sp) :
    PySem.W.WalkO q loose XP YP l.row.toRowW d [] (fun f vs => PySem.call f vs) :=
  Att.attach_call most bare fun w s₀ s₁ mg mb fa o pm cd doc a vs ns G Y ho hd hcd hmg hobj hints hlen hg => by
    obtain ⟨K, fd, sp, inK, binds, holds, run⟩ := F w mg fa _ Y G.T.g hmg
    exact law_callG inK G.T.g G.T.b G.T.builtins G.T.nolimit hg hobj hints (Nat.le_trans hlen size) room run binds fun H only sq => holds H a ns hlen only sq
end
end L2
namespace DL
open PySem L2
section
variable {P : Program} {w : World} {K : PySem.W.Frag} {mg : Str → Option Value} {base : Heap} {x qual : Str} {params : Arguments} {body : List Stmt} {scope : Scope} {dvs : List V} {kws : List (Str × V)} {fa : Addr} {fd : FuncData}
theorem fun_okG {N ps : List Str} {k : Nat} {C : CA} {m : Bool} (c : Cs) (Fn : FunD K x qual params body scope dvs kws fa fd) (Sc : FnScope N ps scope) (fb : SF) (hn : c.n = N.length) (hio : ∀ i ∈ c.io, i < ps.length ∧ i ∈ c.O) (hO : ∀ i ∈ c.O, i < ps.length → i ∈ c.io) (hnx : m = true → ∀ env env', fb env ≠ some (.nx env'))
    (hbody : ∀ (cdv : Value) (A : Around) (outer : List PySem.Env) (s : Shared) (H : Hp) (E : XK), Room k (A.deeper (PyProof.Rows.envOfC qual scope s.heap.objs.size fa cdv)) → A.guards = some [] → DSs m (cxOf CX0 P w K mg base N qual scope fa cdv A outer s H E).nox C c body fb)
    (hci : c.ci = [] := by rfl) (hcn : c.cn = [] := by rfl) (hOn : ∀ i ∈ c.O, i < c.n := by decide) : FnG P w K mg base (k + 1) fa fd ps (spF K C c.io m ps.length (runF c fb)) := by
  refine Fn.okG Sc (fun vs H Q E ⟨F, ds, r, outs, s, hl, _⟩ => hl) fun cdv A outer s H vs Q E hr hgd _ ⟨F, ds, r, outs, sb, hl, ar, e, kk⟩ => ?_
  refine ⟨_, PSs.nox (hbody cdv A outer s H E hr hgd), ?_⟩
  obtain ⟨fl, e1, e2⟩ := Option.bind_eq_some_iff.mp e
  have hps : ps.length ≤ N.length := by have := congrArg List.length Sc.pre; rw [List.length_take] at this; omega
  have hdl : ds.length = ps.length := by rw [← ar.len]; exact hl
  have hst : ∀ (i : Nat) v, vs[i]? = some v → (L2.start N vs)[i]? = some (some v) := fun i v h => by
    unfold L2.start
    have lt : i < vs.length := (List.getElem?_eq_some_iff.mp h).1
    rw [List.getElem?_append_left (by simpa using lt), List.getElem?_map, h]
    rfl
  have el : (env0 c.n ds).length = c.n := by
    unfold env0
    rw [List.length_append, List.length_map, List.length_replicate]
    omega
  have xio : c.x.io = c.io := by rw [x_nil hci hcn]
  have S : SR K C c ⟨F, H, ioAs c.io vs, []⟩ F (env0 c.n ds) (L2.start N vs) H := by
    refine SRo.up ?_ hci hcn hOn
    refine ⟨sb, Same.refl _, fun b o h => .inl h, fun b o h _ => h, ?_, el, fun i d h hi => ?_, fun i d h hi => ?_, fun i j di dj a hi hj hij ei ej si sj => ?_, by simp [ioAs], fun a d h => (nomatch h), fun a d i e h => (nomatch h), List.nodup_nil, fun k i h => ?_⟩
    · rw [el, hn]
      unfold L2.start
      rw [List.length_append, List.length_map, List.length_replicate]
      omega
    · have hd := gt_env0.mp h
      have lt : i < vs.length := by rw [ar.len]; exact (List.getElem?_eq_some_iff.mp hd).1
      have hv : vs[i]? = some vs[i] := List.getElem?_eq_getElem lt
      exact ⟨_, hst i _ hv, ar.pur i _ d hv hd fun q => hi (hio i q).2⟩
    · have hd := gt_env0.mp h
      have lt : i < ps.length := by rw [← hdl]; exact (List.getElem?_eq_some_iff.mp hd).1
      have hi2 := hO i hi lt
      obtain ⟨a, d', h1, h2, h3, h4⟩ := ar.own i hi2
      rw [hd] at h2; cases h2
      obtain ⟨kq, hk⟩ := List.getElem?_of_mem hi2
      exact ⟨a, hst i _ h1, h3, h4, .inr ⟨hi2, List.mem_of_getElem? (ioAs_get hk h1)⟩⟩
    · have h1 := gt_env0.mp ei
      have h2 := gt_env0.mp ej
      have l1 : i < ps.length := by rw [← hdl]; exact (List.getElem?_eq_some_iff.mp h1).1
      have l2 : j < ps.length := by rw [← hdl]; exact (List.getElem?_eq_some_iff.mp h2).1
      obtain ⟨a1, _, q1, _⟩ := ar.own i (hO i hi l1)
      obtain ⟨a2, _, q2, _⟩ := ar.own j (hO j hj l2)
      have e1 := hst i _ q1
      have e2 := hst j _ q2
      rw [si] at e1; cases e1
      rw [sj] at e2; cases e2
      exact ar.dist i j a (hO i hi l1) (hO j hj l2) hij q1 q2
    · have hi := List.mem_of_getElem? h
      obtain ⟨a, d, h1, h2, h3, h4⟩ := ar.own i hi
      exact ⟨(hio i hi).2, a, d, ioAs_get h h1, hst i _ h1, gt_env0.mpr h2⟩
  have fin : ∀ v F' H' env', RetOk m K C c ⟨F, H, ioAs c.io vs, []⟩ F' env' H' v r → outsOf env' c.io = some outs → Q v H' := fun v F' H' env' R ho => by
    refine kk v F' H' ⟨R.f0, R.sub, R.new, fun b o h hb => R.keep b o h fun hm => ?_, fun k i a hk ha => ?_, ?_⟩
    · obtain ⟨i, hi, q⟩ := List.mem_map.mp hm
      obtain ⟨a, _, h1, _⟩ := ar.own i hi
      rw [h1] at q
      have q' : a = b := q
      subst q'
      exact hb i hi h1
    · obtain ⟨a', d, h1, h2, h3, h4⟩ := R.ios k i (by rw [xio]; exact hk)
      have h1' := ioAs_get hk ha
      have h1'' : (ioAs c.io vs)[k]? = some a' := h1
      rw [h1'] at h1''; cases h1''
      obtain ⟨d', q1, q2⟩ := outs_get ho k i hk
      rw [h2] at q2; cases q2
      exact ⟨d, q1, h3, h4⟩
    · have := R.val
      cases m with
      | false => exact this
      | true =>
        obtain ⟨a, h1, h2, h3, h4⟩ := this
        exact ⟨a, h1, h3, h2, h4⟩
  refine ⟨⟨F, H, ioAs c.io vs, []⟩, F, env0 c.n ds, fl, S, rfl, e1, ?_⟩
  cases fl with
  | nx env' =>
    obtain ⟨os, h1, h2⟩ := Option.bind_eq_some_iff.mp e2
    cases h2
    intro F' σ' H' s' S'
    cases m with
    | true => exact absurd e1 (hnx rfl _ _)
    | false => exact fin .non F' H' env' (S'.ret (m := false) .non) h1
  | rt d env' =>
    obtain ⟨os, h1, h2⟩ := Option.bind_eq_some_iff.mp e2
    cases h2
    intro v F' H' s' R
    exact fin v F' H' env' R h1
  | bk _ => cases e2
  | ct _ => cases e2
end
end DL

namespace DL
open PySem L2
/-! ### an own list that is lent as data while an expression is reckoned -/
mutual
/-- no lists, dicts or objects within -/
def noL : D → Bool
  | .non => true
  | .bl _ => true
  | .int _ => true
  | .str _ => true
  | .tup xs => noLs xs
  | .obj _ fs => noLf fs
  | .dic ks => noLk ks
  | _ => false
termination_by structural x => x
def noLs : List D → Bool
  | [] => true
  | x :: xs => noL x && noLs xs
termination_by structural x => x
def noLf : List (Str × D) → Bool
  | [] => true
  | (_, x) :: xs => noL x && noLf xs
termination_by structural x => x
def noLk : List (Key × D) → Bool
  | [] => true
  | (_, x) :: xs => noL x && noLk xs
termination_by structural x => x
end
/-- an own list of such things -/
def noLo : Option D → Bool
  | some (.lst xs) => noLs xs
  | _ => false
def outE (F : Hp) (a : Addr) : Hp := fun b => if b = a then none else F b
theorem outE_ne {F : Hp} {a b : Addr} (h : b ≠ a) : outE F a b = F b := by unfold outE; rw [if_neg h]
section
variable {K : PySem.W.Frag} {C : CA} {F : Hp} {a : Addr} {vs0 : List V}
theorem sqt_out (h : F a = some (.lst vs0)) {b : Addr} {vs : List V} (q : SqT K F b vs) : SqT K (outE F a) b vs := by
  rcases q with (q | ⟨o, q⟩) | q
  · exact .inl (.inl (by rw [outE_ne (fun e => by rw [e, h] at q; cases q)]; exact q))
  · exact .inl (.inr ⟨o, by rw [outE_ne (fun e => by rw [e, h] at q; cases q)]; exact q⟩)
  · exact .inr q
mutual
theorem rp_out (h : F a = some (.lst vs0)) : ∀ {v : V} {d : D}, noL d = true → Rp K C F v d → Rp K C (outE F a) v d
  | _, _, _, .non => .non
  | _, _, _, .bl b => .bl b
  | _, _, _, .int i => .int i
  | _, _, _, .str x => .str x
  | _, _, n, .tup q l r => .tup (sqt_out h q) l (rp_outs h n r)
  | _, _, n, .lst _ _ _ => by cases n
  | _, _, n, .scr _ => by cases n
  | _, _, n, .cel _ _ => by cases n
  | _, _, n, .dtu _ _ => by cases n
  | _, _, n, .btu _ _ _ _ => by cases n
  | _, _, n, .dic q r => .dic (by rw [outE_ne (fun e => by rw [e, h] at q; cases q)]; exact q) (rp_outk h n r)
  | _, _, n, .obj q r => .obj (by rw [outE_ne (fun e => by rw [e, h] at q; cases q)]; exact q) (rp_outf h n r)
theorem rp_outs (h : F a = some (.lst vs0)) : ∀ {vs : List V} {ds : List D}, noLs ds = true → RpAll K C F vs ds → RpAll K C (outE F a) vs ds
  | _, _, _, .nil => .nil
  | _, _, n, .cons r t => .cons (rp_out h (andB n).1 r) (rp_outs h (andB n).2 t)
theorem rp_outf (h : F a = some (.lst vs0)) : ∀ {vs : List (Str × V)} {ds : List (Str × D)}, noLf ds = true → RpFs K C F vs ds → RpFs K C (outE F a) vs ds
  | _, _, _, .nil => .nil
  | _, _, n, .cons r t => .cons (rp_out h (andB n).1 r) (rp_outf h (andB n).2 t)
theorem rp_outk (h : F a = some (.lst vs0)) : ∀ {vs : List (Key × V)} {ds : List (Key × D)}, noLk ds = true → RpKV K C F vs ds → RpKV K C (outE F a) vs ds
  | _, _, _, .nil => .nil
  | _, _, n, .cons r t => .cons (rp_out h (andB n).1 r) (rp_outk h (andB n).2 t)
end
end
/-- the slots of U as they stand in the second one -/
def putE (env e2 : Env) : List Nat → Env
  | [] => env
  | j :: U => st (putE env e2 U) j (gt e2 j)
def adr (σ : St) (j : Nat) : Addr := match σ[j]? with
  | some (some (.ref b)) => b
  | _ => 0
section
variable {K : PySem.W.Frag} {C : CA} {c : Cs} {z : Zn} {F F2 : Hp} {env e2 : Env} {σ : St} {H H2 : Hp} {i : Nat} {U ws : List Nat} {ds0 : List D} {a : Addr} {vs0 : List V}
end
section
variable {X : Cx} {C : CA} {c : Cs} {e : Expr} {f : EF} {t : TF}
def lendB (env : Env) (i : Nat) (U : List Nat) : Bool := (match gt env i with
  | some (.lst _) => true
  | _ => false) && U.all fun j => (gt env j).isSome
def fBor (i : Nat) (U ws : List Nat) (f : EF) : EF := fun env => if lendB env i U then (f (wipeE env ws)).bind fun p => match p.1 with
  | .val d => if noL d && U.all (fun j => noLo (gt p.2 j)) then some (.val d, putE env p.2 U) else none
  | .slot _ => none
  else none
def tBor (i : Nat) (U ws : List Nat) (t : TF) : TF := fun env => if lendB env i U then (t (wipeE env ws)).bind fun p => if U.all (fun j => noLo (gt p.2 j)) then some (p.1, putE env p.2 U) else none else none
def lendOk (O : List Nat) (i : Nat) (U ws : List Nat) : Bool := decide (i ∈ O) && (U.all fun j => decide (j ∈ O) && decide (j ≠ i)) && (O.all fun j => decide (j = i) || decide (j ∈ U) || decide (j ∈ ws)) && (ws.all fun j => decide (j ∈ O) && decide (j ≠ i) && decide (j ∉ U))
/-! ### a new list out of an own list that is lent -/
def oBor (i : Nat) (U ws : List Nat) (f : OF) : OF := fun env => if lendB env i U then (f (wipeE env ws)).bind fun p => match p.1 with
  | .lst xs => if noLs xs && U.all (fun j => noLo (gt p.2 j)) then some (.lst xs, putE env p.2 U) else none
  | _ => none
  else none
end
end DL

namespace DL
open PySem PySem.Spec PyProof.Rows L2
/-! ### a clause of a comprehension at work, whatever stands behind its tests; two of them, one within the other, fill a dict -/
/-- what one turn of a clause does: body stands for what is done where the tests let it -/
def clauseSem (tg src : Expr) (ifs : List Expr) (it : Value) (body : Sem Fin → Sem Fin) (env : PySem.Env) (c : Code) : Sem Fin := do
  standAt src.pos
  match ← pyNext it with
  | none => pure (.done .next)
  | some v =>
    letOwnedTupleGo tg it v
    assign tg env v
    let mut ok := true
    for q in ifs do
      if ok then ok ← isTrue q env (eval q env)
    if ok then body (again c) else again c
abbrev TB := L2.St → Hp → (Hp → Prop) → Prop
/-- the body's rule: behind it the names vs are forgotten -/
def Body (Y : Cx) (body : Sem Fin → Sem Fin) (vs : List Nat) (tb : TB) : Prop := ∀ (pins : List (Addr × Obj)) (σ : L2.St) (H : Hp) (s : Shared) (N : Hp → Prop) (k : Sem Fin) (Q : Fin → Shared → Prop) (E : Value → Shared → Prop), Inv Y pins σ H s → tb σ H N →
  (∀ s' H', Inv Y pins (wipe σ vs) H' s' → N H' → wpAny (model Y.prog Y.w) Y.A k Q E s') → wpAny (model Y.prog Y.w) Y.A (body k) Q E s
/-- what is asked of a clause's loop -/
def tLoop (J : It) (g : TG) (tt : TT) (tb : TB) (vs : List Nat) (σ : L2.St) (H : Hp) (fin : Hp → Prop) : Prop := ∃ W : Nat → Nat → Hp → Prop, (∃ m, W 0 m H) ∧ ∀ i m H, W i m H →
  (J.stop i H ∧ fin H) ∨ (J.go i H ∧ ∃ Nx : Hp → Prop, (∀ H', Nx H' → ∃ m', m' < m ∧ W (i + 1) m' H') ∧ ∀ x H', J.yld i H x H' → g x (wipe σ vs) H' fun σ2 H2 => wipe σ2 vs = wipe σ vs ∧ tt σ2 H2 fun b H3 => if b = true then tb σ2 H3 Nx else Nx H3)
/-! the innermost body of a dict's comprehension -/
def emitD (kx vx : Expr) (D : Addr) (env : PySem.Env) : Sem Unit := do
  let kv ← eval kx env
  let vv ← holding [kv] (eval vx env)
  standAt { kx.pos with endLine := vx.pos.endLine, endCol := vx.pos.endCol }
  holding [kv, vv] (dictSet D kv vv)
def tEmit (D : Addr) (tk tv : TE) : TB := fun σ H N => tk σ H fun y H4 => tv σ H4 fun z H5 => ∃ kvs k, y = kV k ∧ H5 D = some (.dK kvs) ∧ kvs.length < sizeLine ∧ N (upd H5 D (.dK (putK kvs k z)))
/-! the first clause's body: the second clause, run through -/
def innerB (e i1 : Expr) (acc : Value) (env : PySem.Env) (k : Sem Fin) : Sem Fin := do
  let x ← eval i1 env
  standAt i1.pos
  let x ← foldedSetIterable i1 env x
  let _ ← runOwn (.compStart e 1 (← holding [x] (pyIter x)) acc env) env
  k
def tInner (wi1 : TI) (g1 : TG) (tt1 : TT) (tb : TB) (vs1 : List Nat) : TB := fun σ H N => wi1 σ H fun J1 H4 => tLoop J1 g1 tt1 tb vs1 σ H4 N
section
variable {kx vx tg iter tg1 iter1 : Expr} {ifs ifs1 : List Expr} {scope : Scope} {pos : Pos}
/-- {k: v for a in b for c in d if ..} -/
def tDc2 (wi : TI) (g : TG) (wi1 : TI) (g1 : TG) (tt1 : TT) (tk tv : TE) (vs vs1 : List Nat) : TE := fun σ H Q => wi σ H fun J H1 => ∀ D, H1 D = none → tLoop J g tYes (tInner wi1 g1 tt1 (tEmit D tk tv) vs1) vs σ (upd H1 D (.dK [])) fun H => Q (.ref D) H
abbrev Blks (X : Cx) (scope : Scope) (p : Cx → Prop) : Prop := ∀ (s : Shared) (H : Hp) (C : Addr) (cl : List (Str × Addr)) (fp : List Addr), p (X.blk s H scope (compEnvC scope cl C X.env) fp)
end
/-! ### the reading of {k: v for x in a for y in b if t} -/
def dc2D (gg : GF) (fi1 : IF) (gg1 : GF) (tt : TF) (fk fv : EF) (own own1 : List Nat) : List D → Env → List (Key × D) → Option (List (Key × D) × Env)
  | [], env, acc => some (acc, env)
  | d :: ds, env, acc => (gg d env).bind fun e1 => (fi1 e1).bind fun p => (dcD gg1 tt fk fv own1 p.1 (wipeE p.2 own1) acc).bind fun r => dc2D gg fi1 gg1 tt fk fv own own1 ds (wipeE r.2 own) r.1
def oDc2 (i : IF) (gg : GF) (fi1 : IF) (gg1 : GF) (tt : TF) (fk fv : EF) (own own1 : List Nat) : OF := fun env => (i env).bind fun p => (dc2D gg fi1 gg1 tt fk fv own own1 p.1 (wipeE p.2 own) []).bind fun r => gd (r.1.length + 1) (some (.dic r.1, backE p.2 own r.2))
section
variable {m : Bool} {X : Cx} {C : CA} {c : Cs}
end
end DL

namespace DL
open PySem L2
section
variable {m : Bool} {X : Cx} {C : CA} {c : Cs} {e a b : Expr} {pos : Pos}
/-! ### x, y, z = a, b, e where x and y may be new objects -/
def sPar3O (i j l : Nat) (f g h : OF) : SF := fun env => (f env).bind fun p => (g p.2).bind fun q => (h q.2).bind fun r => some (.nx (st (st (st r.2 i (some p.1)) j (some q.1)) l (some r.1)))
theorem par3_core {oi oj : Bool} {fi fj fl : OF} {i j l : Nat} {σ : St} {H : Hp} {R : V → V → V → Hp → Prop} {z : Zn} {F : Hp} {env env' : Env} (S : SR X.K C c z F env σ H) (hij : i ≠ j) (hi : if oi = true then i ∈ c.O ∧ i ∉ c.io else i ∉ c.O) (hni : i < c.n) (hj : if oj = true then j ∈ c.O ∧ j ∉ c.io else j ∉ c.O) (hnj : j < c.n) (hl : l ∉ c.O) (hnl : l < c.n)
    (e : sPar3O i j l fi fj fl env = some (.nx env')) (k : ∀ v w u F' H', Same F F' → SR X.K C c z F' env' (((σ.set i (some v)).set j (some w)).set l (some u)) H' → R v w u H') : tX oi X.K C c fi σ H fun v H1 => tX oj X.K C c fj σ H1 fun w H2 => tX false X.K C c fl σ H2 fun u H3 => R v w u H3 := by
  simp only [sPar3O, Option.bind_eq_some_iff] at e
  obtain ⟨⟨d1, e1⟩, h1, ⟨d2, e2⟩, h2, ⟨d3, e3⟩, h3, e⟩ := e
  cases e
  refine ⟨z, F, env, d1, e1, S, h1, fun v F1 H1 s1 S1 r1 => ?_⟩
  cases oi with
  | false =>
    have r1 : Rp X.K C F1 v d1 := r1
    refine ⟨z, F1, e1, d2, e2, S1, h2, fun w F2 H2 s2 S2 r2 => ?_⟩
    cases oj with
    | false =>
      have r2 : Rp X.K C F2 w d2 := r2
      exact ⟨z, F2, e2, d3, e3, S2, h3, fun u F3 H3 s3 S3 r3 => k v w u F3 H3 (s1.trans (s2.trans s3)) (((S3.setP hi hni (Rp.mono (s2.trans s3) r1)).setP hj hnj (Rp.mono s3 r2)).setP hl hnl r3)⟩
    | true =>
      obtain ⟨b, rfl, fb, zb, owb, apb, ngb⟩ := r2
      refine ⟨_, F2, e2, d3, e3, S2.ghost fb zb owb apb ngb, h3, fun u F3 H3 s3 S3 r3 => k v _ u F3 H3 (s1.trans (s2.trans s3)) ?_⟩
      obtain ⟨S4, fb, zb, owb, apb, ngb⟩ := S3.unghost
      have S5 := S4.setP (i := i) hi hni (Rp.mono (s2.trans s3) r1)
      exact (S5.setO hj.1 hj.2 hnj fb zb owb (S4.aptP hi hni apb) ngb).setP hl hnl r3
  | true =>
    obtain ⟨a, rfl, fa, za, owa, apa, nga⟩ := r1
    refine ⟨_, F1, e1, d2, e2, S1.ghost fa za owa apa nga, h2, fun w F2 H2 s2 S2 r2 => ?_⟩
    cases oj with
    | false =>
      have r2 : Rp X.K C F2 w d2 := r2
      refine ⟨_, F2, e2, d3, e3, S2, h3, fun u F3 H3 s3 S3 r3 => k _ w u F3 H3 (s1.trans (s2.trans s3)) ?_⟩
      obtain ⟨S4, fa, za, owa, apa, nga⟩ := S3.unghost
      exact ((S4.setO hi.1 hi.2 hni fa za owa apa nga).setP hj hnj (Rp.mono s3 r2)).setP hl hnl r3
    | true =>
      obtain ⟨b, rfl, fb, zb, owb, apb, ngb⟩ := r2
      refine ⟨_, F2, e2, d3, e3, S2.ghost fb zb owb apb ngb, h3, fun u F3 H3 s3 S3 r3 => k _ _ u F3 H3 (s1.trans (s2.trans s3)) ?_⟩
      obtain ⟨S4, fb, zb, owb, apb, ngb⟩ := S3.unghost
      obtain ⟨S5, fa, za, owa, apa, nga⟩ := S4.unghost
      have hba : b ≠ a := fun q => ngb d1 (q ▸ List.mem_cons_self ..)
      have S6 := S5.setO hi.1 hi.2 hni fa za owa apa nga
      exact (S6.setO hj.1 hj.2 hnj fb zb owb (S5.aptO hni hba apb) fun e h => ngb e (List.mem_cons_of_mem _ h)).setP hl hnl r3
theorem ds_par3O {oi oj : Bool} {fi fj fl : OF} (i j l : Nat) {x y z : Str} {px py pz pt : Pos} {kt k2 : Nat} {pt2 : Pos} (hN : X.N.Nodup) (hi : if oi = true then i ∈ c.O ∧ i ∉ c.io else i ∉ c.O) (hj : if oj = true then j ∈ c.O ∧ j ∉ c.io else j ∉ c.O) (h1 : DX oi X C c a fi) (h2 : DX oj X C c b fj) (h3 : DX false X C c e fl) (hl : l ∉ c.O := by decide)
    (hni : i < c.n := by decide) (hnj : j < c.n := by decide) (hnl : l < c.n := by decide) (hxi : X.N[i]? = some x := by rfl) (hyj : X.N[j]? = some y := by rfl) (hzl : X.N[l]? = some z := by rfl) (hij : i ≠ j := by decide) (hil : i ≠ l := by decide) (hjl : j ≠ l := by decide)
    (hx : X.env.scope.names.lookup x = some .local := by rfl) (hy : X.env.scope.names.lookup y = some .local := by rfl) (hz : X.env.scope.names.lookup z = some .local := by rfl) (hc : X.calm = true := by rfl)
    (hw : swappedStores [.Tuple [.Name x px, .Name y py, .Name z pz] kt pt] (.Tuple [a, b, e] k2 pt2) X.env = pure (some [x, y, z]) := by rfl) (hs : swapsWithSole [.Tuple [.Name x px, .Name y py, .Name z pz] kt pt] (.Tuple [a, b, e] k2 pt2) pos.line X.env = pure false := by rfl)
    (hs1 : starEach (a :: [b, e]) X.env = (false, eval a X.env) :: starEach [b, e] X.env := by rfl) (hs2 : starEach (b :: [e]) X.env = (false, eval b X.env) :: starEach [e] X.env := by rfl) (hs3 : starEach (e :: []) X.env = (false, eval e X.env) :: starEach [] X.env := by rfl) :
    DS m X C c (.Assign [.Tuple [.Name x px, .Name y py, .Name z pz] kt pt] (.Tuple [a, b, e] k2 pt2) pos) (sPar3O i j l fi fj fl) := by
  refine PS.imp (ps_par3 hc hN hxi hyj hzl hij hil hjl hx hy hz (pa_cons h1 (pa_cons h2 (pa_cons h3 pa_nil hs3) hs2) hs1) hw hs) fun Dn σ H ⟨z, F, env, fl, S, hg, e, k⟩ => ?_
  have e0 := e
  simp only [sPar3O, Option.bind_eq_some_iff] at e
  obtain ⟨⟨d1, e1⟩, q1, ⟨d2, e2⟩, q2, ⟨d3, e3⟩, q3, e⟩ := e
  cases e
  exact par3_core (R := fun v w u H' => ∃ v1 w1 u1, [v, w, u] = [v1, w1, u1] ∧ Dn.nx (((σ.set i (some v1)).set j (some w1)).set l (some u1)) H') S hij hi hni hj hnj hl hnl e0 fun v w u F' H' s' S' => ⟨v, w, u, rfl, k F' _ H' s' S'⟩
end
end DL

namespace DL
open PySem PySem.Spec PyProof.Rows L2
/-! ### set(xs) of a list: made, then filled by a walk -/
section
variable {P : Program} {w : World} {A : Around} {E : Value → Shared → Prop} {s : Shared}
/-- the empty set as it is made -/
abbrev setO0 (w : World) : Obj := { cls := .type "set", dict := none, data := .set #[] 0 (.fresh 0 0 (!w.params.followText "set-order")) }
/-- the heap where the filling starts -/
abbrev fillH (w : World) (h : Heap) (l : Addr) : Heap := (h.push (setO0 w)).push { cls := .type "list_iterator", data := .fields #[.ref l, .int 0 0] }
/-- how a list's items fill a set -/
def Fills (P : Program) (w : World) (E : Value → Shared → Prop) (s : Shared) (l : Addr) (Fd : Heap → Prop) : Prop :=
  ∀ (B : Around) (R : Result → Shared → Prop) (t : Shared), B.handled = none → t.heap = fillH w s.heap l →
    (∀ t', t'.gens = t.gens → t'.drawn = t.drawn → t'.os = t.os → Fd t'.heap → (∀ b o, b ≠ s.heap.objs.size → b ≠ s.heap.objs.size + 1 → t.heap.get? b = some o → t'.heap.get? b = some o) → R (.ok (.ret .none)) t') →
    codeAny (model P w) B (.builtin "set.update.loop" ⟨[.ref s.heap.objs.size, .ref (s.heap.objs.size + 1)], []⟩) R t
set_option maxHeartbeats 3200000 in
end
end DL

namespace DL
open PySem L2
/-! ### reading the functions -/
/-! ### the ways in which a list can be mixed -/
def mixes : Nat → List D → List (List D)
  | 0, _ => [[]]
  | n + 1, xs => (List.range (n + 1)).flatMap fun i => match xs[i]? with
    | some x => (mixes n (xs.eraseIdx i)).map fun r => x :: r
    | none => []
/-- out is a mix of xs: the items are taken one behind another -/
inductive Mix : List D → List D → Prop
  | nil : Mix [] []
  | cons {xs : List D} {i : Nat} {x : D} {out : List D} : xs[i]? = some x → Mix (xs.eraseIdx i) out → Mix xs (x :: out)
theorem Mix.mem {xs out : List D} (h : Mix xs out) : ∀ d ∈ out, d ∈ xs := by
  induction h with
  | nil => exact fun d h => h
  | cons h1 _ ih =>
    intro d hd
    rcases List.mem_cons.mp hd with q | q
    · subst q; exact List.mem_of_getElem? h1
    · exact (List.eraseIdx_subset) (ih d q)
theorem get_erase_perm : ∀ (xs : List D) (i : Nat) (lt : i < xs.length), (xs[i] :: xs.eraseIdx i).Perm xs
  | x :: xs, 0, _ => List.Perm.refl _
  | x :: xs, i + 1, lt => by
    have := get_erase_perm xs i (by simpa using lt)
    exact (List.Perm.swap ..).trans (List.Perm.cons x this)
theorem Mix.perm {xs out : List D} (h : Mix xs out) : out.Perm xs := by
  induction h with
  | nil => exact .nil
  | @cons xs i x out h1 _ ih =>
    obtain ⟨lt, e⟩ := List.getElem?_eq_some_iff.mp h1
    subst e
    exact (List.Perm.cons _ ih).trans (get_erase_perm xs i lt)
theorem Mix.length {xs out : List D} (h : Mix xs out) : out.length = xs.length := h.perm.length_eq
theorem Mix.mixes {xs out : List D} (h : Mix xs out) : ∀ n, xs.length = n → out ∈ mixes n xs := by
  induction h with
  | nil => intro n hn; subst hn; simp [DL.mixes]
  | @cons xs i x out h1 _ ih =>
    intro n hn
    have lt : i < xs.length := (List.getElem?_eq_some_iff.mp h1).1
    cases n with
    | zero => omega
    | succ n =>
      simp only [DL.mixes, List.mem_flatMap, List.mem_range]
      refine ⟨i, by omega, ?_⟩
      rw [h1]
      exact List.mem_map.mpr ⟨out, ih n (by rw [List.length_eraseIdx]; split <;> omega), rfl⟩
/-- a box: the state of the law's numbers -/
def Bx (d : D) : Prop := ∃ a b t : Int, d = .lst [.int a, .int b, .int t] ∧ 0 ≤ b ∧ b < 4294967296
end DL

namespace DL
open PySem L2
theorem neD_int (i j : Int) : neD (.int i) (.int j) = some (.bl (!(i == j))) := rfl
theorem eqD_int (i j : Int) : eqD (.int i) (.int j) = some (.bl (i == j)) := rfl
/-- ties that are ties of n posts -/
def VT (n : Int) (ts : List (Int × Int)) : Prop := ∀ q ∈ ts, 0 ≤ q.1 ∧ q.1 < n ∧ 0 ≤ q.2 ∧ q.2 < n ∧ q.1 ≠ q.2
end DL
namespace DL
def upN (n : Nat) : List Int := (List.range n).map fun (i : Nat) => (i : Int)
/-- every post but the first has a tie to a lower one -/
def Joined (n : Nat) (ts : List (Int × Int)) : Prop := ∀ p : Nat, 0 < p → p < n → ∃ q ∈ ts, (q.2 = (p : Int) ∧ 0 ≤ q.1 ∧ q.1 < (p : Int)) ∨ (q.1 = (p : Int) ∧ 0 ≤ q.2 ∧ q.2 < (p : Int))
theorem iR1_ok {fa : AF} {env e' : Env} {bs : List B} {j : Int} (h : fa env = some (bs, e')) (h2 : rdAll e' bs = some [.int j]) (hj : -1000000 ≤ j) (hj2 : j ≤ 1000000) : iR1 fa env = some (rngD 0 j.toNat, e') := by
  unfold iR1
  rw [h]
  simp only [Option.bind_some]
  rw [h2]
  simp only [Option.bind_some]
  rw [if_pos (by omega)]
  unfold gd
  rw [if_pos (by omega)]
/-- all posts hang together -/
def Conn (n : Nat) (ts : List (Int × Int)) : Prop := ∀ ks : List Int, (0 : Int) ∈ ks → (∀ v ∈ ks, ∀ q ∈ ts, (q.1 = v → q.2 ∈ ks) ∧ (q.2 = v → q.1 ∈ ks)) → ∀ p : Nat, p < n → (p : Int) ∈ ks
theorem Conn.perm {n : Nat} {ts us : List (Int × Int)} (h : Conn n ts) (p : us.Perm ts) : Conn n us := fun ks h0 hc => h ks h0 fun v hv q hq => hc v hv q (p.mem_iff.mpr hq)
theorem Conn.more {n : Nat} {ts us : List (Int × Int)} (h : Conn n ts) (p : ∀ q ∈ ts, q ∈ us) : Conn n us := fun ks h0 hc => h ks h0 fun v hv q hq => hc v hv q (p q hq)
end DL

namespace DL
open PySem L2
/-! ### reading the functions step by step -/
section
variable {env e e1 e2 e3 : Env} {f g h : EF} {fa : AF} {ff : FF} {op : D → D → Option D} {i np : Nat} {d x y r : D} {b b1 b2 : B} {bs : List B} {ds dd outs : List D} {k : Bool} {t t1 t2 : TF} {s s1 s2 : SF} {fl : Fl}
theorem r_V (hh : gt env i = some d) : fV i env = some (.val d, env) := by simp [fV, hh]
theorem r_S (hh : gt env i = some d) : fS i env = some (.slot i, env) := by simp [fS, hh]
theorem r_2 (h1 : f env = some (b1, e1)) (h2 : g e1 = some (b2, e2)) (hx : rdB e2 b1 = some x) (hy : rdB e2 b2 = some y) (ho : op x y = some d) : f2 op f g env = some (.val d, e2) := by simp [f2, h1, h2, hx, hy, ho]
theorem r_T (h1 : f env = some (.val (.bl k), e1)) : fTst f env = some (k, e1) := by simp [fTst, h1, isB]
theorem r_not (h1 : t env = some (k, e1)) : fNot t env = some (!k, e1) := by simp [fNot, h1]
theorem r_notV (h1 : f env = some (.val (.bl k), e1)) : fNotV f env = some (.val (.bl (!k)), e1) := by simp [fNotV, r_T h1]
theorem r_andF (h1 : t1 env = some (false, e1)) : fAnd t1 t2 env = some (false, e1) := by simp [fAnd, h1]
theorem r_andT (h1 : t1 env = some (true, e1)) (h2 : t2 e1 = some (k, e2)) : fAnd t1 t2 env = some (k, e2) := by simp [fAnd, h1, h2]
theorem r_orT (h1 : t1 env = some (true, e1)) : fOr t1 t2 env = some (true, e1) := by simp [fOr, h1]
theorem r_orF (h1 : t1 env = some (false, e1)) (h2 : t2 e1 = some (k, e2)) : fOr t1 t2 env = some (k, e2) := by simp [fOr, h1, h2]
theorem r_andVF (h1 : f env = some (.val (.bl false), e1)) : fAndV f g env = some (.val (.bl false), e1) := by simp [fAndV, r_T h1]
theorem r_andVT (h1 : f env = some (.val (.bl true), e1)) (h2 : g e1 = some (b, e2)) : fAndV f g env = some (b, e2) := by simp [fAndV, r_T h1, h2]
theorem r_orVT (h1 : f env = some (.val (.bl true), e1)) : fOrV f g env = some (.val (.bl true), e1) := by simp [fOrV, r_T h1]
theorem r_orVF (h1 : f env = some (.val (.bl false), e1)) (h2 : g e1 = some (b, e2)) : fOrV f g env = some (b, e2) := by simp [fOrV, r_T h1, h2]
theorem r_ifT (h1 : t env = some (true, e1)) (h2 : f e1 = some (b, e2)) : fIf t f g env = some (b, e2) := by simp [fIf, h1, h2]
theorem r_ifF (h1 : t env = some (false, e1)) (h2 : g e1 = some (b, e2)) : fIf t f g env = some (b, e2) := by simp [fIf, h1, h2]
theorem r_aN : aN env = some ([], env) := rfl
theorem r_aC (h1 : f env = some (b, e1)) (h2 : fa e1 = some (bs, e2)) : aC f fa env = some (b :: bs, e2) := by simp [aC, h1, h2]
theorem r_tup (h1 : fa env = some (bs, e1)) (h2 : vals bs = some ds) (hl : ds.length ≤ 16777216) : fTup fa env = some (.val (.tup ds), e1) := by simp [fTup, h1, h2, gd, hl]
theorem r_lst (h1 : fa env = some (bs, e1)) (h2 : vals bs = some ds) (hl : ds.length ≤ 16777216) : oLst fa env = some (.lst ds, e1) := by simp [oLst, h1, h2, gd, hl]
theorem r_O {fo : OF} (h1 : fo env = some (d, e1)) : fO fo env = some (.val d, e1) := by simp [fO, h1]
theorem r_P (h1 : f env = some (.val d, e1)) : oP f env = some (d, e1) := by simp [oP, h1]
theorem r_B {o : List D → Option D} (h1 : fa env = some (bs, e1)) (h2 : rdAll e1 bs = some ds) (ho : o ds = some d) : fB o fa env = some (.val d, e1) := by simp [fB, h1, h2, ho]
theorem r_OB {o : List D → Option D} (h1 : fa env = some (bs, e1)) (h2 : rdAll e1 bs = some ds) (ho : o ds = some d) : oB o fa env = some (d, e1) := by simp [oB, h1, h2, ho]
theorem r_C0 (h1 : fa env = some (bs, e1)) (h2 : vals bs = some ds) (h3 : ff (ds ++ dd) = some (d, outs)) (hl : (ds ++ dd).length = np) : fC0 np ff dd fa env = some (.val d, e1) := by
  unfold fC0
  rw [h1]
  simp only [Option.bind_some]
  rw [h2]
  simp only [Option.bind_some]
  rw [if_pos hl, h3]
  rfl
theorem r_OC0 (h1 : fa env = some (bs, e1)) (h2 : vals bs = some ds) (h3 : ff (ds ++ dd) = some (d, outs)) (hl : (ds ++ dd).length = np) : oC0 np ff dd fa env = some (d, e1) := by
  unfold oC0
  rw [h1]
  simp only [Option.bind_some]
  rw [h2]
  simp only [Option.bind_some]
  rw [if_pos hl, h3]
  rfl
theorem r_C1 (h1 : fa env = some (bs, e1)) (h2 : ioArgs e1 bs = some (i, ds)) (h3 : ff ds = some (d, [x])) (hl : ds.length = np) (hE : st e1 i (some x) = e2) : fC1 np ff fa env = some (.val d, e2) := by
  subst hE
  unfold fC1
  rw [h1]
  simp only [Option.bind_some]
  rw [h2]
  simp only [Option.bind_some]
  rw [if_pos hl, h3]
  rfl
theorem r_OC1 (h1 : fa env = some (bs, e1)) (h2 : ioArgs e1 bs = some (i, ds)) (h3 : ff ds = some (d, [x])) (hl : ds.length = np) (hE : st e1 i (some x) = e2) : oC1 np ff fa env = some (d, e2) := by
  subst hE
  unfold oC1
  rw [h1]
  simp only [Option.bind_some]
  rw [h2]
  simp only [Option.bind_some]
  rw [if_pos hl, h3]
  rfl
theorem r_Mk {kk : Nat} (h1 : fa env = some (bs, e1)) (h2 : vals bs = some ds) (h3 : ff (.obj kk [] :: (ds ++ dd)) = some (.non, [d])) (hl : (D.obj kk [] :: (ds ++ dd)).length = np) : oMk kk np ff dd fa env = some (d, e1) := by
  unfold oMk
  rw [h1]
  simp only [Option.bind_some]
  rw [h2]
  simp only [Option.bind_some]
  rw [if_pos hl, h3]
  rfl
theorem r_X {xs : List D} (h1 : f env = some (.val d, e1)) (h2 : itms d = some xs) : iX f env = some (xs, e1) := by simp [iX, h1, h2]
theorem r_En {xs : List D} (h1 : f env = some (.val d, e1)) (h2 : itmsS d = some xs) : iEn f env = some (enumL xs, e1) := by simp [iEn, h1, h2]
theorem r_Lc {it : IF} {gg : GF} {tt : TF} {own : List Nat} {xs ys : List D} (h1 : it env = some (xs, e1)) (h2 : lcD gg tt f own xs (wipeE e1 own) [] = some (ys, e2)) (h3 : backE e1 own e2 = e3) : oLc it gg tt f own env = some (.lst ys, e3) := by
  unfold oLc
  rw [h1]
  simp only [Option.bind_some]
  rw [h2]
  simp only [Option.bind_some]
  rw [h3]
theorem r_set (h1 : f env = some (.val d, e1)) (hE : st e1 i (some d) = e2) : sSet i f env = some (.nx e2) := by simp [sSet, h1, hE]
theorem r_setO {fo : OF} (h1 : fo env = some (d, e1)) (hE : st e1 i (some d) = e2) : sSetO i fo env = some (.nx e2) := by simp [sSetO, h1, hE]
theorem r_par {i j : Nat} {fo go : OF} (h1 : fo env = some (x, e1)) (h2 : go e1 = some (y, e2)) (hE : st (st e2 i (some x)) j (some y) = e3) : sPar i j fo go env = some (.nx e3) := by simp [sPar, h1, h2, hE]
theorem r_par3 {i j l : Nat} {d1 d2 d3 : D} (h1 : fa env = some (bs, e1)) (h2 : vals bs = some [d1, d2, d3]) (hE : st (st (st e1 i (some d1)) j (some d2)) l (some d3) = e2) : sPar3 i j l fa env = some (.nx e2) := by
  subst hE
  unfold sPar3
  rw [h1]
  simp only [Option.bind_some]
  rw [h2]
  rfl
theorem r_sT (h1 : t env = some (true, e1)) (h2 : s1 e1 = some fl) : sIf t s1 s2 env = some fl := by simp [sIf, h1, h2]
theorem r_sF (h1 : t env = some (false, e1)) (h2 : s2 e1 = some fl) : sIf t s1 s2 env = some fl := by simp [sIf, h1, h2]
theorem r_Q (h1 : s1 env = some (.nx e1)) (h2 : s2 e1 = some fl) : sQ s1 s2 env = some fl := by simp [sQ, h1, h2]
theorem r_N : sN env = some (.nx env) := rfl
theorem r_R (h1 : f env = some (.val d, e1)) : sR f env = some (.rt d e1) := by simp [sR, h1]
theorem r_for {it : IF} {gg : GF} {xs : List D} (h1 : it env = some (xs, e1)) (h2 : forD gg s xs e1 = some fl) : sFor it gg s env = some fl := by
  unfold sFor
  rw [h1]
  exact h2
theorem r_asg {gg : GF} (h1 : f env = some (.val d, e1)) (h2 : gg d e1 = some e2) : sAsg f gg env = some (.nx e2) := by simp [sAsg, h1, h2]
theorem r_run {c : Cs} {fb : SF} (h1 : fb (env0 c.n ds) = some fl) (h2 : endF c.io fl = some (d, outs)) : runF c fb ds = some (d, outs) := by
  unfold runF
  rw [h1]
  exact h2
theorem r_Is {T : String} (h1 : f env = some (b, e1)) (h2 : rdB e1 b = some d) (h3 : instB T d = some k) : fIs T f env = some (.val (.bl k), e1) := by simp [fIs, h1, h2, h3]
theorem r_frz (h1 : s env = some fl) : sFrz i s env = some (fl.wipe i) := by simp [sFrz, h1]
end
end DL

namespace DL
open PySem L2
/-! ### more steps -/
section
variable {env e1 e2 e3 : Env} {f g h : EF} {fa : AF} {i : Nat} {d x y : D} {b b1 b2 : B} {bs : List B} {ds xs : List D} {k : Bool}
theorem r_par3O {i j l : Nat} {fo go ho : OF} {d3 : D} {e4 : Env} (h1 : fo env = some (x, e1)) (h2 : go e1 = some (y, e2)) (h3 : ho e2 = some (d3, e3)) (hE : st (st (st e3 i (some x)) j (some y)) l (some d3) = e4) : sPar3O i j l fo go ho env = some (.nx e4) := by simp [sPar3O, h1, h2, h3, hE]
theorem r_forC {gg : GF} {s : SF} {fl : Option Fl} (h1 : gg d env = some e1) (h2 : s e1 = some (.nx e2)) (h3 : forD gg s ds e2 = fl) : forD gg s (d :: ds) env = fl := by
  simp only [forD, h1, Option.bind_some, h2, h3]
theorem r_Ext {ys : List D} (h0 : gt env i = some (.lst xs)) (h1 : f env = some (b, e1)) (h2 : rdB e1 b = some (.lst ys)) (h3 : gt e1 i = some (.lst xs)) (hl : xs.length + ys.length ≤ 16777216) (hE : st e1 i (some (.lst (xs ++ ys))) = e2) : fExt i f env = some (.val .non, e2) := by
  unfold fExt
  rw [h0]
  simp only [Option.bind_some, isLst, if_true]
  rw [h1]
  simp only [Option.bind_some]
  rw [h2, h3]
  simp only [Option.bind_some, gd]
  rw [if_pos hl, hE]
theorem vals_map : ∀ ds : List D, vals (ds.map B.val) = some ds
  | [] => rfl
  | d :: ds => by
    have ih := vals_map ds
    simp only [List.map_cons, vals, ih, Option.bind_some]
theorem r_C0e {ff : FF} {np : Nat} {outs : List D} (h1 : fa env = some (ds.map B.val, e1)) (h3 : ff ds = some (d, outs)) (hl : ds.length = np) : fC0 np ff [] fa env = some (.val d, e1) := by
  unfold fC0
  rw [h1]
  simp only [Option.bind_some]
  rw [vals_map]
  simp only [Option.bind_some, List.append_nil]
  rw [if_pos hl, h3]
  rfl
theorem r_RO {fo : OF} (h : fo env = some (d, e1)) : sRO fo env = some (.rt d e1) := by simp [sRO, h]
theorem r_sXL (h : f env = some (b, e1)) : sX f env = some (.nx e1) := by simp [sX, h]
theorem r_MtL {op : D → List D → Option (D × D)} {dc d2 : D} (h0 : gt env i = some (.lst xs)) (h1 : fa env = some (bs, e1)) (h2 : vals bs = some ds) (h3 : gt e1 i = some dc) (h4 : op dc ds = some (d, d2)) (hE : st e1 i (some d2) = e2) : fMt i op fa env = some (.val d, e2) := by
  simp [fMt, h0, h1, h2, h3, h4, hE, isLst]
theorem r_Z (h1 : fa env = some (bs, e1)) (h2 : vals bs = some ds) (h3 : zipD ds = some xs) : iZ fa env = some (xs, e1) := by simp [iZ, h1, h2, h3]
theorem r_ChT {o o' : D → D → Option D} {y' w d' : D} (h1 : f env = some (b, e1)) (h2 : g e1 = some (b1, e2)) (hx : rdB e2 b = some x) (hy : rdB e2 b1 = some y) (ho : o x y = some (.bl true)) (h3 : h e2 = some (b2, e3)) (hy' : rdB e3 b1 = some y') (hw : rdB e3 b2 = some w) (ho' : o' y' w = some d') : fCh o o' f g h env = some (.val d', e3) := by
  simp [fCh, h1, h2, hx, hy, ho, isB, h3, hy', hw, ho']
theorem r_ChF {o o' : D → D → Option D} (h1 : f env = some (b, e1)) (h2 : g e1 = some (b1, e2)) (hx : rdB e2 b = some x) (hy : rdB e2 b1 = some y) (ho : o x y = some (.bl false)) : fCh o o' f g h env = some (.val (.bl false), e2) := by
  simp [fCh, h1, h2, hx, hy, ho, isB]
theorem r_Me {kk : Nat} {nm : Str} {np : Nat} {ff : FF} {dd outs : List D} {fo : EF} {fs : List (Str × D)} (h0 : fo env = some (.val (.obj kk fs), e1)) (hn : fs.lookup nm = none) (h1 : fa e1 = some (bs, e2)) (h2 : vals bs = some ds) (h3 : ff (.obj kk fs :: (ds ++ dd)) = some (d, outs)) (hl : (D.obj kk fs :: (ds ++ dd)).length = np) : fMe kk nm np ff dd fo fa env = some (.val d, e2) := by
  unfold fMe
  rw [h0]
  simp only [Option.bind_some]
  rw [if_pos ⟨trivial, hn⟩, h1]
  simp only [Option.bind_some]
  rw [h2]
  simp only [Option.bind_some]
  rw [if_pos hl, h3]
  rfl
theorem r_At {kk : Nat} {nm : Str} (h1 : f env = some (b, e1)) (h2 : rdB e1 b = some x) (h3 : attrD kk nm x = some d) : fAt kk nm f env = some (.val d, e1) := by
  simp [fAt, h1, h2, h3]
/-! ### keys of ints -/
def ksD (ks : List Int) : List (Key × D) := ks.map fun k => ((.inl k : Key), D.bl true)
def addK (ks : List Int) (v : Int) : List Int := if v ∈ ks then ks else ks ++ [v]
end
/-! ### data of ints -/
end DL

namespace DL
open PySem PySem.Spec PyProof.Rows L2
/-! ### distinct ones -/
def ddp {α : Type} [DecidableEq α] (xs : List α) : List α := xs.foldl (fun acc x => if x ∈ acc then acc else acc ++ [x]) []
section
variable {α : Type} [DecidableEq α]
end
/-! ### texts fill a set -/
section
variable {P : Program} {w : World} {A : Around} {E : Value → Shared → Prop} {s : Shared}
end
/-! ### the rules -/
/-- the set of texts at a -/
def SetS (P : Program) (w : World) (a : Addr) (xs : List Str) : HO := .ext fun h => h.SetOf (PySem.strKind P w) a (fun j => decide (j ∈ ddp xs)) (ddp xs).length
section
variable {X : Cx}
def rSetI (w : World) (K : PySem.W.Frag) : List V → Hp → VK → Prop := fun vs H Q => ∃ a ns, vs = [V.ref a] ∧ SqL K H a (ns.map V.int) ∧ ns.length < 4000 ∧ ∀ p, H p = none → Q (.ref p) (upd H p (SetO w p (fun j => decide (j ∈ ns)) (ddp ns).length))
def rSetS (P : Program) (w : World) (K : PySem.W.Frag) : List V → Hp → VK → Prop := fun vs H Q => ∃ a xs, vs = [V.ref a] ∧ SqL K H a (xs.map V.str) ∧ xs.length < 4000 ∧ ∀ p, H p = none → Q (.ref p) (upd H p (SetS P w p xs))
/-- len of a set -/
def rLenSt (P : Program) (w : World) : List V → Hp → VK → Prop := fun vs H Q => ∃ a n, vs = [V.ref a] ∧ ((∃ S, H a = some (SetO w a S n)) ∨ ∃ xs, H a = some (SetS P w a xs) ∧ n = (ddp xs).length) ∧ Q (.int (n : Nat)) H
end
section
variable {X : Cx} {C : CA} {c : Cs} {e : Expr} {fa : AF} {pos p p2 q : Pos}
def strsD : List D → Option (List Str)
  | [] => some []
  | .str x :: ds => (strsD ds).bind fun xs => some (x :: xs)
  | _ => none
theorem strsD_rp {K : PySem.W.Frag} {F : Hp} : ∀ {vs : List V} {ds : List D} {xs : List Str}, RpAll K C F vs ds → strsD ds = some xs → vs = xs.map V.str
  | _, _, _, .nil, e => by cases e; rfl
  | _, _, _, .cons (d := d) h t, e => by
    obtain ⟨x, rfl⟩ : ∃ x, d = .str x := by cases d <;> first | exact ⟨_, rfl⟩ | (exfalso; simp [strsD] at e; done)
    obtain ⟨ys, h1, e⟩ := Option.bind_eq_some_iff.mp e
    cases e
    cases h
    rw [strsD_rp t h1]
    rfl
/-- len(set(xs)) -/
def lenSetD : List D → Option D
  | [.lst ds] => match intsD ds with
    | some ns => if ns.length < 4000 then some (.int ((ddp ns).length : Nat)) else none
    | none => match strsD ds with
      | some xs => if xs.length < 4000 then some (.int ((ddp xs).length : Nat)) else none
      | none => none
  | _ => none
/-- sorted(set(xs)) -/
def sortSetD : List D → Option D
  | [.lst ds] => (intsD ds).bind fun ns => if ns.length < 4000 ∧ (ddp ns).length < 64 then some (.lst ((sortI (ddp ns)).map D.int)) else none
  | _ => none
end
end DL

namespace DL
open PySem PySem.Spec PyProof.Rows L2
/-! ### x = {k: v for ..} where x is a plain local -/
section
variable {kx vx tg iter tg1 iter1 : Expr} {ifs ifs1 : List Expr} {scope : Scope} {pos : Pos}
end
/-- once the statement is through, an object may be locked -/
theorem PS.fz {X : Cx} {st : Stmt} {t : TS} (h : PS X st t) : PS X st (fun Dn σ H => t { Dn with nx := fun σ1 H1 => ∃ a u, H1 a = some u ∧ ∀ u', Fz u u' → Dn.nx σ1 (upd H1 a u') } σ H) :=
  ⟨fun pins s σ H Dn I q => thn (h.run pins s σ H _ I q) fun f s1 z => by
    cases f with
    | next =>
      obtain ⟨σ1, H1, I1, a, u, hu, q1⟩ := z
      obtain ⟨u', fz, I2⟩ := Inv_fz I1 hu
      exact ⟨σ1, _, I2, q1 u' fz⟩
    | brk => exact z
    | cont => exact z
    | ret v => exact z⟩
section
variable {m : Bool} {X : Cx} {C : CA} {c : Cs}
end
end DL

namespace DL
open PySem PySem.Spec PyProof.Rows L2
/-! ### lists of unlike lengths, whatever is in them -/
section
variable {X : Cx} {C : CA}
def rLenNe (K : PySem.W.Frag) (b : Bool) : R2 := fun x y H Q => ∃ a1 a2 xs ys, x = .ref a1 ∧ y = .ref a2 ∧ SqL K H a1 xs ∧ SqL K H a2 ys ∧ xs.length ≠ ys.length ∧ Q (.bl b) H
def neLD (x y : D) : Option D := match x, y with
  | .lst xs, .lst ys => if xs.length ≠ ys.length then some (.bl true) else none
  | _, _ => none
def neX (x y : D) : Option D := (neD x y).or (neLD x y)
end
/-! ### str(i) of a whole number -/
section
variable {X : Cx} {C : CA}
def strI : List D → Option D
  | [.int i] => if i.natAbs.log2 < 1920 then some (.str (toString i)) else none
  | _ => none
theorem cd_strI : CallD X C (.type "str") strI := by
  refine ⟨_, call_str_int, fun F H vs ds d Q s r e k => ?_⟩
  unfold strI at e
  split at e
  · next i =>
    split at e
    · next h =>
      cases e
      cases r with
      | cons r1 r2 =>
        cases r2
        rw [r1.int]
        exact ⟨i, rfl, h, k _ F H (Ext.rfl' s) (.str _)⟩
    · cases e
  · cases e
/-! ### [..] * n: a new list -/
variable {c : Cs} {a b : Expr} {f g : EF} {pos : Pos}
def oMulL (f g : EF) : OF := fun env => (f env).bind fun p => (g p.2).bind fun q => (rdB q.2 p.1).bind fun x => (rdB q.2 q.1).bind fun y => (mulL x y).bind fun d => some (d, q.2)
theorem do_mulL (ha : DE X C c a f) (hb : DE X C c b g) : DO X C c (.BinOp a .Mult b pos) (oMulL f g) := by
  refine PE.imp (pe_op op_rep ha hb) fun σ H Q ⟨z, F, env, b, env', S, e, k⟩ => ?_
  simp only [oMulL, Option.bind_eq_some_iff] at e
  obtain ⟨⟨b1, e1⟩, h1, ⟨b2, e2⟩, h2, x, hx, y, hy, d, hd, e⟩ := e
  cases e
  refine ⟨z, F, env, b1, e1, S, h1, fun v F1 H1 s1 S1 r1 => ⟨z, F1, e1, b2, _, S1, h2, fun w F2 H2 s2 S2 r2 => ?_⟩⟩
  have rx := (r1.mono s2).rb S2 hx
  have ry := r2.rb S2 hy
  cases x <;> simp only [mulL] at hd <;> try (cases hd; done)
  cases y <;> try (cases hd; done)
  dsimp only at hd
  split at hd
  case isFalse => cases hd
  next hb =>
  simp only [Bool.and_eq_true, decide_eq_true_eq] at hb
  obtain ⟨hl, hd⟩ := gd_some hd
  cases hd
  obtain ⟨a, vs, rfl, q1, l1, w1⟩ := rx.lst S2.sub
  rename_i i
  have hl' : vs.length * i.toNat ≤ sizeLine := by rw [w1.length]; exact hl
  refine ⟨a, i, vs, rfl, ry.int, q1, hb.1, hb.2, hl', fun p hp => ?_⟩
  obtain ⟨S3, fp, zp, ap, ng⟩ := S2.newO (o := .lst (List.replicate i.toNat vs).flatten) hp
  exact k p F2 _ (s1.trans s2) S3 fp zp ⟨_, upd_same, by rw [rep_len, Nat.mul_comm]; exact hl', rep_rp w1 _⟩ ap ng
theorem r_MulL {env e1 e2 : Env} {b1 b2 : B} {x y d : D} (h1 : f env = some (b1, e1)) (h2 : g e1 = some (b2, e2)) (hx : rdB e2 b1 = some x) (hy : rdB e2 b2 = some y) (h : mulL x y = some d) : oMulL f g env = some (d, e2) := by simp [oMulL, h1, h2, hx, hy, h]
end
end DL

namespace DL
open PySem L2
/-! ### steps for the reader (walk_at "rd" in the laws' texts) -/
section
variable {env e e1 e2 e3 e4 : Env} {f g h : EF} {fa : AF} {ff : FF} {op : D → D → Option D} {i j np : Nat} {d d1 d2 x y w r : D} {b b1 b2 : B} {bs : List B} {ds dd outs xs ys : List D} {k k1 k2 k3 : Bool} {t t1 t2 : TF} {s s1 s2 : SF} {fl : Fl}
/-! slots -/
theorem st0 {o o2 : Option D} : st (o :: e) 0 o2 = o2 :: e := rfl
theorem stS {o o2 : Option D} (h : st e i o2 = e1) : st (o :: e) (i + 1) o2 = o :: e1 := by subst h; rfl
theorem wp0 : wipeE e [] = e := rfl
theorem wpS {own : List Nat} (h : wipeE e own = e1) (h2 : st e1 i none = e2) : wipeE e (i :: own) = e2 := by subst h h2; rfl
theorem bk0 : backE env [] e = e := rfl
theorem bkS {own : List Nat} {o : Option D} (h : backE env own e = e1) (h1 : gt env i = o) (h2 : st e1 i o = e2) : backE env (i :: own) e = e2 := by subst h h1 h2; rfl
theorem gt0 {o : Option D} : gt (o :: e) 0 = o := rfl
theorem gtS {o o2 : Option D} (h : gt e i = o2) : gt (o :: e) (i + 1) = o2 := h
/-! arguments -/
/-- arguments that are data -/
def AV (fa : AF) (env : Env) (ds : List D) (e : Env) : Prop := fa env = some (ds.map B.val, e)
theorem av_N : AV aN env [] env := rfl
theorem av_C (h1 : f env = some (.val d, e1)) (h2 : AV fa e1 ds e2) : AV (aC f fa) env (d :: ds) e2 := by
  show aC f fa env = some (B.val d :: ds.map B.val, e2)
  unfold AV at h2
  simp [aC, h1, h2]
/-- arguments that are read -/
def AR (fa : AF) (env : Env) (ds : List D) (e : Env) : Prop := ∃ bs, fa env = some (bs, e) ∧ rdAll e bs = some ds
/-- what an expression gives is data d behind it -/
def RDB (e : Env) (b : B) (d : D) : Prop := rdB e b = some d
theorem rdb_v : RDB e (.val d) d := rfl
theorem rdb_s (h : gt e i = some d) : RDB e (.slot i) d := h
def ARs (fa : AF) (env : Env) (bs : List B) (e : Env) : Prop := fa env = some (bs, e)
theorem as_N : ARs aN env [] env := rfl
theorem as_C (h1 : f env = some (b, e1)) (h2 : ARs fa e1 bs e2) : ARs (aC f fa) env (b :: bs) e2 := by
  unfold ARs at h2
  show aC f fa env = _
  simp [aC, h1, h2]
def RDs (e : Env) (bs : List B) (ds : List D) : Prop := rdAll e bs = some ds
theorem rds_N : RDs e [] [] := rfl
theorem rds_C (h1 : RDB e b d) (h2 : RDs e bs ds) : RDs e (b :: bs) (d :: ds) := by
  unfold RDB at h1
  unfold RDs at h2
  show rdAll e (b :: bs) = _
  simp [rdAll, h1, h2]
theorem q_B {o : List D → Option D} (h1 : ARs fa env bs e1) (h2 : RDs e1 bs ds) (ho : o ds = some d) : fB o fa env = some (.val d, e1) := r_B h1 h2 ho
theorem q_OB {o : List D → Option D} (h1 : ARs fa env bs e1) (h2 : RDs e1 bs ds) (ho : o ds = some d) : oB o fa env = some (d, e1) := r_OB h1 h2 ho
theorem q_2 (h1 : f env = some (b1, e1)) (h2 : g e1 = some (b2, e2)) (hx : RDB e2 b1 x) (hy : RDB e2 b2 y) (ho : op x y = some d) : f2 op f g env = some (.val d, e2) := r_2 h1 h2 hx hy ho
theorem q_C0 (h1 : AV fa env ds e1) (h2 : ff ds = some (d, outs)) (hl : ds.length = np) : fC0 np ff [] fa env = some (.val d, e1) := r_C0e h1 h2 hl
theorem q_OC0 (h1 : AV fa env ds e1) (h2 : ff ds = some (d, outs)) (hl : ds.length = np) : oC0 np ff [] fa env = some (d, e1) :=
  r_OC0 (dd := []) h1 (vals_map ds) (by rw [List.append_nil]; exact h2) (by rw [List.append_nil]; exact hl)
/-- appended -/
def APP (xs ys zs : List D) : Prop := xs ++ ys = zs
theorem app_N : APP [] ys ys := rfl
theorem app_C (h : APP xs ys ds) : APP (d :: xs) ys (d :: ds) := by
  unfold APP at h
  show d :: xs ++ ys = _
  rw [List.cons_append, h]
theorem q_C0d (h1 : AV fa env ds e1) (h0 : APP ds dd xs) (h2 : ff xs = some (d, outs)) (hl : xs.length = np) : fC0 np ff dd fa env = some (.val d, e1) := by
  unfold APP at h0
  subst h0
  exact r_C0 h1 (vals_map ds) h2 hl
theorem ioArgs_v (hg : gt e i = some d) : ioArgs e (.slot i :: ds.map B.val) = some (i, d :: ds) := by
  simp [ioArgs, hg, vals_map]
theorem q_C1 (h1 : AV fa env ds e1) (h0 : gt env i = some d1) (hg : gt e1 i = some d2) (h2 : ff (d2 :: ds) = some (d, [x])) (hl : (d2 :: ds).length = np) (hE : st e1 i (some x) = e2) : fC1 np ff (aC (fS i) fa) env = some (.val d, e2) :=
  r_C1 (r_aC (r_S h0) h1) (ioArgs_v hg) h2 hl hE
theorem q_OC1 (h1 : AV fa env ds e1) (h0 : gt env i = some d1) (hg : gt e1 i = some d2) (h2 : ff (d2 :: ds) = some (d, [x])) (hl : (d2 :: ds).length = np) (hE : st e1 i (some x) = e2) : oC1 np ff (aC (fS i) fa) env = some (d, e2) :=
  r_OC1 (r_aC (r_S h0) h1) (ioArgs_v hg) h2 hl hE
theorem q_Mk {kk : Nat} (h1 : AV fa env ds e1) (h0 : APP (.obj kk [] :: ds) dd xs) (h2 : ff xs = some (.non, [d])) (hl : xs.length = np) : oMk kk np ff dd fa env = some (d, e1) := by
  unfold APP at h0
  rw [List.cons_append] at h0
  subst h0
  exact r_Mk h1 (vals_map ds) h2 hl
theorem q_tup (h1 : AV fa env ds e1) (hl : ds.length ≤ 16777216) : fTup fa env = some (.val (.tup ds), e1) := r_tup h1 (vals_map ds) hl
theorem q_lst (h1 : AV fa env ds e1) (hl : ds.length ≤ 16777216) : oLst fa env = some (.lst ds, e1) := r_lst h1 (vals_map ds) hl
theorem q_Me {kk : Nat} {nm : Str} {fo : EF} (h0 : fo env = some (.val (.obj kk fs), e1)) (hn : fs.lookup nm = none) (h1 : AV fa e1 ds e2) (hd : APP (.obj kk fs :: ds) dd xs) (h3 : ff xs = some (d, outs)) (hl : xs.length = np) : fMe kk nm np ff dd fo fa env = some (.val d, e2) := by
  unfold APP at hd
  rw [List.cons_append] at hd
  subst hd
  exact r_Me h0 hn h1 (vals_map ds) h3 hl
/-! tests: the answer decides what is read next -/
def tK (k : Bool) (t1 t2 : TF) : TF := if k then t1 else t2
def tFl : TF := fun e => some (false, e)
def tTr : TF := fun e => some (true, e)
theorem q_and (h1 : t1 env = some (k, e1)) (h2 : tK k t2 tFl e1 = some (k2, e2)) : fAnd t1 t2 env = some (k2, e2) := by
  cases k
  · cases h2; exact r_andF h1
  · exact r_andT h1 h2
theorem q_or (h1 : t1 env = some (k, e1)) (h2 : tK k tTr t2 e1 = some (k2, e2)) : fOr t1 t2 env = some (k2, e2) := by
  cases k
  · exact r_orF h1 h2
  · cases h2; exact r_orT h1
theorem tk_T (h : t1 e = some (k, e1)) : tK true t1 t2 e = some (k, e1) := h
theorem tk_F (h : t2 e = some (k, e1)) : tK false t1 t2 e = some (k, e1) := h
theorem tfl_ok : tFl e = some (false, e) := rfl
theorem ttr_ok : tTr e = some (true, e) := rfl
/-- k2 is the contrary of k1 -/
def NT (k1 k2 : Bool) : Prop := k2 = !k1
theorem nt_T : NT true false := rfl
theorem nt_F : NT false true := rfl
theorem q_not (h1 : t env = some (k, e1)) (h2 : NT k k2) : fNot t env = some (k2, e1) := by rw [h2]; exact r_not h1
theorem q_notV (h1 : f env = some (.val (.bl k), e1)) (h2 : NT k k2) : fNotV f env = some (.val (.bl k2), e1) := by rw [h2]; exact r_notV h1
def eK (k : Bool) (f g : EF) : EF := if k then f else g
theorem ek_T (h : f e = some (b, e1)) : eK true f g e = some (b, e1) := h
theorem ek_F (h : g e = some (b, e1)) : eK false f g e = some (b, e1) := h
theorem q_andV (h1 : f env = some (.val (.bl k), e1)) (h2 : eK k g (fC (.bl false)) e1 = some (b, e2)) : fAndV f g env = some (b, e2) := by
  cases k
  · cases h2; exact r_andVF h1
  · exact r_andVT h1 h2
theorem q_orV (h1 : f env = some (.val (.bl k), e1)) (h2 : eK k (fC (.bl true)) g e1 = some (b, e2)) : fOrV f g env = some (b, e2) := by
  cases k
  · exact r_orVF h1 h2
  · cases h2; exact r_orVT h1
theorem q_if (h1 : t env = some (k, e1)) (h2 : eK k f g e1 = some (b, e2)) : fIf t f g env = some (b, e2) := by
  cases k
  · exact r_ifF h1 h2
  · exact r_ifT h1 h2
def sK (k : Bool) (s1 s2 : SF) : SF := if k then s1 else s2
theorem sk_T (h : s1 e = some fl) : sK true s1 s2 e = some fl := h
theorem sk_F (h : s2 e = some fl) : sK false s1 s2 e = some fl := h
theorem q_sIf (h1 : t env = some (k, e1)) (h2 : sK k s1 s2 e1 = some fl) : sIf t s1 s2 env = some fl := by
  cases k
  · exact r_sF h1 h2
  · exact r_sT h1 h2
/-! a sequence: what the first says decides -/
def sThen (fl : Fl) (s : SF) : Option Fl := match fl with
  | .nx e => s e
  | f => some f
theorem q_Q {fl1 : Fl} (h1 : s1 env = some fl1) (h2 : sThen fl1 s2 = some fl) : sQ s1 s2 env = some fl := by
  cases fl1 <;> simp only [sQ, h1, Option.bind_some] <;> exact h2
theorem th_nx (h : s e = some fl) : sThen (.nx e) s = some fl := h
theorem th_rt : sThen (.rt d e) s = some (.rt d e) := rfl
theorem th_bk : sThen (.bk e) s = some (.bk e) := rfl
theorem th_ct : sThen (.ct e) s = some (.ct e) := rfl
theorem q_frz (h1 : s env = some fl) {fl2 : Fl} (h2 : fl.wipe i = fl2) : sFrz i s env = some fl2 := by rw [← h2]; exact r_frz h1
theorem wp_nx (h : st e i none = e1) : (Fl.nx e).wipe i = .nx e1 := by subst h; rfl
theorem wp_bk (h : st e i none = e1) : (Fl.bk e).wipe i = .bk e1 := by subst h; rfl
theorem wp_ct (h : st e i none = e1) : (Fl.ct e).wipe i = .ct e1 := by subst h; rfl
theorem wp_rt : (Fl.rt d e).wipe i = .rt d e := rfl
theorem q_par {fo go : OF} (h1 : fo env = some (x, e1)) (h2 : go e1 = some (y, e2)) (hE : st e2 i (some x) = e3) (hE2 : st e3 j (some y) = e4) : sPar i j fo go env = some (.nx e4) := by subst hE; exact r_par h1 h2 hE2
theorem q_par3 {l : Nat} {d1 d2 d3 : D} {e5 : Env} (h1 : AV fa env [d1, d2, d3] e1) (hE : st e1 i (some d1) = e2) (hE2 : st e2 j (some d2) = e3) (hE3 : st e3 l (some d3) = e4) : sPar3 i j l fa env = some (.nx e4) := by subst hE hE2; exact r_par3 h1 (vals_map _) hE3
theorem q_par3O {l : Nat} {fo go ho : OF} {d3 : D} {e5 e6 : Env} (h1 : fo env = some (x, e1)) (h2 : go e1 = some (y, e2)) (h3 : ho e2 = some (d3, e3)) (hE : st e3 i (some x) = e4) (hE2 : st e4 j (some y) = e5) (hE3 : st e5 l (some d3) = e6) : sPar3O i j l fo go ho env = some (.nx e6) := by subst hE hE2; exact r_par3O h1 h2 h3 hE3
theorem q_Xv (h1 : f env = some (.val d, e1)) (h2 : itms d = some xs) : iX f env = some (xs, e1) := r_X h1 h2
theorem q_aug (h0 : gt env i = some x) (h1 : f env = some (b, e1)) (h2 : RDB e1 b y) (ho : op x y = some d) (hE : st e1 i (some d) = e2) : sAug i op f env = some (.nx e2) := by
  unfold RDB at h2
  simp [sAug, h0, h1, h2, ho, hE]
theorem q_neg {z : Int} (h1 : f env = some (b, e1)) (h2 : RDB e1 b (.int z)) : fNeg f env = some (.val (.int (-z)), e1) := by
  unfold RDB at h2
  simp [fNeg, h1, h2]
theorem q_At {kk : Nat} {nm : Str} (h1 : f env = some (b, e1)) (h2 : RDB e1 b x) (h3 : attrD kk nm x = some d) : fAt kk nm f env = some (.val d, e1) := r_At h1 h2 h3
theorem q_Is {T : String} (h1 : f env = some (b, e1)) (h2 : RDB e1 b d) (h3 : instB T d = some k) : fIs T f env = some (.val (.bl k), e1) := r_Is h1 h2 h3
theorem q_Ch {o o' : D → D → Option D} {bb : D} (h1 : f env = some (b, e1)) (h2 : g e1 = some (b1, e2)) (hx : RDB e2 b x) (hy : RDB e2 b1 y) (ho : o x y = some (.bl k)) (h3 : eK k (f2 o' (fun e => some (b1, e)) h) (fC (.bl false)) e2 = some (.val bb, e3)) : fCh o o' f g h env = some (.val bb, e3) := by
  cases k
  · cases h3; exact r_ChF h1 h2 hx hy ho
  · have h4 : f2 o' (fun e => some (b1, e)) h e2 = some (.val bb, e3) := h3
    unfold f2 at h4
    simp only [Option.bind_eq_some_iff] at h4
    obtain ⟨⟨z1, z2⟩, a1, ⟨z3, z4⟩, a2, v1, a3, v2, a4, v3, a5, a6⟩ := h4
    cases a1
    cases a6
    exact r_ChT h1 h2 hx hy ho a2 a3 a4 a5
theorem q_thru : (fun e => some (b, e) : EF) env = some (b, env) := rfl
/-! whole numbers compared -/
theorem lt_T {i j : Int} (h : i < j) : ltD (.int i) (.int j) = some (.bl true) := by show some (D.bl (decide (i < j))) = _; rw [decide_eq_true h]
theorem lt_F {i j : Int} (h : ¬ i < j) : ltD (.int i) (.int j) = some (.bl false) := by show some (D.bl (decide (i < j))) = _; rw [decide_eq_false h]
theorem le_T {i j : Int} (h : i ≤ j) : leD (.int i) (.int j) = some (.bl true) := by show some (D.bl (decide (i ≤ j))) = _; rw [decide_eq_true h]
theorem le_F {i j : Int} (h : ¬ i ≤ j) : leD (.int i) (.int j) = some (.bl false) := by show some (D.bl (decide (i ≤ j))) = _; rw [decide_eq_false h]
theorem gt_T {i j : Int} (h : j < i) : gtD (.int i) (.int j) = some (.bl true) := by show some (D.bl (decide (j < i))) = _; rw [decide_eq_true h]
theorem gt_F {i j : Int} (h : ¬ j < i) : gtD (.int i) (.int j) = some (.bl false) := by show some (D.bl (decide (j < i))) = _; rw [decide_eq_false h]
theorem ge_T {i j : Int} (h : j ≤ i) : geD (.int i) (.int j) = some (.bl true) := by show some (D.bl (decide (j ≤ i))) = _; rw [decide_eq_true h]
theorem ge_F {i j : Int} (h : ¬ j ≤ i) : geD (.int i) (.int j) = some (.bl false) := by show some (D.bl (decide (j ≤ i))) = _; rw [decide_eq_false h]
theorem eq_T {i j : Int} (h : i = j) : eqD (.int i) (.int j) = some (.bl true) := by subst h; rw [eqD_int]; simp
theorem eq_F {i j : Int} (h : ¬ i = j) : eqD (.int i) (.int j) = some (.bl false) := by rw [eqD_int]; simp [h]
theorem ne_T {i j : Int} (h : ¬ i = j) : neD (.int i) (.int j) = some (.bl true) := by rw [neD_int]; simp [h]
theorem ne_F {i j : Int} (h : i = j) : neD (.int i) (.int j) = some (.bl false) := by subst h; rw [neD_int]; simp
/-! comprehensions -/
theorem q_Lc {it : IF} {gg : GF} {tt : TF} {own : List Nat} {xs ys : List D} {e0 : Env} (h1 : it env = some (xs, e1)) (hw : wipeE e1 own = e0) (h2 : lcD gg tt f own xs e0 [] = some (ys, e2)) (h3 : backE e1 own e2 = e3) : oLc it gg tt f own env = some (.lst ys, e3) := by
  subst hw; exact r_Lc h1 h2 h3
theorem q_C00 (h : ff [] = some (d, outs)) : fC00 ff env = some (.val d, env) := by simp [fC00, h]
theorem q_fC : fC d env = some (.val d, env) := rfl
theorem q_P (h1 : f env = some (.val d, e1)) : oP f env = some (d, e1) := r_P h1
theorem q_V (hh : gt env i = some d) : fV i env = some (.val d, env) := r_V hh
theorem q_S (hh : gt env i = some d) : fS i env = some (.slot i, env) := r_S hh
theorem q_M (hh : gt env i = some d) (h2 : st env i none = e1) : fM i env = some (.val d, e1) := by simp [fM, hh, h2]
theorem q_oSl (hh : gt env i = some d) (h2 : st env i none = e1) : oSl i env = some (d, e1) := by simp [oSl, hh, h2]
theorem q_fT {gs : GFs} {n : Nat} (h : n = xs.length) (h2 : gs xs env = some e1) : gT n gs (.tup xs) env = some e1 := by subst h; simp [gT, h2]
theorem q_gUT {gs : GFs} {n : Nat} (h : n = xs.length) (h2 : gs xs env = some e1) : gU n gs (.tup xs) env = some e1 := by subst h; simp [gU, h2]
theorem q_gUL {gs : GFs} {n : Nat} (h : n = xs.length) (h2 : gs xs env = some e1) : gU n gs (.lst xs) env = some e1 := by subst h; simp [gU, h2]
theorem q_gN (hE : st env i (some d) = e1) : gN i d env = some e1 := by subst hE; rfl
theorem q_gC {g : GF} {gs : GFs} (h : g d env = some e1) (h2 : gs ds e1 = some e2) : gC g gs (d :: ds) env = some e2 := by simp [gC, h, h2]
theorem q_Di0 : oDi0 env = some (.dic [], env) := rfl
theorem q_YesF : tYesF env = some (true, env) := rfl
theorem q_R1 {z : Int} (h1 : ARs fa env bs e1) (h2 : RDs e1 bs [.int z]) (h3 : -1000000 ≤ z) (h4 : z ≤ 1000000) : iR1 fa env = some (rngD 0 z.toNat, e1) := iR1_ok h1 h2 h3 h4
theorem q_MulL (h1 : f env = some (b1, e1)) (h2 : g e1 = some (b2, e2)) (hx : RDB e2 b1 x) (hy : RDB e2 b2 y) (h : mulL x y = some d) : oMulL f g env = some (d, e2) := r_MulL h1 h2 hx hy h
theorem q_pN : pN env = some (none, env) := rfl
theorem q_pI {z : Int} (h1 : f env = some (b, e1)) (h2 : RDB e1 b (.int z)) : pI f env = some (some z, e1) := by
  unfold RDB at h2
  simp [pI, h1, h2]
theorem q_En (h1 : f env = some (.val d, e1)) (h2 : itmsS d = some xs) : iEn f env = some (enumL xs, e1) := r_En h1 h2
theorem q_Z (h1 : AV fa env ds e1) (h2 : zipD ds = some xs) : iZ fa env = some (xs, e1) := r_Z h1 (vals_map ds) h2
theorem q_gN0 : gN0 [] env = some env := rfl
theorem q_MtL {op : D → List D → Option (D × D)} {dc d2 : D} (h0 : gt env i = some (.lst xs)) (h1 : AV fa env ds e1) (h3 : gt e1 i = some dc) (h4 : op dc ds = some (d, d2)) (hE : st e1 i (some d2) = e2) : fMt i op fa env = some (.val d, e2) := r_MtL h0 h1 (vals_map ds) h3 h4 hE
theorem q_ap (h : xs.length < 16777216) : appD (.lst xs) [d] = some (.non, .lst (xs ++ [d])) := by
  have : xs.length + 1 ≤ 16777216 := h
  simp [appD, gd, this]
theorem q_Ext {ys : List D} (h0 : gt env i = some (.lst xs)) (h1 : f env = some (b, e1)) (h2 : RDB e1 b (.lst ys)) (h3 : gt e1 i = some (.lst xs)) (hl : xs.length + ys.length ≤ 16777216) (hE : st e1 i (some (.lst (xs ++ ys))) = e2) : fExt i f env = some (.val .non, e2) := r_Ext h0 h1 h2 h3 hl hE
/-! an item stored -/
theorem q_setIx {fk fe : EF} {d0 dk dc d2 : D} (h1 : fe env = some (.val d, e1)) (h0 : gt e1 i = some d0) (h2 : fk e1 = some (b, e2)) (h3 : RDB e2 b dk) (h4 : gt e2 i = some dc) (h5 : setD dc dk d = some d2) (hE : st e2 i (some d2) = e3) : sSetIx i fk fe env = some (.nx e3) := by
  unfold RDB at h3
  simp [sSetIx, h1, h0, h2, h3, h4, h5, hE]
/-! len of a net -/
theorem q_LenO {fs : List (Str × D)} {nn : Int} (h1 : f env = some (.val d, e1)) (hd : d = .obj 0 fs) (h2 : ff [d] = some (.int nn, outs)) (h3 : 0 ≤ nn) (h4 : nn ≤ 9000000000000000000) : fLenO 0 ff f env = some (.val (.int nn), e1) := by
  subst hd
  have h5 : nn < 2 ^ 63 := by omega
  simp [fLenO, h1, h2, h3]
  exact h5
/-! lists -/
theorem len_L : lenD [.lst xs] = some (.int (xs.length : Nat)) := rfl
theorem len_T : lenD [.tup xs] = some (.int (xs.length : Nat)) := rfl
end
end DL

namespace DL
open PySem PySem.Spec PyProof.Rows L2
/-! ### list(d.items()) where d may be locked -/
def tItR (te : TE) : TE := fun σ H Q => te σ H fun x H1 => ∃ (d : Addr) (kvs : List (Key × V)), x = .ref d ∧ Rd H1 d (.dK kvs) ∧
  ∀ (G : Hp) (p : Addr) (ts : List Addr), Same H1 G → H1 p = none → (∀ t ∈ ts, H1 t = none) → p ∉ ts → G p = some (.lst (ts.map V.ref)) → Paired (fun (t : Addr) (q : Key × V) => G t = some (.tup [kV q.1, q.2])) ts kvs → Q (.ref p) G
section
variable {X : Cx} {e : Expr} {te : TE} {p apos cpos pos : Pos}
end
def pairKD (q : Key × D) : D := .tup [keyVD q.1, q.2]
def oIts (f : EF) : OF := fun env => (f env).bind fun p => (rdB p.2 p.1).bind fun d => match d with
  | .dic ks => gd ks.length (some (.lst (ks.map pairKD), p.2))
  | _ => none
section
variable {m : Bool} {X : Cx} {C : CA} {c : Cs} {e : Expr} {f : EF} {p apos cpos pos : Pos}
end
end DL

namespace DLX
open PySem PySem.W PySem.Calls PyProof.Rows PySem.Spec

/-- the body of an exception class's own __init__: the base's __init__, then the one field -/
abbrev inBody (p : Str) (q0 q1 q2 q3 q4 q5 q6 q7 q8 q9 : Pos) : List Stmt := [
  .Expr (.Call (.Attribute (.Call (.Name "super" q0) [] [] q1) "__init__" q2) [.Name p q3] [] q4) q5,
  .Assign [.Attribute (.Name "self" q6) p q7] (.Name p q8) q9]
def inShape (p : Str) : FuncBody → Bool
  | .stmts [.Expr (.Call (.Attribute (.Call (.Name a _) [] [] _) b q2) [.Name c _] [] q4) _, .Assign [.Attribute (.Name d _) e _] (.Name f _) _] =>
    (q2.endLine == q4.line) && decide (a = "super") && (decide (b = "__init__") && (decide (c = p) && (decide (d = "self") && (decide (e = p) && decide (f = p)))))
  | _ => false
/-- own classes, then the built-in ones -/
def refsT (tl : List Value) : List Value → Bool
  | .ref _ :: r => refsT tl r
  | l => decide (l = tl)
theorem refsT_or {tl : List Value} : ∀ {l : List Value}, refsT tl l = true → l = tl ∨ ∃ c r, l = .ref c :: r ∧ refsT tl r = true := fun {l} h => by
  unfold refsT at h
  split at h
  · exact .inr ⟨_, _, rfl, h⟩
  · exact .inl (of_decide_eq_true h)
theorem refsT_has {tl : List Value} (X : String) : ∀ {l : List Value}, refsT tl l = true → l.contains (.type X) = tl.contains (.type X)
  | [], h => by
    rcases refsT_or h with q | ⟨c, r, q, _⟩
    · rw [q]
    · cases q
  | a :: l, h => by
    rcases refsT_or h with q | ⟨c, r, q, h2⟩
    · rw [q]
    · cases q
      rw [List.contains_cons, refsT_has X h2]
      rfl
/-- a built-in error class as a base -/
structure XB (B newId initId : String) (tl : List Value) : Prop where
  F : ExcBaseFacts B newId initId tl
  KF : KxsFacts B initId
  pass : ∀ self : Value, PySem.refuseLoop self "__setattr__" tl = pure ()
  ob : tl.contains (.type "object") = true
/-- what the program's file says -/
structure PX (P : Program) (file : Str) : Prop where
  file : P.main.file = file
  sup : (P.main.scope.names.lookup ("super" : Str)).isSome = false
/-- what the written part says of an error class with its own __init__ -/
structure XC (K : Frag) (file : Str) (C fI : Addr) (p : Str) (fd : FuncData) (B newId initId : String) (tl : List Value) : Prop where
  cls : ∃ nm q N bs bm sn sub ab col dd k0 k1 k2 k3 k5, K.lookup C = some (excClassObj nm q C N bs bm true sn sub ab col dd k0 k1 k2 k3 k5 newId) ∧ refsT tl bm = true ∧ alongIn K "__init__" bm = some (some (.builtin initId))
  sa : findIn K (.ref C) "__setattr__" = some (some (.builtin "object.__setattr__"))
  no : findIn K (.ref C) p = some none
  exC : subIn K (.ref C) (.type "BaseException") = some true
  tyC : typeIn K (.ref C) = some (.type "type")
  kC : keepIn K (.ref C) = true
  iC : findIn K (.ref C) "__init__" = some (some (.ref fI))
  tI : typeIn K (.ref fI) = some (.type "function")
  opq : nsIn K cStatics "thirdparty.any" = some none
  lk : ∃ oc od osl, K.lookup fI = some ⟨oc, od, .func fd, osl⟩
  body : inShape p fd.body = true
  par : ((fd.params.posonlyargs ++ fd.params.args).head?.map (·.arg)) = some ("self" : Str)
  kind : fd.scope.kind = .function
  co : fd.scope.isCoroutine = false
  gen : fd.scope.isGenerator = false
  nocell : ∀ y ∈ fd.scope.names, y.2 ≠ .cell
  sup : fd.scope.names.lookup ("super" : Str) = some .globalImplicit
  kls : fd.scope.names.lookup ("__class__" : Str) = some .free
  slf : fd.scope.names.lookup ("self" : Str) = some .local
  prm : fd.scope.names.lookup p = some .local
  pne : p ≠ ("self" : Str)
  pdb : (p == ("__debug__" : Str)) = false
  glo : fd.globals = mainGlobals
  blt : fd.builtins = builtinsNs
  clo : ∃ cc cl cld csl, fd.closure.lookup ("__class__" : Str) = some cc ∧ K.lookup cc = some ⟨cl, cld, .cell (some (.ref C)), csl⟩
  code : codeIn K fd.code fd.qualname = true
  fil : ∃ cda ccl cdd vs ccs tf, fd.code = .ref cda ∧ K.lookup cda = some ⟨ccl, cdd, .fields vs, ccs⟩ ∧ vs[2]? = some (.str file tf)
section
variable {P : Program} {w : World} {A : Around} {E : Value → Shared → Prop} {R : Result → Shared → Prop} {K : Frag} {file p : Str} {C fI x L : Addr} {fd : FuncData} {B newId initId : String} {tl : List Value} {hp : Heap} {g : Array GenState} {d : Drawn} {t : Nat} {os : OsState}
theorem XC.clsIn (T : XC K file C fI p fd B newId initId tl) : ∃ cd, PySem.W.clsIn K C = some cd ∧ cd.hasDict = true ∧ (∃ bm, cd.mro = .ref C :: bm ∧ refsT tl bm = true ∧ alongIn K "__init__" bm = some (some (.builtin initId))) := by
  obtain ⟨nm, q, N, bs, bm, sn, sub, ab, col, dd, k0, k1, k2, k3, k5, hC, hbm, hal⟩ := T.cls
  exact ⟨_, by unfold PySem.W.clsIn; rw [hC] <;> rfl, rfl, bm, rfl, hbm, hal⟩
theorem XC.has (T : XC K file C fI p fd B newId initId tl) {b : String} (h : tl.contains (.type b) = true) : mroIn K C (.type b) = some true := by
  obtain ⟨cd, h1, _, bm, h2, h3, _⟩ := T.clsIn
  unfold mroIn
  rw [h1, Option.bind_some, h2, if_neg (show ¬ (List.isEmpty (Value.ref C :: bm) = true) from Bool.false_ne_true), List.contains_cons, refsT_has b h3, h]
  rfl
theorem XC.self (T : XC K file C fI p fd B newId initId tl) : mroIn K C (.ref C) = some true := by
  obtain ⟨cd, h1, _, bm, h2, _, _⟩ := T.clsIn
  unfold mroIn
  rw [h1, Option.bind_some, h2, if_neg (show ¬ (List.isEmpty (Value.ref C :: bm) = true) from Bool.false_ne_true), List.contains_cons]
  simp
end
end DLX

namespace DL
open PySem L2
/-! ### a cell is made: a list that one object's field and the def both hold -/
def CA.at (C : CA) (b : Addr) : CA := ⟨C.cls, fun j => if j = 0 then some b else C.cel j⟩
section
variable {K : PySem.W.Frag} {C : CA} {F H : Hp} {b : Addr}
theorem cel_at {a : Addr} {j : Nat} (h0 : C.cel 0 = none) (h : C.cel j = some a) : (C.at b).cel j = some a := by
  have hj : j ≠ 0 := by rintro rfl; rw [h0] at h; cases h
  show (if j = 0 then some b else C.cel j) = some a
  rw [if_neg hj]; exact h
mutual
theorem Rp.inn (h0 : C.cel 0 = none) {v : V} {d : D} (h : Rp K C F v d) : Rp K (C.at b) F v d := match h with
  | .non => .non
  | .bl b => .bl b
  | .int i => .int i
  | .str x => .str x
  | .lst h1 hl h2 => .lst h1 hl (h2.inn h0)
  | .scr h1 => .scr h1
  | .tup h1 hl h2 => .tup h1 hl (h2.inn h0)
  | .dic h1 h2 => .dic h1 (h2.inn h0)
  | .obj h1 h2 => .obj h1 (h2.inn h0)
  | .cel j h => .cel j (cel_at h0 h)
  | .dtu h1 h2 => .dtu h1 (h2.inn h0)
  | .btu h1 h2 h3 h4 => .btu h1 h2 h3 (h4.inn h0)
theorem RpAll.inn (h0 : C.cel 0 = none) {vs : List V} {ds : List D} (h : RpAll K C F vs ds) : RpAll K (C.at b) F vs ds := match h with
  | .nil => .nil
  | .cons h1 h2 => .cons (h1.inn h0) (h2.inn h0)
theorem RpKV.inn (h0 : C.cel 0 = none) {vs : List (Key × V)} {ds : List (Key × D)} (h : RpKV K C F vs ds) : RpKV K (C.at b) F vs ds := match h with
  | .nil => .nil
  | .cons h1 h2 => .cons (h1.inn h0) (h2.inn h0)
theorem RpFs.inn (h0 : C.cel 0 = none) {vs : List (Str × V)} {ds : List (Str × D)} (h : RpFs K C F vs ds) : RpFs K (C.at b) F vs ds := match h with
  | .nil => .nil
  | .cons h1 h2 => .cons (h1.inn h0) (h2.inn h0)
theorem RpTV.inn (h0 : C.cel 0 = none) {vs : List (List Key × V)} {ds : List (List Key × D)} (h : RpTV K C F vs ds) : RpTV K (C.at b) F vs ds := match h with
  | .nil => .nil
  | .cons h1 h2 => .cons (h1.inn h0) (h2.inn h0)
end
mutual
def noCel : D → Bool
  | .lst xs => noCels xs
  | .tup xs => noCels xs
  | .dic ks => noCelK ks
  | .obj _ fs => noCelF fs
  | .cel _ => false
  | .dtu _ => false
  | .btu xs => noCels xs
  | _ => true
def noCels : List D → Bool
  | [] => true
  | d :: ds => noCel d && noCels ds
def noCelK : List (Key × D) → Bool
  | [] => true
  | (_, d) :: ds => noCel d && noCelK ds
def noCelF : List (Str × D) → Bool
  | [] => true
  | (_, d) :: ds => noCel d && noCelF ds
end
mutual
theorem Rp.off {v : V} {d : D} (h : Rp K (C.at b) F v d) (n : noCel d = true) : Rp K C F v d := match h with
  | .non => .non
  | .bl b => .bl b
  | .int i => .int i
  | .str x => .str x
  | .lst h1 hl h2 => .lst h1 hl (h2.off n)
  | .scr h1 => .scr h1
  | .tup h1 hl h2 => .tup h1 hl (h2.off n)
  | .dic h1 h2 => .dic h1 (h2.off n)
  | .obj h1 h2 => .obj h1 (h2.off n)
  | .cel j h => by cases n
  | .dtu h1 h2 => by cases n
  | .btu h1 h2 h3 h4 => .btu h1 h2 h3 (h4.off n)
theorem RpAll.off {vs : List V} {ds : List D} (h : RpAll K (C.at b) F vs ds) (n : noCels ds = true) : RpAll K C F vs ds := match h with
  | .nil => .nil
  | .cons h1 h2 => by
    obtain ⟨n1, n2⟩ := Bool.and_eq_true_iff.mp (show (noCel _ && noCels _) = true from n)
    exact .cons (h1.off n1) (h2.off n2)
theorem RpKV.off {vs : List (Key × V)} {ds : List (Key × D)} (h : RpKV K (C.at b) F vs ds) (n : noCelK ds = true) : RpKV K C F vs ds := match h with
  | .nil => .nil
  | .cons h1 h2 => by
    obtain ⟨n1, n2⟩ := Bool.and_eq_true_iff.mp (show (noCel _ && noCelK _) = true from n)
    exact .cons (h1.off n1) (h2.off n2)
theorem RpFs.off {vs : List (Str × V)} {ds : List (Str × D)} (h : RpFs K (C.at b) F vs ds) (n : noCelF ds = true) : RpFs K C F vs ds := match h with
  | .nil => .nil
  | .cons h1 h2 => by
    obtain ⟨n1, n2⟩ := Bool.and_eq_true_iff.mp (show (noCel _ && noCelF _) = true from n)
    exact .cons (h1.off n1) (h2.off n2)
end
theorem Own.off {a : Addr} {d : D} (h : Own K (C.at b) F H a d) (n : noCel d = true) : Own K C F H a d := by
  cases d <;> simp only [Own] at h ⊢
  · obtain ⟨vs, q, l, r⟩ := h; exact ⟨vs, q, l, r.off n⟩
  · obtain ⟨vs, q, r⟩ := h; exact ⟨vs, q, r.off n⟩
  · obtain ⟨dx, vs, q, r⟩ := h; exact ⟨dx, vs, q, r.off n⟩
  · cases n
  · cases n
end
/-! ### defs that are handed a cell -/
def spFc (K : PySem.W.Frag) (C : CA) (io : List Nat) (m : Bool) (np : Nat) (f : FF) : Sp := fun vs H Q E => ∃ b, C.cel 0 = some b ∧ vs.length = np ∧ spF K C (io ++ [np]) m (np + 1) f (vs ++ [.ref b]) H Q E
def envC (n np : Nat) (ds : List D) : Env := env0 n (ds.take np) ++ [ds[np]?]
def runFc (c : Cs) (np : Nat) (fb : SF) : FF := fun ds => (fb (envC c.n np ds)).bind fun fl => endF (c.io ++ [c.n]) fl
theorem gt_app {l r : Env} {i : Nat} (h : i < l.length) : gt (l ++ r) i = gt l i := by
  induction l generalizing i with
  | nil => simp at h
  | cons x xs ih => cases i with
    | zero => rfl
    | succ i => exact ih (by simpa using h)
theorem gt_app_len {l : Env} {y : Option D} : gt (l ++ [y]) l.length = y := by
  induction l with
  | nil => rfl
  | cons x xs ih => exact ih
theorem x_one {c : Cs} (h1 : c.ci = [0]) (h2 : c.cn = []) : c.x = ⟨c.n + 1, c.O ++ [c.n], c.io ++ [c.n], [], []⟩ := by
  cases c
  cases h1
  cases h2
  simp [Cs.x, Cs.cs, Cs.ixs, Cs.ixi, List.range_succ]
theorem cells_one {C : CA} {c : Cs} {b : Addr} (h1 : c.ci = [0]) (h2 : c.cn = []) (hb : C.cel 0 = some b) : cells C c = [some (.ref b)] := by
  unfold cells Cs.cs
  rw [h1, h2]
  simp [hb]
section
variable {P : Program} {w : World} {K : PySem.W.Frag} {mg : Str → Option Value} {base : Heap} {x qual : Str} {params : Arguments} {body : List Stmt} {scope : Scope} {dvs : List V} {kws : List (Str × V)} {fa : Addr} {fd : FuncData}
theorem fun_okC {N ps : List Str} {k : Nat} {C : CA} {m : Bool} (c : Cs) (Fn : FunD K x qual params body scope dvs kws fa fd) (Sc : FnScope N ps scope) (fb : SF) (hn : c.n = N.length) (hio : ∀ i ∈ c.io, i < ps.length ∧ i ∈ c.O) (hO : ∀ i ∈ c.O, i < ps.length → i ∈ c.io) (hnx : m = true → ∀ env env', fb env ≠ some (.nx env'))
    (hbody : ∀ (cdv : Value) (A : Around) (outer : List PySem.Env) (s : Shared) (H : Hp) (E : XK), Room k (A.deeper (PyProof.Rows.envOfC qual scope s.heap.objs.size fa cdv)) → DSs m (cxOf CX0 P w K mg base N qual scope fa cdv A outer s H E).nox C c body fb)
    (hci : c.ci = [0] := by rfl) (hcn : c.cn = [] := by rfl) (hOn : ∀ i ∈ c.O, i < c.n := by decide) : FnOk P w K mg base CX0 (k + 1) fa fd ps (spFc K C c.io m ps.length (runFc c ps.length fb)) := by
  refine Fn.ok Sc (fun vs H Q E ⟨b, _, hl, _⟩ => hl) fun cdv A outer s H vs Q E hr ⟨b, hb, hl, F, ds, r, outs, sb, hl1, ar, e, kk⟩ => ?_
  refine ⟨_, PSs.nox (hbody cdv A outer s H E hr), ?_⟩
  obtain ⟨fl, e1, e2⟩ := Option.bind_eq_some_iff.mp e
  have hps : ps.length ≤ N.length := by have := congrArg List.length Sc.pre; rw [List.length_take] at this; omega
  have hdl : ds.length = ps.length + 1 := by rw [← ar.len]; exact hl1
  have hsl : (L2.start N vs).length = c.n := by
    unfold L2.start
    rw [List.length_append, List.length_map, List.length_replicate]
    omega
  have el0 : (env0 c.n (ds.take ps.length)).length = c.n := by
    unfold env0
    rw [List.length_append, List.length_map, List.length_replicate, List.length_take]
    omega
  have ec : cells C c = [some (V.ref b)] := cells_one hci hcn hb
  have ex : c.x = ⟨c.n + 1, c.O ++ [c.n], c.io ++ [c.n], [], []⟩ := x_one hci hcn
  -- which argument a slot holds
  have arg : ∀ i d, gt (envC c.n ps.length ds) i = some d → ∃ q, (i = q ∧ i < ps.length ∨ i = c.n ∧ q = ps.length) ∧ ds[q]? = some d := fun i d h => by
    unfold envC at h
    rcases Nat.lt_trichotomy i c.n with lt | eq | g
    · rw [gt_app (by rw [el0]; exact lt)] at h
      have hd := gt_env0.mp h
      have lt2 := (List.getElem?_eq_some_iff.mp hd).1
      rw [List.length_take] at lt2
      rw [List.getElem?_take_of_lt (by omega)] at hd
      exact ⟨i, .inl ⟨rfl, by omega⟩, hd⟩
    · have h2 := gt_app_len (l := env0 c.n (ds.take ps.length)) (y := ds[ps.length]?)
      rw [el0, ← eq] at h2
      rw [← eq, h2] at h
      exact ⟨ps.length, .inr ⟨eq, rfl⟩, h⟩
    · have := gt_lt h
      rw [List.length_append, el0] at this
      simp at this
      omega
  have hst : ∀ (i q : Nat) v, (i = q ∧ i < ps.length ∨ i = c.n ∧ q = ps.length) → (vs ++ [V.ref b])[q]? = some v → (L2.start N vs ++ [some (V.ref b)])[i]? = some (some v) := fun i q v h hv => by
    rcases h with ⟨rfl, lt⟩ | ⟨rfl, rfl⟩
    · rw [List.getElem?_append_left (by omega)] at hv
      rw [List.getElem?_append_left (by omega)]
      unfold L2.start
      rw [List.getElem?_append_left (by rw [List.length_map]; omega), List.getElem?_map, hv]
      rfl
    · rw [← hl, List.getElem?_append_right (Nat.le_refl _)] at hv
      rw [← hsl, List.getElem?_append_right (Nat.le_refl _)]
      simp only [Nat.sub_self] at hv ⊢
      cases hv
      rfl
  have inIo : ∀ i q, (i = q ∧ i < ps.length ∨ i = c.n ∧ q = ps.length) → i ∈ c.O ++ [c.n] → q ∈ c.io ++ [ps.length] := fun i q h hi => by
    rcases h with ⟨rfl, lt⟩ | ⟨rfl, rfl⟩
    · rcases List.mem_append.mp hi with h | h
      · exact List.mem_append_left _ (hO i h lt)
      · have : i = c.n := by simpa using h
        omega
    · exact List.mem_append_right _ (List.mem_cons_self ..)
  have fromIo : ∀ k i', (c.io ++ [ps.length])[k]? = some i' → ∃ i, (c.io ++ [c.n])[k]? = some i ∧ i ∈ c.O ++ [c.n] ∧ (i = i' ∧ i < ps.length ∨ i = c.n ∧ i' = ps.length) := fun k i' h => by
    by_cases lt : k < c.io.length
    · rw [List.getElem?_append_left lt] at h
      have := hio i' (List.mem_of_getElem? h)
      exact ⟨i', by rw [List.getElem?_append_left lt]; exact h, List.mem_append_left _ this.2, .inl ⟨rfl, this.1⟩⟩
    · rw [List.getElem?_append_right (by omega)] at h
      cases hk : k - c.io.length with
      | zero => rw [hk] at h; simp at h; exact ⟨c.n, by rw [List.getElem?_append_right (by omega), hk]; rfl, List.mem_append_right _ (List.mem_cons_self ..), .inr ⟨rfl, h.symm⟩⟩
      | succ j => rw [hk] at h; simp at h
  have toIo : ∀ (k i : Nat), (c.io ++ [c.n])[k]? = some i → ∃ i', (c.io ++ [ps.length])[k]? = some i' ∧ i ∈ c.O ++ [c.n] ∧ (i = i' ∧ i < ps.length ∨ i = c.n ∧ i' = ps.length) := fun k i h => by
    by_cases lt : k < c.io.length
    · rw [List.getElem?_append_left lt] at h
      have := hio i (List.mem_of_getElem? h)
      exact ⟨i, by rw [List.getElem?_append_left lt]; exact h, List.mem_append_left _ this.2, .inl ⟨rfl, this.1⟩⟩
    · rw [List.getElem?_append_right (by omega)] at h
      cases hk : k - c.io.length with
      | zero => rw [hk] at h; simp at h; subst h; exact ⟨ps.length, by rw [List.getElem?_append_right (by omega), hk]; rfl, List.mem_append_right _ (List.mem_cons_self ..), .inr ⟨rfl, rfl⟩⟩
      | succ j => rw [hk] at h; simp at h
  have back : ∀ (i q : Nat) d, (i = q ∧ i < ps.length ∨ i = c.n ∧ q = ps.length) → ds[q]? = some d → gt (envC c.n ps.length ds) i = some d := fun i q d h hd => by
    unfold envC
    rcases h with ⟨rfl, lt⟩ | ⟨rfl, rfl⟩
    · rw [gt_app (by rw [el0]; omega)]
      exact gt_env0.mpr (by rw [List.getElem?_take_of_lt (by omega)]; exact hd)
    · have := gt_app_len (l := env0 c.n (ds.take ps.length)) (y := ds[ps.length]?)
      rw [el0] at this
      rw [this]; exact hd
  have S : SR K C c ⟨F, H, ioAs (c.io ++ [ps.length]) (vs ++ [.ref b]), []⟩ F (envC c.n ps.length ds) (L2.start N vs) H := by
    refine ⟨?_, hsl, hOn, fun i hi => (hio i hi).2⟩
    rw [ex, ec]
    refine ⟨sb, Same.refl _, fun b o h => .inl h, fun b o h _ => h, ?_, ?_, fun i d h hi => ?_, fun i d h hi => ?_, fun i j di dj a hi hj hij ei ej si sj => ?_, by simp [ioAs], fun a d h => (nomatch h), fun a d i e h => (nomatch h), List.nodup_nil, fun k i h => ?_⟩
    · unfold envC
      rw [List.length_append, List.length_append, el0, hsl]; rfl
    · unfold envC
      rw [List.length_append, el0]; rfl
    · obtain ⟨q, hq, hd⟩ := arg i d h
      have lt : q < (vs ++ [V.ref b]).length := by rw [hl1, ← hdl]; exact (List.getElem?_eq_some_iff.mp hd).1
      have hv := List.getElem?_eq_getElem lt
      refine ⟨_, hst i q _ hq hv, ar.pur q _ d hv hd fun hm => hi ?_⟩
      rcases hq with ⟨rfl, lq⟩ | ⟨rfl, rfl⟩
      · rcases List.mem_append.mp hm with h1 | h1
        · exact List.mem_append_left _ (hio i h1).2
        · have : i = ps.length := by simpa using h1
          omega
      · exact List.mem_append_right _ (List.mem_cons_self ..)
    · obtain ⟨q, hq, hd⟩ := arg i d h
      have hm := inIo i q hq hi
      obtain ⟨a, d', h1, h2, h3, h4⟩ := ar.own q hm
      rw [hd] at h2; cases h2
      obtain ⟨kq, hk⟩ := List.getElem?_of_mem hm
      refine ⟨a, hst i q _ hq h1, h3, h4, .inr ⟨?_, List.mem_of_getElem? (ioAs_get hk h1)⟩⟩
      rcases hq with ⟨rfl, lq⟩ | ⟨rfl, rfl⟩
      · rcases List.mem_append.mp hm with h1 | h1
        · exact List.mem_append_left _ h1
        · have : i = ps.length := by simpa using h1
          omega
      · exact List.mem_append_right _ (List.mem_cons_self ..)
    · obtain ⟨q1, hq1, hd1⟩ := arg i di ei
      obtain ⟨q2, hq2, hd2⟩ := arg j dj ej
      obtain ⟨a1, _, w1, _⟩ := ar.own q1 (inIo i q1 hq1 hi)
      obtain ⟨a2, _, w2, _⟩ := ar.own q2 (inIo j q2 hq2 hj)
      have g1 := hst i q1 _ hq1 w1
      have g2 := hst j q2 _ hq2 w2
      rw [si] at g1; cases g1
      rw [sj] at g2; cases g2
      refine ar.dist q1 q2 a (inIo i q1 hq1 hi) (inIo j q2 hq2 hj) (fun hh => ?_) w1 w2
      rcases hq1 with ⟨h1, h2⟩ | ⟨h1, h2⟩ <;> rcases hq2 with ⟨h3, h4⟩ | ⟨h3, h4⟩ <;> omega
    · obtain ⟨i', hk, hi, hq⟩ := toIo k i h
      obtain ⟨a, d, h1, h2, h3, h4⟩ := ar.own i' (List.mem_of_getElem? hk)
      exact ⟨hi, a, d, ioAs_get hk h1, hst i i' _ hq h1, back i i' d hq h2⟩
  have fin : ∀ v F' H' env', RetOk m K C c ⟨F, H, ioAs (c.io ++ [ps.length]) (vs ++ [.ref b]), []⟩ F' env' H' v r → outsOf env' (c.io ++ [c.n]) = some outs → Q v H' := fun v F' H' env' R ho => by
    refine kk v F' H' ⟨R.f0, R.sub, R.new, fun b o h hb => R.keep b o h fun hm => ?_, fun k i' a hk ha => ?_, ?_⟩
    · obtain ⟨i, hi, q⟩ := List.mem_map.mp hm
      obtain ⟨a, _, h1, _⟩ := ar.own i hi
      rw [h1] at q
      have q' : a = b := q
      subst q'
      exact hb i hi h1
    · obtain ⟨i, hki, _, _⟩ := fromIo k i' hk
      obtain ⟨a', d, h1, h2, h3, h4⟩ := R.ios k i (by rw [ex]; exact hki)
      have h1' := ioAs_get hk ha
      have h1'' : (ioAs (c.io ++ [ps.length]) (vs ++ [.ref b]))[k]? = some a' := h1
      rw [h1'] at h1''; cases h1''
      obtain ⟨d', q1, q2⟩ := outs_get ho k i hki
      rw [h2] at q2; cases q2
      exact ⟨d, q1, h3, h4⟩
    · have := R.val
      cases m with
      | false => exact this
      | true =>
        obtain ⟨a, h1, h2, h3, h4⟩ := this
        exact ⟨a, h1, h3, h2, h4⟩
  refine ⟨_, F, _, fl, S, rfl, e1, ?_⟩
  cases fl with
  | nx env' =>
    obtain ⟨os, h1, h2⟩ := Option.bind_eq_some_iff.mp e2
    cases h2
    intro F' σ' H' s' S'
    cases m with
    | true => exact absurd e1 (hnx rfl _ _)
    | false => exact fin .non F' H' env' (S'.ret (m := false) .non) h1
  | rt d env' =>
    obtain ⟨os, h1, h2⟩ := Option.bind_eq_some_iff.mp e2
    cases h2
    intro v F' H' s' R
    exact fin v F' H' env' R h1
  | bk _ => cases e2
  | ct _ => cases e2
end
end DL

namespace DL
open PySem L2
section
variable {m : Bool} {X : Cx} {C : CA} {c : Cs} {e a b o : Expr} {es : List Expr} {fa : AF} {f g fo : EF} {pos p apos cpos : Pos} {x : Str} {k np : Nat} {fad : Addr} {fd : FuncData} {ps : List Str} {dv : List V} {ds0 : List Value} {ff : FF}
theorem cell_mem (h1 : c.ci = [0]) (h2 : c.cn = []) : c.n ∈ c.x.O := by
  rw [x_one h1 h2]
  exact List.mem_append_right _ (List.mem_cons_self ..)
theorem SR.cellA {K : PySem.W.Frag} {z : Zn} {F H : Hp} {env : Env} {σ : St} (S : SR K C c z F env σ H) (h1 : c.ci = [0]) (h2 : c.cn = []) {a : Addr} : (σ ++ cells C c)[c.n]? = some (some (.ref a)) ↔ C.cel 0 = some a := by
  rw [← S.ln, List.getElem?_append_right (Nat.le_refl _), Nat.sub_self]
  unfold cells Cs.cs
  rw [h1, h2]
  constructor
  · intro h
    cases q : C.cel 0 with
    | none => simp [q] at h
    | some b => simpa [q] using h
  · intro h
    simp [h]
/-! ### the cell by its object's attribute -/
def fCel (n kk : Nat) (nm : Str) (f : EF) : EF := fun env => (f env).bind fun p => (rdB p.2 p.1).bind fun x => (attrD kk nm x).bind fun d => match d with
  | .cel 0 => some (.slot n, p.2)
  | _ => none
theorem de_cel (kk : Nat) {nm : Str} (he : DE X C c e f) (cl : Cls X.K (C kk)) (na : NoAttr X.K (C kk) nm) (h1 : c.ci = [0] := by rfl) (h2 : c.cn = [] := by rfl) (hb : attributeBase e nm X.env (eval e X.env) = eval e X.env := by rfl) : DE X C c (.Attribute e nm pos) (fCel c.n kk nm f) := by
  refine PE.imp (pe_fld he hb) fun σ H Q ⟨z, F, env, b, env', S, e, k⟩ => ?_
  simp only [fCel, Option.bind_eq_some_iff] at e
  obtain ⟨⟨b1, e1⟩, q1, x, q2, d, q3, e⟩ := e
  split at e
  case h_2 => cases e
  cases e
  refine ⟨z, F, env, b1, e1, S, q1, fun v F1 H1 s1 S1 r1 => ?_⟩
  cases x <;> simp only [attrD] at q3 <;> try (cases q3; done)
  split at q3
  case isFalse => cases q3
  next hk =>
  subst hk
  obtain ⟨a, dx, vs, rfl, w1, w2⟩ := (r1.rb S1 q2).obj S1.sub
  obtain ⟨u, w3, w4⟩ := w2.look q3
  cases w4 with
  | cel j hc => exact ⟨a, _, dx, vs, _, rfl, w1, cl, na, w3, k _ F1 H1 s1 S1 ⟨cell_mem h1 h2, (S1.cellA h1 h2).mpr hc⟩⟩
/-! ### o[k] = e, o an expression that gives a list of one's own -/
theorem SR.writeX {K : PySem.W.Frag} {z : Zn} {F H : Hp} {env : Env} {σ : St} (S : SR K C c z F env σ H) {i : Nat} {d d' : D} {a : Addr} {o : HO} (hi : i ∈ c.x.O) (hd : gt env i = some d) (ha : (σ ++ cells C c)[i]? = some (some (.ref a))) (ho : Own K C F (upd H a o) a d') :
    SR K C c z F (st env i (some d')) σ (upd H a o) := ⟨S.b.write hi hd ha ho, S.ln, S.hO, S.hio⟩
def sSetIxE (fo fk fe : EF) : SF := fun env => (fe env).bind fun p => match p.1 with
  | .val d => (fo p.2).bind fun o => (match o.1 with
    | .slot i => (fk o.2).bind fun q => (rdB q.2 q.1).bind fun k => (gt q.2 i).bind fun dc => (match dc with
      | .lst _ => (setD dc k d).bind fun dc' => some (.nx (st q.2 i (some dc')))
      | _ => none)
    | .val _ => none)
  | .slot _ => none
theorem ds_setIxE {k : Expr} {pos' : Pos} (ho : DE X C c o fo) (hk : DE X C c k g) (he : DE X C c e f)
    (hs1 : swapsWithSole [.Subscript o k pos'] e pos.line X.env = pure false := by rfl) (hw : swappedStores [.Subscript o k pos'] e X.env = pure none := by rfl) (h1 : (assignEach [.Subscript o k pos'] X.env).map (·.2) = [assign (.Subscript o k pos') X.env] := by rfl)
    (has : ∀ v, assign (.Subscript o k pos') X.env v = (do let ov ← holding [v] (eval o X.env); let iv ← holding [v, ov] (eval k X.env); standAt pos'; holding [v, ov, iv] (setItem ov iv v); release [v, ov, iv] []) := by intro _; rfl) : DS m X C c (.Assign [.Subscript o k pos'] e pos) (sSetIxE fo g f) := by
  refine PS.imp (ps_asg he (pg_sub ho hk set_list has) hs1 hw h1) fun Dn σ H ⟨z, F, env, fl, S, hg, e, kk⟩ => ?_
  obtain ⟨⟨b, e1⟩, h1, e⟩ := Option.bind_eq_some_iff.mp e
  cases b with
  | slot _ => cases e
  | val d =>
    obtain ⟨⟨b2, e2⟩, h2, e⟩ := Option.bind_eq_some_iff.mp e
    cases b2 with
    | val _ => cases e
    | slot i =>
      simp only [Option.bind_eq_some_iff] at e
      obtain ⟨⟨b3, e3⟩, h3, dk, h4, dc, h5, e⟩ := e
      split at e
      case h_2 => cases e
      next ds =>
      obtain ⟨dc', h6, e⟩ := Option.bind_eq_some_iff.mp e
      cases e
      refine ⟨z, F, env, _, e1, S, h1, fun v F1 H1 s1 S1 r1 => ⟨z, F1, e1, _, e2, S1, h2, fun ov F2 H2 s2 S2 r2 => ⟨z, F2, e2, b3, e3, S2, h3, fun w F3 H3 s3 S3 r3 => ?_⟩⟩⟩
      obtain ⟨hO, hv⟩ := r2
      obtain ⟨a', ha', _, ow, _⟩ := S3.b.own i _ h5 hO
      rw [hv] at ha'; cases ha'
      cases dk <;> simp only [setD] at h6 <;> try (cases h6; done)
      obtain ⟨j, q3, q4⟩ := Option.bind_eq_some_iff.mp h6
      cases q4
      obtain ⟨xs, q1, q5, q2⟩ := id ow
      exact ⟨_, xs, _, j, rfl, (r3.rb S3 h4).int, q1, by rw [q2.length]; exact q3, kk F3 σ _ (s1.trans (s2.trans s3)) (S3.writeX hO h5 hv ⟨_, upd_same, by rw [List.length_set]; exact q5, q2.set (Rp.mono (s2.trans s3) r1) j⟩)⟩
/-! ### o.m(..), o data with the cell -/
def fMeC (kk : Nat) (nm : Str) (np n : Nat) (ff : FF) (fo : EF) (fa : AF) : EF := fun env => (fo env).bind fun p => match p.1 with
  | .val (.obj k fs) => if k = kk ∧ fs.lookup nm = none then (fa p.2).bind fun q => (vals q.1).bind fun ds => (gt q.2 n).bind fun dc => if (D.obj k fs :: ds).length = np then (ff (.obj k fs :: ds ++ [dc])).bind fun r => (match r.2 with
    | [o] => some (.val r.1, st q.2 n (some o))
    | _ => none) else none else none
  | _ => none
def oMeC (kk : Nat) (nm : Str) (np n : Nat) (ff : FF) (fo : EF) (fa : AF) : OF := fun env => (fo env).bind fun p => match p.1 with
  | .val (.obj k fs) => if k = kk ∧ fs.lookup nm = none then (fa p.2).bind fun q => (vals q.1).bind fun ds => (gt q.2 n).bind fun dc => if (D.obj k fs :: ds).length = np then (ff (.obj k fs :: ds ++ [dc])).bind fun r => (match r.2 with
    | [o] => some (r.1, st q.2 n (some o))
    | _ => none) else none else none
  | _ => none
theorem cell_call {z : Zn} {F H : Hp} {env : Env} {σ : St} {vs : List V} {ds : List D} {dc r o : D} {Q : VK} (h1 : c.ci = [0]) (h2 : c.cn = []) (S : SR X.K C c z F env σ H) (rp : RpAll X.K C F vs ds) (hc : gt env c.n = some dc) (hl : ds.length = np) (e : ff (ds ++ [dc]) = some (r, [o]))
    (k : ∀ v F' H', Same F F' → SR X.K C c z F' (st env c.n (some o)) σ H' → (if m = true then ∃ a, v = .ref a ∧ H a = none ∧ F' a = none ∧ Own X.K C F' H' a r else Rp X.K C F' v r) → Q v H') : spFc X.K C [] m np ff vs H Q E0 := by
  obtain ⟨a, ha, fa1, ow, za⟩ := S.b.own c.n dc hc (cell_mem h1 h2)
  have hl' : vs.length = np := by rw [rp.length]; exact hl
  refine ⟨a, (S.cellA h1 h2).mp ha, hl', F, ds ++ [dc], r, [o], S.sub, by rw [List.length_append, hl']; rfl, ⟨by simp [rp.length], fun i v d w1 w2 hi => ?_, fun i hi => ?_, fun i j a hi hj hij => ?_⟩, e, fun v F' H' dn => ?_⟩
  · have hne : i ≠ np := fun q => hi (by rw [q]; exact List.mem_cons_self ..)
    have lt : i < np := by
      have := (List.getElem?_eq_some_iff.mp w1).1
      rw [List.length_append, hl'] at this
      simp at this
      omega
    rw [List.getElem?_append_left (by omega)] at w1 w2
    obtain ⟨d', q1, q2⟩ := rp.get w1
    rw [w2] at q1; cases q1
    exact q2
  · have : i = np := by simpa using hi
    subst this
    refine ⟨a, dc, ?_, ?_, fa1, ow⟩
    · rw [← hl', List.getElem?_append_right (Nat.le_refl _), Nat.sub_self]; rfl
    · rw [← hl, List.getElem?_append_right (Nat.le_refl _), Nat.sub_self]; rfl
  · have w1 : i = np := by simpa using hi
    have w2 : j = np := by simpa using hj
    exact absurd (w1.trans w2.symm) hij
  · have hva : (vs ++ [V.ref a])[np]? = some (.ref a) := by rw [← hl', List.getElem?_append_right (Nat.le_refl _), Nat.sub_self]; rfl
    obtain ⟨d', q1, q2, q3⟩ := dn.ios 0 np a rfl hva
    have q1' : o = d' := Option.some.inj q1
    subst q1'
    refine k v F' H' dn.sub (S.calledX (cell_mem h1 h2) hc ha dn.sub dn.inn dn.new (fun b u hu hne => dn.keep b u hu fun i hi hb => ?_) q2 q3) dn.val
    have hi0 : i = np := by simpa using hi
    subst hi0
    rw [hva] at hb
    cases hb
    exact hne rfl
/-- what the call of a method hands on -/
theorem meC_core {z : Zn} {F : Hp} {env env' : Env} {σ : St} {H : Hp} {Q : VK} {kk : Nat} {nm : Str} {d : D} {t : TA} (h1 : c.ci = [0]) (h2 : c.cn = []) (ht : ∀ σ H Q, tAr X.K C c fa σ H Q → t σ H Q) (S : SR X.K C c z F env σ H) (q0 : oMeC kk nm np c.n ff fo fa env = some (d, env'))
    (k : ∀ v F1 H1 e1 F' H', Same F F' → SR X.K C c z F1 e1 σ H1 → (∃ x, env' = st e1 c.n x) ∧ (∃ d0, gt e1 c.n = some d0) → SR X.K C c z F' env' σ H' → (if m = true then ∃ a, v = .ref a ∧ H1 a = none ∧ F' a = none ∧ Own X.K C F' H' a d else Rp X.K C F' v d) → Q v H') :
    tMeth (C kk) nm (spFc X.K C [] m np ff) [] E0 (tE X.K C c fo) t σ H Q := by
  obtain ⟨⟨b, e1⟩, q1, q2⟩ := Option.bind_eq_some_iff.mp q0
  clear q0
  cases b with
  | slot _ => cases q2
  | val dx =>
    cases dx <;> simp only at q2 <;> try (cases q2; done)
    split at q2
    case isFalse => cases q2
    next hk =>
    obtain ⟨hk, hl⟩ := hk
    subst hk
    obtain ⟨⟨bs, e2⟩, w2, q3⟩ := Option.bind_eq_some_iff.mp q2
    obtain ⟨ds, w3, q4⟩ := Option.bind_eq_some_iff.mp q3
    obtain ⟨dc, w4, q5⟩ := Option.bind_eq_some_iff.mp q4
    clear q2 q3 q4
    split at q5
    case isFalse => cases q5
    next hnp =>
    obtain ⟨⟨r, os⟩, w5, q6⟩ := Option.bind_eq_some_iff.mp q5
    dsimp only at q6
    split at q6
    case h_2 => cases q6
    next o =>
    cases q6
    refine ⟨z, F, env, _, e1, S, q1, fun v F1 H1 s1 S1 r1 => ?_⟩
    cases r1 with
    | obj u1 u2 =>
      refine ⟨_, _, _, rfl, S1.sub _ _ u1, u2.look_none hl, ht _ _ _ ⟨z, F1, e1, bs, e2, S1, w2, fun vs F2 H2 s2 S2 r2 => ?_⟩⟩
      have rp : RpAll X.K C F2 (.ref _ :: vs) (.obj _ _ :: ds) := .cons (Rp.mono s2 (.obj u1 u2)) (vals_rp r2 w3)
      show spFc X.K C [] m np ff (V.ref _ :: (vs ++ [])) H2 Q E0
      rw [List.append_nil]
      exact cell_call (m := m) h1 h2 S2 rp w4 hnp w5 fun v F' H' s' S' rv => k v F2 H2 e2 F' H' (s1.trans (s2.trans s')) S2 ⟨⟨_, rfl⟩, _, w4⟩ S' rv
theorem fMeC_o {kk : Nat} {nm : Str} {n : Nat} {env env' : Env} {b : B} (h : fMeC kk nm np n ff fo fa env = some (b, env')) : ∃ d, b = .val d ∧ oMeC kk nm np n ff fo fa env = some (d, env') := by
  unfold fMeC at h
  unfold oMeC
  obtain ⟨⟨b1, e1⟩, q1, h⟩ := Option.bind_eq_some_iff.mp h
  rw [q1]
  cases b1 with
  | slot _ => cases h
  | val dx =>
    cases dx <;> simp only at h <;> try (cases h; done)
    split at h
    case isFalse => cases h
    next hk =>
    obtain ⟨⟨bs, e2⟩, w2, h⟩ := Option.bind_eq_some_iff.mp h
    obtain ⟨ds, w3, h⟩ := Option.bind_eq_some_iff.mp h
    obtain ⟨dc, w4, h⟩ := Option.bind_eq_some_iff.mp h
    split at h
    case isFalse => cases h
    next hnp =>
    obtain ⟨⟨r, os⟩, w5, h⟩ := Option.bind_eq_some_iff.mp h
    dsimp only at h
    split at h
    case h_2 => cases h
    cases h
    refine ⟨r, rfl, ?_⟩
    simp only [Option.bind_some, if_pos hk, w2, w3, w4, if_pos hnp, w5]
theorem tNil_of : ∀ σ H Q, tAr X.K C c aN σ H Q → tNil σ H Q := fun σ H Q ⟨z, F, env, b, env', S, e, k⟩ => by
  cases e
  exact k [] F H (Same.refl _) S .nil
/-- a new object's address is nobody's -/
theorem nobody {z : Zn} {F1 F' H1 H' : Hp} {e1 : Env} {n : Nat} {y : Option D} {σ : St} {a : Addr} (S1 : SR X.K C c z F1 e1 σ H1) (S' : SR X.K C c z F' (st e1 n y) σ H') (hn : H1 a = none) (hy : ∃ d0, gt e1 n = some d0) : Apt C c (st e1 n y) σ a ∧ ∀ e, (a, e) ∉ z.gh := by
  refine ⟨fun i d hi ei hs => ?_, fun d hgd => ?_⟩
  · have old : ∃ d', gt e1 i = some d' := by
      by_cases hij : n = i
      · subst hij; exact hy
      · rw [gt_st_ne hij] at ei; exact ⟨d, ei⟩
    obtain ⟨d', hd'⟩ := old
    obtain ⟨a', q1, _, q3, _⟩ := S1.b.own i d' hd' hi
    rw [hs] at q1; cases q1
    obtain ⟨u, hu⟩ := q3.some
    rw [hn] at hu; cases hu
  · obtain ⟨_, q3, _⟩ := S1.gho a d hgd
    obtain ⟨u, hu⟩ := q3.some
    rw [hn] at hu; cases hu
theorem de_meC (kk : Nat) {nm : Str} {pl : Sem Bool} (ho : DE X C c o fo) (cl : Cls X.K (C kk)) (hmt : Meth X.K (C kk) nm fad) (Fk : FnOk X.prog X.w X.K X.mg X.base CX0 k fad fd ps (spFc X.K C [] false np ff)) (hr : Room k X.A) (hb : Binds X.K fd ps []) (ha : DA X C c (e :: es) fa) (h1 : c.ci = [0] := by rfl) (h2 : c.cn = [] := by rfl)
    (hst : starEach (e :: es) X.env = (false, eval e X.env) :: starEach es X.env := by rfl) (hpl : (backTo pos (starEach es X.env)).any (·.1) = false := by rfl)
    (ht : eval (.Call (.Attribute o nm apos) (e :: es) [] pos) X.env = (do
      let ov ← eval o X.env
      standAt apos.atName
      let (f, first) ← holding [ov] (getMethod ov nm pl)
      callWith pos f first (backTo pos (starEach (e :: es) X.env)) (backToKw pos (keywordEach [] X.env))) := by rfl) :
    DE X C c (.Call (.Attribute o nm apos) (e :: es) [] pos) (fMeC kk nm np c.n ff fo fa) :=
  PE.imp (pe_meth ho cl hmt Fk hr hb .nil pass0 ha hst hpl ht) fun σ H Q ⟨z, F, env, b, env', S, e, kk⟩ => by
    obtain ⟨d, rfl, e0⟩ := fMeC_o e
    exact meC_core (m := false) h1 h2 (fun _ _ _ h => h) S e0 fun v F1 H1 e1 F' H' s' _ _ S' rv => kk v F' H' s' S' rv
theorem de_meC0 (kk : Nat) {nm : Str} {pl : Sem Bool} (ho : DE X C c o fo) (cl : Cls X.K (C kk)) (hmt : Meth X.K (C kk) nm fad) (Fk : FnOk X.prog X.w X.K X.mg X.base CX0 k fad fd ps (spFc X.K C [] false np ff)) (hr : Room k X.A) (hb : Binds X.K fd ps []) (h1 : c.ci = [0] := by rfl) (h2 : c.cn = [] := by rfl)
    (ht : eval (.Call (.Attribute o nm apos) [] [] pos) X.env = (do
      let ov ← eval o X.env
      standAt apos.atName
      let (f, first) ← holding [ov] (getMethod ov nm pl)
      callWith pos f first (backTo pos (starEach [] X.env)) (backToKw pos (keywordEach [] X.env))) := by rfl) :
    DE X C c (.Call (.Attribute o nm apos) [] [] pos) (fMeC kk nm np c.n ff fo aN) :=
  PE.imp (pe_meth0 ho cl hmt Fk hr hb .nil pass0 ht) fun σ H Q ⟨z, F, env, b, env', S, e, kk⟩ => by
    obtain ⟨d, rfl, e0⟩ := fMeC_o e
    exact meC_core (m := false) h1 h2 tNil_of S e0 fun v F1 H1 e1 F' H' s' _ _ S' rv => kk v F' H' s' S' rv
/-! ### o.m(l, ..), l a list of one's own that is changed -/
def oMeI (kk : Nat) (nm : Str) (np : Nat) (ff : FF) (fo : EF) (fa : AF) : OF := fun env => (fo env).bind fun p => match p.1 with
  | .val (.obj k fs) => if k = kk ∧ fs.lookup nm = none then (fa p.2).bind fun q => (ioArgs q.2 q.1).bind fun a => if (D.obj k fs :: a.2).length = np then (ff (.obj k fs :: a.2)).bind fun r => (match r.2 with
    | [o] => some (r.1, st q.2 a.1 (some o))
    | _ => none) else none else none
  | _ => none
def fMeI (kk : Nat) (nm : Str) (np : Nat) (ff : FF) (fo : EF) (fa : AF) : EF := fun env => (oMeI kk nm np ff fo fa env).bind fun r => some (.val r.1, r.2)
theorem callI_read {z : Zn} {F H : Hp} {env : Env} {σ : St} {v0 : V} {d0 : D} {vs : List V} {bs : List B} {j : Nat} {ds : List D} {Q : VK} {r o : D} (S : SR X.K C c z F env σ H) (r0 : Rp X.K C F v0 d0) (rb : RBs X.K C c F σ vs bs) (ea : ioArgs env bs = some (j, ds)) (hl : (d0 :: ds).length = np) (e : ff (d0 :: ds) = some (r, [o])) (k : ∀ v F' H', Same F F' → SR X.K C c z F' (st env j (some o)) σ H' → (∃ d, gt env j = some d) → (if m = true then ∃ a, v = .ref a ∧ H a = none ∧ F' a = none ∧ Own X.K C F' H' a r else Rp X.K C F' v r) → Q v H') :
    spF X.K C [1] m np ff (v0 :: vs) H Q E0 := by
  cases rb with
  | nil => cases ea
  | @cons v vs b bs r1 r2 =>
    cases b with
    | val _ => cases ea
    | slot i =>
      simp only [ioArgs, Option.bind_eq_some_iff] at ea
      obtain ⟨d, h1, ds', h2, ea⟩ := ea
      cases ea
      obtain ⟨hO, hv⟩ := r1
      obtain ⟨a, ha, fa1, ow, za⟩ := S.b.own j d h1 hO
      rw [hv] at ha; cases ha
      have rp := vals_rp r2 h2
      refine ⟨F, d0 :: d :: ds', r, [o], S.sub, by rw [List.length_cons, List.length_cons, rp.length]; exact hl, ⟨by simp [rp.length], fun i v d h1 h2 hi => ?_, fun i hi => ?_, fun i j a hi hj hij => ?_⟩, e, fun v F' H' dn => ?_⟩
      · cases i with
        | zero =>
          cases h1
          cases h2
          exact r0
        | succ i => cases i with
          | zero => exact absurd (List.mem_cons_self ..) hi
          | succ i =>
            obtain ⟨d', q1, q2⟩ := rp.get (by simpa using h1)
            have h2' : ds'[i]? = some d := by simpa using h2
            rw [h2'] at q1; cases q1
            exact q2
      · have : i = 1 := by simpa using hi
        subst this
        exact ⟨a, d, rfl, rfl, fa1, ow⟩
      · have h1 : i = 1 := by simpa using hi
        have h2 : j = 1 := by simpa using hj
        exact absurd (h1.trans h2.symm) hij
      · obtain ⟨d', q1, q2, q3⟩ := dn.ios 0 1 a rfl rfl
        have q1' : o = d' := Option.some.inj q1
        subst q1'
        refine k v F' H' dn.sub (S.calledX hO h1 hv dn.sub dn.inn dn.new (fun b u hu hne => dn.keep b u hu fun i hi hb => ?_) q2 q3) ⟨_, h1⟩ dn.val
        have hi0 : i = 1 := by simpa using hi
        subst hi0
        have hb' : V.ref a = V.ref b := Option.some.inj hb
        cases hb'
        exact hne rfl
theorem meI_core {z : Zn} {F : Hp} {env env' : Env} {σ : St} {H : Hp} {Q : VK} {kk : Nat} {nm : Str} {d : D} (S : SR X.K C c z F env σ H) (q0 : oMeI kk nm np ff fo fa env = some (d, env'))
    (k : ∀ v F1 H1 e1 j F' H', Same F F' → SR X.K C c z F1 e1 σ H1 → (∃ x, env' = st e1 j x) ∧ (∃ d0, gt e1 j = some d0) → SR X.K C c z F' env' σ H' → (if m = true then ∃ a, v = .ref a ∧ H1 a = none ∧ F' a = none ∧ Own X.K C F' H' a d else Rp X.K C F' v d) → Q v H') :
    tMeth (C kk) nm (spF X.K C [1] m np ff) [] E0 (tE X.K C c fo) (tAr X.K C c fa) σ H Q := by
  obtain ⟨⟨b, e1⟩, q1, q2⟩ := Option.bind_eq_some_iff.mp q0
  clear q0
  cases b with
  | slot _ => cases q2
  | val dx =>
    cases dx <;> simp only at q2 <;> try (cases q2; done)
    split at q2
    case isFalse => cases q2
    next hk =>
    obtain ⟨hk, hl⟩ := hk
    subst hk
    obtain ⟨⟨bs, e2⟩, w2, q3⟩ := Option.bind_eq_some_iff.mp q2
    obtain ⟨⟨j, ds⟩, w3, q5⟩ := Option.bind_eq_some_iff.mp q3
    clear q2 q3
    split at q5
    case isFalse => cases q5
    next hnp =>
    obtain ⟨⟨r, os⟩, w5, q6⟩ := Option.bind_eq_some_iff.mp q5
    dsimp only at q6
    split at q6
    case h_2 => cases q6
    next o =>
    cases q6
    refine ⟨z, F, env, _, e1, S, q1, fun v F1 H1 s1 S1 r1 => ?_⟩
    cases r1 with
    | obj u1 u2 =>
      refine ⟨_, _, _, rfl, S1.sub _ _ u1, u2.look_none hl, z, F1, e1, bs, e2, S1, w2, fun vs F2 H2 s2 S2 r2 => ?_⟩
      show spF X.K C [1] m np ff (V.ref _ :: (vs ++ [])) H2 Q E0
      rw [List.append_nil]
      exact callI_read (m := m) S2 (Rp.mono s2 (.obj u1 u2)) r2 w3 hnp w5 fun v F' H' s' S' hg rv => k v F2 H2 e2 _ F' H' (s1.trans (s2.trans s')) S2 ⟨⟨_, rfl⟩, hg⟩ S' rv
theorem de_meI (kk : Nat) {nm : Str} {pl : Sem Bool} (ho : DE X C c o fo) (cl : Cls X.K (C kk)) (hmt : Meth X.K (C kk) nm fad) (Fk : FnOk X.prog X.w X.K X.mg X.base CX0 k fad fd ps (spF X.K C [1] false np ff)) (hr : Room k X.A) (hb : Binds X.K fd ps []) (ha : DA X C c (e :: es) fa)
    (hst : starEach (e :: es) X.env = (false, eval e X.env) :: starEach es X.env := by rfl) (hpl : (backTo pos (starEach es X.env)).any (·.1) = false := by rfl)
    (ht : eval (.Call (.Attribute o nm apos) (e :: es) [] pos) X.env = (do
      let ov ← eval o X.env
      standAt apos.atName
      let (f, first) ← holding [ov] (getMethod ov nm pl)
      callWith pos f first (backTo pos (starEach (e :: es) X.env)) (backToKw pos (keywordEach [] X.env))) := by rfl) :
    DE X C c (.Call (.Attribute o nm apos) (e :: es) [] pos) (fMeI kk nm np ff fo fa) :=
  PE.imp (pe_meth ho cl hmt Fk hr hb .nil pass0 ha hst hpl ht) fun σ H Q ⟨z, F, env, b, env', S, e, kk⟩ => by
    obtain ⟨⟨d, e1⟩, e0, e'⟩ := Option.bind_eq_some_iff.mp e
    cases e'
    exact meI_core (m := false) S e0 fun v F1 H1 e1 j F' H' s' _ _ S' rv => kk v F' H' s' S' rv
end
end DL

namespace DL
open PySem L2
/-! ### an object is made whose last field is a new list: a cell -/
section
variable {K : PySem.W.Frag} {C : CA} {F F' H H' : Hp} {b : Addr}
theorem Own.inn {a : Addr} {d : D} (h0 : C.cel 0 = none) (h : Own K C F H a d) : Own K (C.at b) F H a d := by
  cases d <;> simp only [Own] at h ⊢
  · obtain ⟨vs, q, l, r⟩ := h; exact ⟨vs, q, l, r.inn h0⟩
  · obtain ⟨vs, q, r⟩ := h; exact ⟨vs, q, r.inn h0⟩
  · obtain ⟨dx, vs, q, r⟩ := h; exact ⟨dx, vs, q, r.inn h0⟩
  · obtain ⟨q0, r⟩ := h; exact ⟨cel_at h0 q0, r⟩
  · obtain ⟨vs, q, r⟩ := h; exact ⟨vs, q, r.inn h0⟩
end
theorem FnOk.ex {P : Program} {w : World} {K : PySem.W.Frag} {mg : Str → Option Value} {base : Heap} {CX : CXT} {k : Nat} {f : Addr} {fd : FuncData} {ps : List Str} {sp : Addr → Sp} (F : ∀ b, FnOk P w K mg base CX k f fd ps (sp b)) : FnOk P w K mg base CX k f fd ps (fun vs H Q E => ∃ b, sp b vs H Q E) :=
  ⟨fun vs H Q E ⟨b, h⟩ => (F b).len vs H Q E h, fun A outer s H args us vs Q E hr e bt r ⟨b, h⟩ => (F b).run A outer s H args us vs Q E hr e bt r h⟩
/-- the promise of an __init__ that ends with a new list put into the field g -/
def spMk (K : PySem.W.Frag) (C : CA) (kk : Nat) (np : Nat) (g : Str) (f : List D → Option (List (Str × D) × D)) : Sp := fun vs H Q _ => ∃ F x dx ws ds fs dc, Same F H ∧ vs = V.ref x :: ws ∧ vs.length = np ∧ H x = some (.ins (C kk) dx []) ∧ F x = none ∧ RpAll K C F ws ds ∧ f ds = some (fs, dc) ∧
  ∀ F' H' b dx' vs', Same F F' → Same F' H' → (∀ a o, F' a = some o → F a = some o ∨ H a = none) → (∀ a o, H a = some o → a ≠ x → H' a = some o) → F' x = none → H b = none → F' b = none → b ≠ x → Own K C F' H' b dc → H' x = some (.ins (C kk) dx' (putF g (.ref b) vs')) → RpFs K C F' vs' fs → Q .non H'
/-- the last two parts: statements, then self.g = a new list -/
def tMk (K : PySem.W.Frag) (C : CA) (c : Cs) (i kk : Nat) (g : Str) (fb : SF) (oe : OF) : TS := fun Dn σ H => ∃ z F env env1 fs dc e2, SR K C c z F env σ H ∧ z.gh = [] ∧ fb env = some (.nx env1) ∧ oe env1 = some (dc, e2) ∧ gt e2 i = some (.obj kk fs) ∧ fs.length < 1000 ∧
  ∀ F1 σ1 H1 b a dx vs, Same F F1 → SR K C c z F1 e2 σ1 H1 → F1 b = none → z.H0 b = none → Own K C F1 H1 b dc → Apt C c e2 σ1 b → σ1[i]? = some (some (.ref a)) → H1 a = some (.ins (C kk) dx vs) → RpFs K C F1 vs fs → Dn.nx σ1 (upd H1 a (.ins (C kk) dx (putF g (.ref b) vs)))
section
variable {X : Cx} {C : CA} {c : Cs} {e : Expr} {s : Stmt} {ss : List Stmt} {pos : Pos} {x : Str} {f1 fb : SF} {oe : OF}
theorem pss_mk1 (i kk : Nat) {nm : Str} {pos' p' : Pos} (cl : Cls X.K (C kk)) (na : NoAttr X.K (C kk) nm) (he : DO X C c e oe) (hO : i ∈ c.O := by decide) (hN : X.N[i]? = some x := by rfl) (hv : Vis X.env.scope x := by first | exact Or.inl rfl | exact Or.inr (Or.inl rfl) | exact Or.inr (Or.inr rfl)) (hd : (x == ("__debug__" : Str)) = false := by decide) (hcd : (x == ("__classdict__" : Str)) = false := by decide)
    (hs : swapsWith e (some (.Attribute (.Name x p') nm pos')) pos.line X.env = pure false := by rfl) : PSs X [.Assign [.Attribute (.Name x p') nm pos'] e pos] (tMk X.K C c i kk nm sN oe) := by
  refine PSs.imp (pss_cons (ps_fld (pe_var hN hv hd hcd) he hs) pss_nil) fun Dn σ H ⟨z, F, env, env1, fs, dc, e2, S, hg, q1, q2, q3, q4, k⟩ => ?_
  cases q1
  refine ⟨z, F, env, dc, e2, S, q2, fun b F1 H1 s1 S1 fb zb ow ap ng => ?_⟩
  obtain ⟨a, ha, fa', ow', za⟩ := S1.own i _ q3 hO
  obtain ⟨dx, vs, w1, w2⟩ := ow'
  exact ⟨_, ha, a, _, dx, vs, rfl, w1, cl, na, by rw [w2.length]; exact q4, k F1 σ H1 b a dx vs s1 S1 fb zb ow ap ha w1 w2⟩
theorem pss_mkc {i kk : Nat} {nm : Str} (h1 : DS false X C c s f1) (h2 : PSs X ss (tMk X.K C c i kk nm fb oe)) : PSs X (s :: ss) (tMk X.K C c i kk nm (sQ f1 fb) oe) := by
  refine PSs.imp (pss_cons h1 h2) fun Dn σ H ⟨z, F, env, env1, fs, dc, e2, S, hg, q1, q2, q3, q4, k⟩ => ?_
  obtain ⟨fl1, e1, q1⟩ := Option.bind_eq_some_iff.mp q1
  refine ⟨z, F, env, fl1, S, hg, e1, ?_⟩
  cases fl1 with
  | nx env0 => exact fun F1 σ1 H1 s1 S1 => ⟨z, F1, env0, env1, fs, dc, e2, S1, hg, q1, q2, q3, q4, fun F2 σ2 H2 b a dx vs s2 => k F2 σ2 H2 b a dx vs (s1.trans s2)⟩
  | rt _ _ => cases q1
  | bk _ => cases q1
  | ct _ => cases q1
end
/-- the reading of such an __init__: its arguments (without self) to the object's other fields and the new list -/
def mkF (c : Cs) (kk : Nat) (fb : SF) (oe : OF) : List D → Option (List (Str × D) × D) := fun ds => (fb (env0 c.n (.obj kk [] :: ds))).bind fun fl => match fl with
  | .nx e1 => (oe e1).bind fun r => (gt r.2 0).bind fun o => (match o with
    | .obj k fs => if k = kk ∧ fs.length < 1000 then some (fs, r.1) else none
    | _ => none)
  | _ => none
section
variable {P : Program} {w : World} {K : PySem.W.Frag} {mg : Str → Option Value} {base : Heap} {x qual : Str} {params : Arguments} {body : List Stmt} {scope : Scope} {dvs : List V} {kws : List (Str × V)} {fa : Addr} {fd : FuncData}
theorem fun_okM {N ps : List Str} {k : Nat} {C : CA} (c : Cs) (kk : Nat) (g : Str) (Fn : FunD K x qual params body scope dvs kws fa fd) (Sc : FnScope N ps scope) (fb : SF) (oe : OF) (hn : c.n = N.length) (hio : c.io = [0]) (h0p : 0 < ps.length) (h0 : 0 ∈ c.O) (hO : ∀ i ∈ c.O, i < ps.length → i = 0)
    (hbody : ∀ (cdv : Value) (A : Around) (outer : List PySem.Env) (s : Shared) (H : Hp) (E : XK), Room k (A.deeper (PyProof.Rows.envOfC qual scope s.heap.objs.size fa cdv)) → PSs (cxOf CX0 P w K mg base N qual scope fa cdv A outer s H E).nox body (tMk K C c 0 kk g fb oe))
    (hci : c.ci = [] := by rfl) (hcn : c.cn = [] := by rfl) (hOn : ∀ i ∈ c.O, i < c.n := by decide) : FnOk P w K mg base CX0 (k + 1) fa fd ps (spMk K C kk ps.length g (mkF c kk fb oe)) := by
  refine Fn.ok Sc (fun vs H Q E ⟨F, x, dx, ws, ds, fs, dc, _, _, hl, _⟩ => hl) fun cdv A outer s H vs Q E hr ⟨F, x, dx, ws, ds, fs, dc, sb, hvs, hl, hx, hfx, rp, e, kk'⟩ => ?_
  refine ⟨_, PSs.nox (hbody cdv A outer s H E hr), ?_⟩
  obtain ⟨fl, e1, e2⟩ := Option.bind_eq_some_iff.mp e
  cases fl with
  | rt _ _ => cases e2
  | bk _ => cases e2
  | ct _ => cases e2
  | nx env1 =>
  obtain ⟨⟨dc', e3⟩, e4, e5⟩ := Option.bind_eq_some_iff.mp e2
  obtain ⟨o, e6, e7⟩ := Option.bind_eq_some_iff.mp e5
  cases o <;> simp only at e7 <;> try (cases e7; done)
  rename_i k1 fs1
  split at e7
  case isFalse => cases e7
  next hk =>
  obtain ⟨hk, hlen⟩ := hk
  subst hk
  cases e7
  have hps : ps.length ≤ N.length := by have := congrArg List.length Sc.pre; rw [List.length_take] at this; omega
  have hdl : (D.obj k1 [] :: ds).length = ps.length := by rw [← hl, hvs, List.length_cons, List.length_cons, rp.length]
  have hst : ∀ (i : Nat) v, vs[i]? = some v → (L2.start N vs)[i]? = some (some v) := fun i v h => by
    unfold L2.start
    have lt : i < vs.length := (List.getElem?_eq_some_iff.mp h).1
    rw [List.getElem?_append_left (by simpa using lt), List.getElem?_map, h]
    rfl
  have el : (env0 c.n (D.obj k1 [] :: ds)).length = c.n := by
    unfold env0
    rw [List.length_append, List.length_map, List.length_replicate]
    omega
  have h0v : vs[0]? = some (.ref x) := by rw [hvs]; rfl
  have S : SR K C c ⟨F, H, [x], []⟩ F (env0 c.n (D.obj k1 [] :: ds)) (L2.start N vs) H := by
    refine SRo.up ?_ hci hcn hOn
    refine ⟨sb, Same.refl _, fun b o h => .inl h, fun b o h _ => h, ?_, el, fun i d h hi => ?_, fun i d h hi => ?_, fun i j di dj a hi hj hij ei ej si sj => ?_, by rw [hio]; rfl, fun a d h => (nomatch h), fun a d i e h => (nomatch h), List.nodup_nil, fun k i h => ?_⟩
    · rw [el, hn]
      unfold L2.start
      rw [List.length_append, List.length_map, List.length_replicate]
      omega
    · have hd := gt_env0.mp h
      cases i with
      | zero => exact absurd h0 hi
      | succ i =>
        obtain ⟨v, w1, w2⟩ := rp.get' (i := i) (by simpa using hd)
        exact ⟨v, hst (i + 1) v (by rw [hvs]; simpa using w1), w2⟩
    · have hd := gt_env0.mp h
      have lt : i < ps.length := by rw [← hdl]; exact (List.getElem?_eq_some_iff.mp hd).1
      have := hO i hi lt
      subst this
      cases hd
      exact ⟨x, hst 0 _ h0v, hfx, ⟨dx, [], hx, .nil⟩, .inr ⟨by rw [hio]; exact List.mem_cons_self .., List.mem_cons_self ..⟩⟩
    · have h1 := gt_env0.mp ei
      have h2 := gt_env0.mp ej
      have l1 : i < ps.length := by rw [← hdl]; exact (List.getElem?_eq_some_iff.mp h1).1
      have l2 : j < ps.length := by rw [← hdl]; exact (List.getElem?_eq_some_iff.mp h2).1
      exact hij ((hO i hi l1).trans (hO j hj l2).symm)
    · rw [hio] at h
      cases k with
      | succ k => simp at h
      | zero =>
        simp at h
        subst h
        exact ⟨h0, x, _, rfl, hst 0 _ h0v, gt_env0.mpr rfl⟩
  refine ⟨_, F, _, env1, _, _, e3, S, rfl, e1, e4, e6, hlen, fun F1 σ1 H1 b a dx1 vs1 s1 S1 fb1 zb ow ap ha w1 w2 => ?_⟩
  have xio : c.x.io = c.io := by rw [x_nil hci hcn]
  have hax : a = x := by
    obtain ⟨_, a', d', q1, q2, q3⟩ := S1.b.ios 0 0 (by rw [xio, hio]; rfl)
    have := S1.b.own 0 d' q3 (x_mem h0)
    have q2' := q2
    rw [S1.at (hOn 0 h0), ha] at q2'
    cases q2'
    cases q1
    rfl
  subst hax
  obtain ⟨a2, ha2, hfa, _, _⟩ := S1.own 0 _ e6 h0
  rw [ha] at ha2; cases ha2
  have hbx : b ≠ a := fun q => by
    subst q
    exact ap 0 _ (x_mem h0) e6 (by rw [S1.at (hOn 0 h0)]; exact ha)
  refine kk' F1 _ b dx1 vs1 S1.f0 ?_ S1.new (fun u o hu hne => ?_) hfa zb fb1 hbx ?_ upd_same w2
  · intro u o hu
    have hne : u ≠ a := fun q => by subst q; rw [hfa] at hu; cases hu
    rw [upd_ne hne]
    exact S1.sub u o hu
  · rw [upd_ne hne]
    refine S1.keep u o hu fun hm => hne ?_
    simpa using hm
  · exact ow.mono (Same.refl _) (upd_ne hbx)
end
/-! ### Maker(..).m1().m2(): the object lives in this expression alone -/
def fRun (kk npm : Nat) (g nm1 nm2 : Str) (mk : List D → Option (List (Str × D) × D)) (f1 f2 : FF) (fa : AF) : OF := fun env => (fa env).bind fun q => (vals q.1).bind fun ds => if (D.obj kk [] :: ds).length = npm then (mk ds).bind fun r => if (putFD g (.cel 0) r.1).lookup nm1 = none then (f1 [.obj kk (putFD g (.cel 0) r.1), r.2]).bind fun r1 => (match r1.1, r1.2 with
  | .obj k fs, [l1] => if k = kk ∧ fs.lookup nm2 = none then (f2 [.obj kk fs, l1]).bind fun r2 => (match r2.2 with
    | [_] => if noCel r2.1 = true then some (r2.1, q.2) else none
    | _ => none) else none
  | _, _ => none) else none else none
section
variable {m : Bool} {X : Cx} {C : CA} {c : Cs} {e : Expr} {es : List Expr} {fa : AF} {pos pos1 pos2 p apos1 apos2 : Pos} {x : Str} {k k1 k2 npm : Nat} {fad fad1 fad2 : Addr} {fd fd1 fd2 : FuncData} {ps ps1 ps2 : List Str} {mk : List D → Option (List (Str × D) × D)} {f1 f2 : FF}
theorem cell1 {K : PySem.W.Frag} {F H : Hp} {b : Addr} {v : V} {o dc r : D} {o2 : D} {ff : FF} {mm : Bool} {Q : VK} (s : Same F H) (rp : Rp K (C.at b) F v o) (fb : F b = none) (ow : Own K (C.at b) F H b dc) (e : ff [o, dc] = some (r, [o2]))
    (k : ∀ v' F' H', Same F F' → Same F' H' → (∀ a u, F' a = some u → F a = some u ∨ H a = none) → (∀ a u, H a = some u → a ≠ b → H' a = some u) → F' b = none → Own K (C.at b) F' H' b o2 → (if mm = true then ∃ a, v' = .ref a ∧ H a = none ∧ F' a = none ∧ Own K (C.at b) F' H' a r else Rp K (C.at b) F' v' r) → Q v' H') :
    spFc K (C.at b) [] mm 1 ff [v] H Q E0 := by
  refine ⟨b, rfl, rfl, F, [o, dc], r, [o2], s, rfl, ⟨rfl, fun i v d w1 w2 hi => ?_, fun i hi => ?_, fun i j a hi hj hij => ?_⟩, e, fun v' F' H' dn => ?_⟩
  · cases i with
    | zero => cases w1; cases w2; exact rp
    | succ i => cases i with
      | zero => exact absurd (List.mem_cons_self ..) hi
      | succ i => simp at w1
  · have : i = 1 := by simpa using hi
    subst this
    exact ⟨b, dc, rfl, rfl, fb, ow⟩
  · have w1 : i = 1 := by simpa using hi
    have w2 : j = 1 := by simpa using hj
    exact absurd (w1.trans w2.symm) hij
  · obtain ⟨d', q1, q2, q3⟩ := dn.ios 0 1 b rfl rfl
    have q1' : o2 = d' := Option.some.inj q1
    subst q1'
    refine k v' F' H' dn.sub dn.inn dn.new (fun a u hu hne => dn.keep a u hu fun i hi hb => ?_) q2 q3 dn.val
    have hi0 : i = 1 := by simpa using hi
    subst hi0
    have hb' : V.ref b = V.ref a := Option.some.inj hb
    cases hb'
    exact hne rfl
theorem run_core {kk : Nat} {g nm1 nm2 : Str} {z : Zn} {F H : Hp} {env env' : Env} {σ : St} {Q : VK} {d : D} (h0 : C.cel 0 = none) (S : SR X.K C c z F env σ H) (q0 : fRun kk npm g nm1 nm2 mk f1 f2 fa env = some (d, env'))
    (k : ∀ v F1 H1 F' H', Same F F' → SR X.K C c z F1 env' σ H1 → SR X.K C c z F' env' σ H' → (if m = true then ∃ a, v = .ref a ∧ H1 a = none ∧ F' a = none ∧ Own X.K C F' H' a d else Rp X.K C F' v d) → Q v H') :
    tMeth (C kk) nm2 (fun vs H Q E => ∃ b, spFc X.K (C.at b) [] m 1 f2 vs H Q E) [] E0 (tMeth (C kk) nm1 (fun vs H Q E => ∃ b, spFc X.K (C.at b) [] false 1 f1 vs H Q E) [] E0 (tMake (C kk) (spMk X.K C kk npm g mk) [] E0 (tAr X.K C c fa)) tNil) tNil σ H Q := by
  obtain ⟨⟨bs, e1⟩, w1, q1⟩ := Option.bind_eq_some_iff.mp q0
  obtain ⟨ds, w2, q2⟩ := Option.bind_eq_some_iff.mp q1
  clear q0 q1
  split at q2
  case isFalse => cases q2
  next hnp =>
  obtain ⟨⟨fs, dc⟩, w3, q3⟩ := Option.bind_eq_some_iff.mp q2
  clear q2
  split at q3
  case isFalse => cases q3
  next hl1 =>
  obtain ⟨⟨o1, os1⟩, w4, q4⟩ := Option.bind_eq_some_iff.mp q3
  clear q3
  dsimp only at q4
  split at q4
  case h_2 => cases q4
  next k1 fs1 l1 =>
  split at q4
  case isFalse => cases q4
  next hl2 =>
  obtain ⟨hk1, hl2⟩ := hl2
  subst hk1
  obtain ⟨⟨r2, os2⟩, w5, q5⟩ := Option.bind_eq_some_iff.mp q4
  clear q4
  dsimp only at q5
  split at q5
  case h_2 => cases q5
  next l2 =>
  split at q5
  case isFalse => cases q5
  next hno =>
  cases q5
  refine ⟨z, F, env, bs, _, S, w1, fun vs F1 H1 s1 S1 r1 => fun x dx hx hdx hne => ?_⟩
  have rp := vals_rp r1 w2
  have hx1 : (upd H1 dx (.own x)) x = none := by rw [upd_ne (Ne.symm hne)]; exact hx
  have sH : Same H1 (upd (upd H1 dx (.own x)) x (.ins (C k1) dx [])) := (same_upd hdx).trans (same_upd hx1)
  refine ⟨F1, x, dx, vs ++ [], ds, fs, dc, S1.sub.trans sH, rfl, by rw [List.append_nil, List.length_cons, rp.length]; exact hnp, upd_same, S1.sub.free hx, by rw [List.append_nil]; exact rp, w3, fun F2 H2 b dx' vs' s2 i2 new2 keep2 fx2 hb2 fb2 hbx ow2 hx2 rf2 => ⟨rfl, ?_⟩⟩
  -- the object is data now
  have s3 : Same F2 (upd F2 x (.ins (C k1) dx' (putF g (.ref b) vs'))) := same_upd fx2
  have i3 : Same (upd F2 x (.ins (C k1) dx' (putF g (.ref b) vs'))) H2 := fun u o h => by
    by_cases q : u = x
    · subst q; rw [upd_same] at h; cases h; exact hx2
    · rw [upd_ne q] at h; exact i2 _ _ h
  have rf3 : RpFs X.K (C.at b) (upd F2 x (.ins (C k1) dx' (putF g (.ref b) vs'))) (putF g (.ref b) vs') (putFD g (.cel 0) fs) := RpFs.put (.cel 0 rfl) ((rf2.inn h0).mono s3)
  have ro3 : Rp X.K (C.at b) (upd F2 x (.ins (C k1) dx' (putF g (.ref b) vs'))) (.ref x) (.obj k1 (putFD g (.cel 0) fs)) := .obj upd_same rf3
  have fb3 : (upd F2 x (.ins (C k1) dx' (putF g (.ref b) vs'))) b = none := by rw [upd_ne hbx]; exact fb2
  have ow3 : Own X.K (C.at b) (upd F2 x (.ins (C k1) dx' (putF g (.ref b) vs'))) H2 b dc := (ow2.inn h0).mono s3 rfl
  have new3 : ∀ a u, (upd F2 x (.ins (C k1) dx' (putF g (.ref b) vs'))) a = some u → F1 a = some u ∨ H1 a = none := fun a u h => by
    by_cases q : a = x
    · subst q; exact .inr hx
    · rw [upd_ne q] at h
      rcases new2 a u h with w | w
      · exact .inl w
      · exact .inr (sH.free w)
  have b1 : H1 b = none := sH.free hb2
  have keep3 : ∀ a u, H1 a = some u → H2 a = some u := fun a u h => keep2 a u (sH a u h) fun q => by subst q; rw [hx] at h; cases h
  have free3 : ∀ a, H2 a = none → H1 a = none := fun a h => by
    cases q : H1 a with
    | none => rfl
    | some u => rw [keep3 a u q] at h; cases h
  have s13 := s2.trans s3
  generalize (upd F2 x (.ins (C k1) dx' (putF g (.ref b) vs')) : Hp) = F3 at s3 i3 rf3 ro3 fb3 ow3 new3 s13
  refine ⟨x, dx', _, rfl, hx2, rf3.look_none hl1, b, ?_⟩
  refine cell1 (mm := false) i3 ro3 fb3 ow3 w4 fun v4 F4 H4 s4 i4 new4 keep4 fb4 ow4 ro4 => ?_
  cases (show Rp X.K (C.at b) F4 v4 _ from ro4) with
  | obj u1 u2 =>
  refine ⟨_, _, _, rfl, i4 _ _ u1, u2.look_none hl2, b, ?_⟩
  refine cell1 (mm := m) i4 (.obj u1 u2) fb4 ow4 w5 fun v5 F5 H5 s5 i5 new5 keep5 fb5 ow5 ro5 => ?_
  have keep : ∀ a u, H1 a = some u → H5 a = some u := fun a u h => by
    have hab : a ≠ b := fun q => by subst q; rw [b1] at h; cases h
    exact keep5 a u (keep4 a u (keep3 a u h) hab) hab
  have free4 : ∀ a, H4 a = none → H1 a = none := fun a h => by
    cases q : H1 a with
    | none => rfl
    | some u =>
      have hab : a ≠ b := fun q2 => by subst q2; rw [b1] at q; cases q
      rw [keep4 a u (keep3 a u q) hab] at h; cases h
  have ex : Ext F1 H1 F5 H5 := ⟨s13.trans (s4.trans s5), i5, keep, fun a u h => by
    rcases new5 a u h with w | w
    · rcases new4 a u w with w | w
      · exact new3 a u w
      · exact .inr (free3 a w)
    · exact .inr (free4 a w)⟩
  refine k v5 F1 H1 F5 H5 (s1.trans ex.sub) S1 (S1.ext ex) ?_
  cases m with
  | false => exact (show Rp X.K (C.at b) F5 v5 _ from ro5).off hno
  | true =>
    obtain ⟨a, q1, q2, q3, q4⟩ := ro5
    exact ⟨a, q1, free4 a q2, q3, q4.off hno⟩
def fRunV (kk npm : Nat) (g nm1 nm2 : Str) (mk : List D → Option (List (Str × D) × D)) (f1 f2 : FF) (fa : AF) : EF := fun env => (fRun kk npm g nm1 nm2 mk f1 f2 fa env).bind fun r => some (.val r.1, r.2)
theorem de_run (kk : Nat) {g nm1 nm2 : Str} {pl1 pl2 : Sem Bool} (h0 : C.cel 0 = none) (M : Mk X.K (C kk) fad) (Fm : FnOk X.prog X.w X.K X.mg X.base CX0 k fad fd ps (spMk X.K C kk npm g mk)) (hr : Room (k + 1) X.A) (hm : X.mg x = some (.ref (C kk))) (hb : Binds X.K fd ps []) (ha : DA X C c (e :: es) fa)
    (cl : Cls X.K (C kk)) (hm1 : Meth X.K (C kk) nm1 fad1) (F1 : ∀ b, FnOk X.prog X.w X.K X.mg X.base CX0 k1 fad1 fd1 ps1 (spFc X.K (C.at b) [] false 1 f1)) (hr1 : Room k1 X.A) (hb1 : Binds X.K fd1 ps1 [])
    (hm2 : Meth X.K (C kk) nm2 fad2) (F2 : ∀ b, FnOk X.prog X.w X.K X.mg X.base CX0 k2 fad2 fd2 ps2 (spFc X.K (C.at b) [] false 1 f2)) (hr2 : Room k2 X.A) (hb2 : Binds X.K fd2 ps2 [])
    (hg : Gl X x := by rfl) (hdb : (x == ("__debug__" : Str)) = false := by decide) (he : starEach (e :: es) X.env = (false, eval e X.env) :: starEach es X.env := by rfl) (hpl : (backTo pos (starEach es X.env)).any (·.1) = false := by rfl)
    (ht1 : eval (.Call (.Attribute (.Call (.Name x p) (e :: es) [] pos) nm1 apos1) [] [] pos1) X.env = (do
      let ov ← eval (.Call (.Name x p) (e :: es) [] pos) X.env
      standAt apos1.atName
      let (f, first) ← holding [ov] (getMethod ov nm1 pl1)
      callWith pos1 f first (backTo pos1 (starEach [] X.env)) (backToKw pos1 (keywordEach [] X.env))) := by rfl)
    (ht2 : eval (.Call (.Attribute (.Call (.Attribute (.Call (.Name x p) (e :: es) [] pos) nm1 apos1) [] [] pos1) nm2 apos2) [] [] pos2) X.env = (do
      let ov ← eval (.Call (.Attribute (.Call (.Name x p) (e :: es) [] pos) nm1 apos1) [] [] pos1) X.env
      standAt apos2.atName
      let (f, first) ← holding [ov] (getMethod ov nm2 pl2)
      callWith pos2 f first (backTo pos2 (starEach [] X.env)) (backToKw pos2 (keywordEach [] X.env))) := by rfl) :
    DE X C c (.Call (.Attribute (.Call (.Attribute (.Call (.Name x p) (e :: es) [] pos) nm1 apos1) [] [] pos1) nm2 apos2) [] [] pos2) (fRunV kk npm g nm1 nm2 mk f1 f2 fa) :=
  PE.imp (pe_meth0 (pe_meth0 (pe_make M Fm hr hg hm hb .nil pass0 ha hdb he hpl) cl hm1 (FnOk.ex F1) hr1 hb1 .nil pass0 ht1) cl hm2 (FnOk.ex F2) hr2 hb2 .nil pass0 ht2) fun σ H Q ⟨z, F, env, b, env', S, e, kk⟩ => by
    obtain ⟨⟨d, e1⟩, e0, e'⟩ := Option.bind_eq_some_iff.mp e
    cases e'
    exact run_core (m := false) h0 S e0 fun v F1 H1 F' H' s' _ S' rv => kk v F' H' s' S' rv
end
end DL

namespace DL
open PySem L2
/-! ### steps for the reader: defs that are handed a cell -/
section
variable {env e e1 e2 e3 e4 : Env} {f g h fo : EF} {fa : AF} {ff : FF} {i j n np kk : Nat} {nm : Str} {d d1 d2 x y w r o dc : D} {b b1 b2 : B} {bs : List B} {ds dd outs xs ys : List D} {fs : List (Str × D)} {fl : Fl}
theorem q_Cel (h1 : f env = some (b, e1)) (h2 : RDB e1 b x) (h3 : attrD kk nm x = some (.cel 0)) : fCel n kk nm f env = some (.slot n, e1) := by
  unfold RDB at h2
  simp [fCel, h1, h2, h3]
theorem q_setIxE {fk fe : EF} {dk d3 : D} (h1 : fe env = some (.val d, e1)) (h2 : fo e1 = some (.slot i, e2)) (h3 : fk e2 = some (b, e3)) (h4 : RDB e3 b dk) (h5 : gt e3 i = some (.lst xs)) (h6 : setD (.lst xs) dk d = some d3) (hE : st e3 i (some d3) = e4) : sSetIxE fo fk fe env = some (.nx e4) := by
  unfold RDB at h4
  subst hE
  unfold sSetIxE
  rw [h1]
  simp only [Option.bind_some]
  rw [h2]
  simp only [Option.bind_some]
  rw [h3]
  simp only [Option.bind_some]
  rw [h4]
  simp only [Option.bind_some]
  rw [h5]
  simp only [Option.bind_some]
  rw [h6]
  rfl
theorem q_MeC (h0 : fo env = some (.val (.obj kk fs), e1)) (hn : fs.lookup nm = none) (h1 : AV fa e1 ds e2) (h2 : gt e2 n = some dc) (hl : (D.obj kk fs :: ds).length = np) (hd : APP (.obj kk fs :: ds) [dc] xs) (h3 : ff xs = some (d, [o])) (hE : st e2 n (some o) = e3) : fMeC kk nm np n ff fo fa env = some (.val d, e3) := by
  unfold APP at hd
  unfold AV at h1
  subst hd hE
  unfold fMeC
  rw [h0]
  simp only [Option.bind_some]
  rw [if_pos ⟨trivial, hn⟩, h1]
  simp only [Option.bind_some]
  rw [vals_map]
  simp only [Option.bind_some]
  rw [h2]
  simp only [Option.bind_some]
  rw [if_pos hl, h3]
  rfl
theorem q_MeI (h0 : fo env = some (.val (.obj kk fs), e1)) (hn : fs.lookup nm = none) (h1 : AV fa e1 ds e2) (hs : gt e1 i = some d1) (hg : gt e2 i = some d2) (hl : (D.obj kk fs :: d2 :: ds).length = np) (h3 : ff (.obj kk fs :: d2 :: ds) = some (d, [o])) (hE : st e2 i (some o) = e3) : fMeI kk nm np ff fo (aC (fS i) fa) env = some (.val d, e3) := by
  subst hE
  unfold fMeI oMeI
  rw [h0]
  simp only [Option.bind_some]
  rw [if_pos ⟨trivial, hn⟩, r_aC (r_S hs) h1]
  simp only [Option.bind_some]
  rw [ioArgs_v hg]
  simp only [Option.bind_some]
  rw [if_pos hl, h3]
  rfl
end
end DL

namespace DL
open PySem L2
/-! ### o[i] through the class's own __getitem__ -/
theorem FunD.fi {K : PySem.W.Frag} {x qual : Str} {params : Arguments} {body : List Stmt} {scope : Scope} {dvs : List V} {kws : List (Str × V)} {f : Addr} {fd : FuncData} (F : FunD K x qual params body scope dvs kws f fd) : PySem.W.fnIn K f = true := by
  obtain ⟨oc, od, dV, kV, doc, pm, an, cdv, ct, osl, _, lk, _⟩ := F.ex
  unfold PySem.W.fnIn
  rw [lk]
section
variable {X : Cx} {Cc f : Addr} {n : Nat} {fd : FuncData} {ps : List Str} {sp : Sp} {a b : Expr} {ta tb : TE} {pos : Pos}
theorem pe_ixO (F : FnOk X.prog X.w X.K X.mg X.base CX0 n f fd ps sp) (hm : Meth X.K Cc "__getitem__" f) (hfi : PySem.W.fnIn X.K f = true) (hb : Binds X.K fd ps []) (hr : Room (n + 1) X.A) (ha : PE X a ta) (hi : PE X b tb)
    (hsl : ∀ o i, subscripted b true o i = runValue (.builtin "lifetime.subscript" ⟨[o, i], []⟩) := by intro _ _; with_unfolding_all rfl) :
    PE X (.Subscript a b pos) (fun σ H Q => ta σ H fun x H1 => tb σ H1 fun y H2 => ∃ p dx fs, x = .ref p ∧ H2 p = some (.ins Cc dx fs) ∧ sp [x, y] H2 Q E0) := by
  refine ⟨fun pins s σ H Q I h => ?_⟩
  refine PyProof.Rows.Subscript_ (binT (R := fun x y H2 => ∃ p dx fs, x = .ref p ∧ H2 p = some (.ins Cc dx fs) ∧ sp [x, y] H2 Q E0) ha hi I h fun v u s2 x y H2 I2 rx ry q => ?_)
  obtain ⟨p, dx, fs, rfl, hp, hsp⟩ := q
  cases rx
  obtain ⟨mA, J, _⟩ := ins_get I2.hok hp
  obtain ⟨od, J, _⟩ := J.look
  obtain ⟨m, hF⟩ := I2.fr
  exact PySem.W.sub_K hF I2.ok.mod.kin J hm.at_ hfi hm.fn (run_in1 F hb hr.in1 I2 (vs := [V.ref p, y]) (.cons rfl (.cons ry .nil)) hsp) (hsl _ _)
end
section
variable {X : Cx} {C : CA} {c : Cs} {e o : Expr} {f g : EF} {pos : Pos} {k : Nat} {fad : Addr} {fd : FuncData} {ps : List Str} {ff : FF}
def fIxO (kk : Nat) (ff : FF) (fo fi : EF) : EF := fun env => (fo env).bind fun p => match p.1 with
  | .val (.obj k fs) => if k = kk then (fi p.2).bind fun q => (match q.1 with
    | .val d => (ff [.obj k fs, d]).bind fun r => some (.val r.1, q.2)
    | .slot _ => none) else none
  | _ => none
theorem de_ixO (kk : Nat) (ho : DE X C c o f) (he : DE X C c e g) (hmt : Meth X.K (C kk) "__getitem__" fad) (hfi : PySem.W.fnIn X.K fad = true) (Fk : FnOk X.prog X.w X.K X.mg X.base CX0 k fad fd ps (spF X.K C [] false 2 ff)) (hr : Room (k + 1) X.A) (hb : Binds X.K fd ps [])
    (hsl : ∀ o i, subscripted e true o i = runValue (.builtin "lifetime.subscript" ⟨[o, i], []⟩) := by intro _ _; with_unfolding_all rfl) : DE X C c (.Subscript o e pos) (fIxO kk ff f g) := by
  refine PE.imp (pe_ixO Fk hmt hfi hb hr ho he hsl) fun σ H Q ⟨z, F, env, b, env', S, q, kq⟩ => ?_
  obtain ⟨⟨b1, e1⟩, h1, q1⟩ := Option.bind_eq_some_iff.mp q
  clear q
  cases b1 with
  | slot _ => cases q1
  | val d =>
    cases d <;> simp only at q1 <;> try (cases q1; done)
    split at q1
    case isFalse => cases q1
    next hk =>
    subst hk
    obtain ⟨⟨b2, e2⟩, h2, q2⟩ := Option.bind_eq_some_iff.mp q1
    clear q1
    cases b2 with
    | slot _ => cases q2
    | val d2 =>
      obtain ⟨r, h3, q3⟩ := Option.bind_eq_some_iff.mp q2
      cases q3
      refine ⟨z, F, env, _, e1, S, h1, fun v F1 H1 s1 S1 r1 => ?_⟩
      cases r1 with
      | obj w1 w2 =>
        refine ⟨z, F1, e1, _, e2, S1, h2, fun u F2 H2 s2 S2 r2 => ⟨_, _, _, rfl, S2.sub _ _ (s2 _ _ w1), ?_⟩⟩
        have rp : RpAll X.K C F2 [.ref _, u] [.obj _ _, d2] := .cons (Rp.mono s2 (.obj w1 w2)) (.cons r2 .nil)
        have c0 := call0_read (X := X) (C := C) (m := false) (dv := []) (dd := []) (np := 2) (ff := ff) (Q := Q) (r := r) S2.sub rp .nil rfl h3 fun v F' H' ex rv => kq v F' H' (s1.trans (s2.trans ex.sub)) (S2.ext ex) rv
        rw [List.append_nil] at c0
        exact c0
theorem q_ixO {env e1 e2 : Env} {kk : Nat} {fs : List (Str × D)} {d r : D} {outs : List D} {fo fi : EF} (h1 : fo env = some (.val (.obj kk fs), e1)) (h2 : fi e1 = some (.val d, e2)) (h3 : ff [.obj kk fs, d] = some (r, outs)) : fIxO kk ff fo fi env = some (.val r, e2) := by
  unfold fIxO
  rw [h1]
  simp only [Option.bind_some, if_true]
  rw [h2]
  simp only [Option.bind_some]
  rw [h3]
  rfl
end
end DL

namespace DL
open PySem L2
/-! ### o != p, o == p, str(o) by the class's own __eq__, __str__; isinstance of an own class; join -/
/-- what is looked up in the class Net for these -/
structure OwnF (K : PySem.W.Frag) (C : Addr) : Prop where
  ha : PySem.W.findIn K (.ref C) "__class__" = some (some (.builtin "object.__class__"))
  hn : PySem.W.specialIn K (.builtin "object.__class__") "__get__" = some (some (.builtin "getset_descriptor.__get__"))
  htk : PySem.W.takesIn K (.builtin "object.__class__") = some true
  hm : PySem.W.mroIn K C (.type "object") = some true
  me : PySem.W.kitOne K (.ref C) (.ref C) = some true
  ne : PySem.W.findIn K (.ref C) "__ne__" = some (some (.builtin "object.__ne__"))
  kS : PySem.W.kitOne K (.type "str") (.ref C) = some false
  kT : PySem.W.kitOne K (.type "tuple") (.ref C) = some false
  kI : PySem.W.kitOne K (.type "int") (.ref C) = some false
  nS : PySem.W.notFirst K C (.type "str") = true
  nT : PySem.W.notFirst K C (.type "tuple") = true
  nI : PySem.W.notFirst K C (.type "int") = true
  kO : PySem.W.kitOne K (.ref C) (.type "tuple") = some false
def ownB (C : Addr) (K : PySem.W.Frag) : Bool := decide (PySem.W.findIn K (.ref C) "__class__" = some (some (.builtin "object.__class__"))) && (decide (PySem.W.specialIn K (.builtin "object.__class__") "__get__" = some (some (.builtin "getset_descriptor.__get__"))) && (decide (PySem.W.takesIn K (.builtin "object.__class__") = some true) && (decide (PySem.W.mroIn K C (.type "object") = some true) && (decide (PySem.W.kitOne K (.ref C) (.ref C) = some true) && (decide (PySem.W.findIn K (.ref C) "__ne__" = some (some (.builtin "object.__ne__"))) && (decide (PySem.W.kitOne K (.type "str") (.ref C) = some false) && (decide (PySem.W.kitOne K (.type "tuple") (.ref C) = some false) && (decide (PySem.W.kitOne K (.type "int") (.ref C) = some false) && (decide (PySem.W.notFirst K C (.type "str") = true) && (decide (PySem.W.notFirst K C (.type "tuple") = true) && ((decide (PySem.W.notFirst K C (.type "int") = true) && decide (PySem.W.kitOne K (.ref C) (.type "tuple") = some false)))))))))))))
section
variable {prog : Program} {w : World} {A : Around} {E : Value → Shared → Prop} {s : Shared} {K : PySem.W.Frag} {x y C f : Addr} {ox oy : Obj} {od od2 : Option Obj}
end
section
variable {X : Cx} {Cc f : Addr} {n : Nat} {fd : FuncData} {ps : List Str} {sp : Sp} {a b : Expr} {ta tb : TE} {pos : Pos}
/-- what both own comparisons ask for: two objects of the class, and what its __eq__ does -/
def rOwn (Cc : Addr) (sp : Sp) (g : Bool → Bool) : R2 := fun x y H Q => ∃ p q dx dy fs gs, x = .ref p ∧ y = .ref q ∧ H p = some (.ins Cc dx fs) ∧ H q = some (.ins Cc dy gs) ∧ sp [x, y] H (fun v H' => ∃ b, v = .bl b ∧ Q (.bl (g b)) H') E0
end
section
variable {X : Cx} {C : CA} {c : Cs} {a b : Expr} {f g : EF} {pos : Pos} {k : Nat} {fad : Addr} {fd : FuncData} {ps : List Str} {ff : FF}
/-- two objects of a class compared by its own __eq__ -/
def fOwn (kk : Nat) (ff : FF) (h : Bool → Bool) (fo fi : EF) : EF := fun env => (fo env).bind fun p => match p.1 with
  | .val (.obj k fs) => if k = kk then (fi p.2).bind fun q => (match q.1 with
    | .val (.obj k2 gs) => if k2 = kk then (ff [.obj k fs, .obj k2 gs]).bind fun r => (match r.1 with
      | .bl b => some (.val (.bl (h b)), q.2)
      | _ => none) else none
    | _ => none) else none
  | _ => none
def strO (kk : Nat) (ff : FF) : List D → Option D
  | [.obj k fs] => if k = kk then (ff [.obj k fs]).bind fun r => (match r.1 with
    | .str y => some (.str y)
    | _ => none) else none
  | _ => none
end
section
variable {X : Cx} {C : CA} {c : Cs} {e o : Expr} {f : EF} {pos p : Pos} {k : Nat} {fad : Addr} {fd : FuncData} {ps : List Str} {ff : FF}
def fStrO (kk : Nat) (ff : FF) (f : EF) : EF := fun env => (f env).bind fun q => match q.1 with
  | .val (.obj k fs) => if k = kk then (ff [.obj k fs]).bind fun r => (match r.1 with
    | .str y => some (.val (.str y), q.2)
    | _ => none) else none
  | _ => none
/-- a text, a tuple, a whole number: no object of an own class -/
def othB : D → Bool
  | .str _ => true
  | .tup _ => true
  | .int _ => true
  | _ => false
/-- isinstance(x, an own class) -/
def isOB (kk : Nat) (d : D) : Option Bool := match d with
  | .obj k _ => if k = kk then some true else none
  | d => if othB d = true then some false else none
def fIsO (kk : Nat) (f : EF) : EF := fun env => (f env).bind fun q => match q.1 with
  | .val d => (isOB kk d).bind fun b => some (.val (.bl b), q.2)
  | _ => none
def fEqN (kk : Nat) (ff : FF) (fo fi : EF) : EF := fun env => (fo env).bind fun p => match p.1 with
  | .val (.obj k fs) => if k = kk then (fi p.2).bind fun q => (match q.1 with
    | .val d => if othB d = true then (ff [.obj k fs, d]).bind fun r => (match r.1 with
      | .bl b => some (.val (.bl b), q.2)
      | _ => none) else none
    | _ => none) else none
  | _ => none
/-! ### join -/
def strsOf : D → Option (List Str)
  | .lst xs => strsD xs
  | .tup xs => strsD xs
  | _ => none
def joinD (x : D) (y : D) : Option D := match x with
  | .str a => (strsOf y).bind fun ys => if (ys.map fun z => z.length).sum + ys.length * a.length ≤ 16777216 then some (.str (Txt.join a ys)) else none
  | _ => none
theorem de_join {a : Str} {g : EF} {apos cpos : Pos} {j : Nat} (he : DE X C c e g) (hs : starEach [e] X.env = [(false, eval e X.env)] := by rfl) (hbase : attributeBase (.Constant (.str a) j cpos) "join" X.env (eval (.Constant (.str a) j cpos) X.env) = eval (.Constant (.str a) j cpos) X.env := by rfl) (hline : (apos.endLine == pos.line) = true := by rfl) :
    DE X C c (.Call (.Attribute (.Constant (.str a) j cpos) "join" apos) [e] [] pos) (f2 joinD (fC (.str a)) g) := by
  refine PE.imp (pe_join (de_str (C := C) (c := c)) he hs hbase hline) fun σ H Q ⟨z, F, env, b, env', S, e, k⟩ => ?_
  simp only [f2, Option.bind_eq_some_iff] at e
  obtain ⟨⟨b1, e1⟩, h1, ⟨b2, e2⟩, h2, x, hx, y, hy, d, hd, e⟩ := e
  cases e
  cases h1
  cases hx
  obtain ⟨ys, h3, hd⟩ := Option.bind_eq_some_iff.mp hd
  split at hd
  case isFalse => cases hd
  next hz =>
  cases hd
  refine ⟨z, F, env, .val (.str a), env, S, rfl, fun v F1 H1 s1 S1 r1 => ?_⟩
  cases r1
  refine ⟨⟨a, rfl⟩, z, F1, env, b2, e2, S1, h2, fun w F2 H2 s2 S2 r2 => ?_⟩
  have rb := r2.rb S2 hy
  have fin := k (.str (Txt.join a ys)) F2 H2 (s1.trans s2) S2 (.str _)
  cases y <;> simp only [strsOf] at h3 <;> try (cases h3; done)
  · obtain ⟨p, vs, rfl, q, _, r⟩ := rb.lst S2.sub
    have ev := strsD_rp r h3
    subst ev
    exact ⟨a, p, ys, rfl, rfl, .inl (SqL.of q), hz, fin⟩
  · obtain ⟨p, vs, rfl, q, _, r⟩ := rb.tup S2.sub
    have ev := strsD_rp r h3
    subst ev
    exact ⟨a, p, ys, rfl, rfl, .inr q, hz, fin⟩
end
end DL

namespace DL
open PySem L2
/-! ### a def that calls itself: as deep as it is read -/
/-! ### isinstance(x, tuple), x an object too -/
section
variable {X : Cx} {C : CA} {c : Cs} {e : Expr} {f : EF} {pos p : Pos}
def instX (d : D) : Option Bool := match d with
  | .obj 0 _ => some false
  | d => instB "tuple" d
def fIsX (f : EF) : EF := fun env => (f env).bind fun q => match q.1 with
  | .val d => (instX d).bind fun b => some (.val (.bl b), q.2)
  | .slot _ => none
end
end DL

namespace DL
open PySem L2
/-! ### xs.index(i) of whole numbers -/
def idxI : List Int → Int → Option Nat
  | [], _ => none
  | a :: xs, i => if a = i then some 0 else (idxI xs i).map (· + 1)
def idxD (x y : D) : Option D := match x with
  | .lst xs => match y with
    | .int i => (intsD xs).bind fun ns => (idxI ns i).map fun j => .int (j : Nat)
    | _ => none
  | _ => none
def fIdx (f g : EF) : EF := fun env => (f env).bind fun p => match p.1 with
  | .slot _ => none
  | .val x => (g p.2).bind fun q => (rdB q.2 q.1).bind fun y => (idxD x y).bind fun d => some (.val d, q.2)
section
variable {X : Cx} {C : CA} {c : Cs} {o e : Expr} {f g : EF} {apos cpos : Pos}
end
end DL

namespace DLX
open PySem PySem.W PySem.Calls PyProof.Rows PySem.Spec
open L2 (Cx Inv Hp V HO VK XK WX TE TS TT TA Gl Room Binds PA PE PS PSs Vals RelV upd)
/-- C(e) as an exception that is made -/
def tMkX (C : Addr) (p : Str) (ta : TA) : L2.St → Hp → XK → Prop := fun σ H Q => ta σ H fun vs H1 => ∃ v, vs = [v] ∧ ∀ dd, H1 dd = none → Q (.ref C) (some dd) (upd H1 dd (.xd [(p, v)]))
section
variable {X : Cx} {x file p : Str} {C fI : Addr} {fd : FuncData} {B newId initId : String} {tl : List Value} {e : Expr} {ta : TA} {p0 pos : Pos}
end
end DLX

namespace DL
open PySem L2
/-! ### errors as data: the class's number and what it keeps -/
def xfld (k : Nat) : Str := if k = 11 then "word" else "at"
/-- an error's class and dict tell (k, p) -/
def XD (K : PySem.W.Frag) (C : CA) (F : Hp) (cls : Value) (d : Option Addr) (k : Nat) (p : D) : Prop :=
  cls = .ref (C k) ∧ ((k ≠ 15 ∧ ∃ dd v, d = some dd ∧ F dd = some (.xd [(xfld k, v)]) ∧ Rp K C F v p) ∨ (k = 15 ∧ d = none ∧ p = .non))
abbrev XF := Env → Option ((Nat × D) × Env)
abbrev XFF := List D → Option ((Nat × D) × List D)
def tSX (K : PySem.W.Frag) (C : CA) (c : Cs) (W : WX) (g : XF) : TS := fun _ σ H => ∃ z F env k p env', SR K C c z F env σ H ∧ z.gh = [] ∧ g env = some ((k, p), env') ∧
  ∀ cls d F' σ' H', Same F F' → SR K C c z F' env' σ' H' → XD K C F' cls d k p → W cls d σ' H'
def tEX (K : PySem.W.Frag) (C : CA) (c : Cs) (W : WX) (g : XF) : TE := fun σ H _ => ∃ z F env k p env', SR K C c z F env σ H ∧ g env = some ((k, p), env') ∧
  ∀ cls d F' H', Same F F' → SR K C c z F' env' σ H' → XD K C F' cls d k p → W cls d σ H'
def DSX (X : Cx) (C : CA) (c : Cs) (W : WX) (s : Stmt) (g : XF) : Prop := PS X s (tSX X.K C c W g)
def DSsX (X : Cx) (C : CA) (c : Cs) (W : WX) (s : List Stmt) (g : XF) : Prop := PSs X s (tSX X.K C c W g)
def DEX (X : Cx) (C : CA) (c : Cs) (W : WX) (e : Expr) (g : XF) : Prop := PE X e (tEX X.K C c W g)
section
variable {m : Bool} {X : Cx} {C : CA} {c : Cs} {W : WX} {s : Stmt} {ss sa sb : List Stmt} {f : SF} {x gx gy : XF} {e : Expr} {fe : EF} {p : TF} {pos : Pos}
def xN : XF := fun _ => none
/-- the first statement raises, or the rest does -/
def xQ (f : SF) (gx gr : XF) : XF := fun env => match f env with
  | some (.nx e) => gr e
  | some _ => none
  | none => gx env
def xIf (p : TF) (ga gb : XF) : XF := fun env => (p env).bind fun r => if r.1 = true then ga r.2 else gb r.2
/-! ### a loop whose body raises at some turn -/
def forX (g : GF) (f : SF) (x : XF) : List D → XF
  | [], _ => none
  | d :: ds, env => (g d env).bind fun e1 => match f e1 with
    | some (.nx e) => forX g f x ds e
    | some (.ct e) => forX g f x ds e
    | some _ => none
    | none => x e1
def xFor (i : IF) (g : GF) (f : SF) (x : XF) : XF := fun env => (i env).bind fun r => forX g f x r.1 r.2
end
/-! ### raise -/
/-- an error class of the program: all that its making wants -/
structure XErr (P : Program) (K : PySem.W.Frag) (mg : Str → Option Value) (Ck : Addr) (x p : Str) : Prop where
  ex : ∃ file fI fd B newId initId tl, DLX.XB B newId initId tl ∧ DLX.PX P file ∧ DLX.XC K file Ck fI p fd B newId initId tl ∧ Binds K fd [("self" : Str), p] []
  mg : mg x = some (.ref Ck)
section
variable {X : Cx} {C : CA} {c : Cs} {W : WX} {e : Expr} {fe : EF} {x : Str} {p0 pos pos' : Pos}
def xR (k : Nat) (fe : EF) : XF := fun env => (fe env).bind fun r => match r.1 with
  | .val d => some ((k, d), r.2)
  | .slot _ => none
end
end DL

namespace DL
open PySem L2
/-! ### what a def that raises promises -/
def spX (K : PySem.W.Frag) (C : CA) (io : List Nat) (np : Nat) (g : XFF) : Sp := fun vs H _ E => ∃ F ds k p outs, Same F H ∧ vs.length = np ∧ ArgsR K C io F H vs ds ∧ g ds = some ((k, p), outs) ∧
  ∀ cls d F' H', Done false K C io F H vs F' H' .non .non outs → XD K C F' cls d k p → E cls d H'
def runX (c : Cs) (xb : XF) : XFF := fun ds => (xb (env0 c.n ds)).bind fun r => (outsOf r.2 c.io).bind fun os => some (r.1, os)
section
variable {P : Program} {w : World} {K : PySem.W.Frag} {mg : Str → Option Value} {base : Heap} {x qual : Str} {params : Arguments} {body : List Stmt} {scope : Scope} {dvs : List V} {kws : List (Str × V)} {fa : Addr} {fd : FuncData}
end
/-! ### calls that raise -/
section
variable {X : Cx} {C : CA} {c : Cs} {W : WX} {e o : Expr} {es : List Expr} {fa : AF} {f : EF} {gx : XF} {pos p apos : Pos} {x : Str} {k np : Nat} {fad : Addr} {fd : FuncData} {ps : List Str} {gg : XFF}
/-- f(..), f raises -/
def xC0 (np : Nat) (gg : XFF) (fa : AF) : XF := fun env => (fa env).bind fun q => (vals q.1).bind fun ds => if ds.length = np then (gg ds).bind fun r => some (r.1, q.2) else none
def xMe (kk : Nat) (nm : Str) (np : Nat) (gg : XFF) (fo : EF) (fa : AF) : XF := fun env => (fo env).bind fun p => match p.1 with
  | .val (.obj k fs) => if k = kk ∧ fs.lookup nm = none then (fa p.2).bind fun q => (vals q.1).bind fun ds => if (D.obj k fs :: ds).length = np then (gg (.obj k fs :: ds)).bind fun r => some (r.1, q.2) else none else none
  | _ => none
def xMk (kk np : Nat) (gg : XFF) (fa : AF) : XF := fun env => (fa env).bind fun q => (vals q.1).bind fun ds => if (D.obj kk [] :: ds).length = np then (gg (.obj kk [] :: ds)).bind fun r => some (r.1, q.2) else none
end
end DL

namespace DL
open PySem L2
/-! ### within an except suite: what is told of the error -/
/-- what an error class says, so that its instances' class and field are read -/
structure XFa (K : PySem.W.Frag) (D0 : Addr) (p : Str) : Prop where
  hcl : (PySem.W.clsIn K D0).isSome = true
  hga : PySem.W.findIn K (.ref D0) "__getattribute__" = some (some (.builtin "BaseException.__getattribute__"))
  hgt : PySem.W.findIn K (.ref D0) "__getattr__" = some none
  hsub : PySem.W.subIn K (.ref D0) (.type "BaseException") = some true
  ha : PySem.W.findIn K (.ref D0) "__class__" = some (some (.builtin "object.__class__"))
  hn : PySem.W.specialIn K (.builtin "object.__class__") "__get__" = some (some (.builtin "getset_descriptor.__get__"))
  htk : PySem.W.takesIn K (.builtin "object.__class__") = some true
  hm : PySem.W.mroIn K D0 (.type "object") = some true
  hd : PySem.W.hasDictIn K D0 = true
  no : PySem.W.findIn K (.ref D0) p = some none
abbrev suiteY (X : Cx) (a : Addr) (oe : Obj) (pn : List (Addr × Obj)) : Cx := X.suite a ((a, oe) :: pn)
def tXp (K : PySem.W.Frag) (C : CA) (i : Nat) (a : Addr) (cls : Value) (d : Option Addr) (g : Nat → D → Option D) : TE := fun σ H Q => ∃ F k p r, Same F H ∧ σ[i]? = some (some (.ref a)) ∧ XD K C F cls d k p ∧ g k p = some r ∧ ∀ v, Rp K C F v r → Q v H
def tXt (K : PySem.W.Frag) (C : CA) (i : Nat) (a : Addr) (cls : Value) (d : Option Addr) (g : Nat → D → Option Bool) : TT := fun σ H Q => ∃ F k p r, Same F H ∧ σ[i]? = some (some (.ref a)) ∧ XD K C F cls d k p ∧ g k p = some r ∧ Q r H
def tXs (K : PySem.W.Frag) (C : CA) (i : Nat) (a : Addr) (cls : Value) (d : Option Addr) (g : Nat → D → Option D) : TE := fun σ H Q => ∃ F k p r, Same F H ∧ σ[i]? = some (some (.ref a)) ∧ XD K C F cls d k p ∧ g k p = some r ∧ ∀ v F' H', Ext F H F' H' → Rp K C F' v r → Q v H'
def tXa (K : PySem.W.Frag) (C : CA) (i : Nat) (a : Addr) (cls : Value) (d : Option Addr) (g : Nat → D → Option (List D)) : TA := fun σ H Q => ∃ F k p r, Same F H ∧ σ[i]? = some (some (.ref a)) ∧ XD K C F cls d k p ∧ g k p = some r ∧ ∀ vs, RpAll K C F vs r → Q vs H
section
variable {X : Cx} {C : CA} {i : Nat} {a : Addr} {oe : Obj} {cls : Value} {d : Option Addr} {pn : List (Addr × Obj)} {e e1 e2 t : Expr} {g g1 g2 : Nat → D → Option D} {gt gt1 gt2 : Nat → D → Option Bool} {ga : Nat → D → Option (List D)} {es : List Expr} {pos pos1 pos2 : Pos} {Y : Cx}
/-- isinstance(e, T) -/
def rIsX (K : PySem.W.Frag) (C : CA) (a : Addr) (cls : Value) (d : Option Addr) : List V → Hp → VK → Prop := fun xs H Q => ∃ (v : V) (cv : Value) (b : Bool) (k : Nat) (f : Str), xs = [.ref a, v] ∧ (∀ u, RelV v u → u = cv) ∧ cls = .ref (C k) ∧ (d = none ∨ ∃ dd fs, d = some dd ∧ H dd = some (.xd fs)) ∧ XFa K (C k) f ∧ PySem.W.kitOne K (.ref (C k)) cv = some b ∧ Q (.bl b) H
/-- what a class's name stands for -/
def TyV (X : Cx) (x : Str) (v : V) (cv : Value) : Prop := (∀ u, RelV v u → u = cv) ∧ ((X.mg x = some cv ∧ RelV v cv) ∨ (X.mg x = none ∧ bootBuiltins x = some cv ∧ RelV v cv ∧ x ≠ "__name__"))
end
/-! ### try: .. except C as e: x = .. -/
section
variable {m : Bool} {X : Cx} {C : CA} {c : Cs} {x n y : Str} {body : List Stmt} {e : Expr} {pos pos' np spos py : Pos}
def sTry (f : SF) (gx : XF) (ks : List Nat) (h : Nat → D → Option D) (i j : Nat) : SF := fun env => match f env with
  | some fl => some fl
  | none => (gx env).bind fun r => if r.1.1 ∈ ks then (h r.1.1 r.1.2).bind fun d => some (.nx (st (st r.2 i none) j (some d))) else none
end
end DL

namespace DL
open PySem L2
/-! ### an error goes through expressions -/
def tTX (K : PySem.W.Frag) (C : CA) (c : Cs) (W : WX) (g : XF) : TT := fun σ H _ => tEX K C c W g σ H fun _ _ => True
def tAX (K : PySem.W.Frag) (C : CA) (c : Cs) (W : WX) (g : XF) : TA := fun σ H _ => tEX K C c W g σ H fun _ _ => True
def tIX (K : PySem.W.Frag) (C : CA) (c : Cs) (W : WX) (g : XF) : TI := fun σ H _ => tEX K C c W g σ H fun _ _ => True
def DTX (X : Cx) (C : CA) (c : Cs) (W : WX) (e : Expr) (g : XF) : Prop := PT X e (tTX X.K C c W g)
def DAX (X : Cx) (C : CA) (c : Cs) (W : WX) (e : List Expr) (g : XF) : Prop := PA X e (tAX X.K C c W g)
def DIX (X : Cx) (C : CA) (c : Cs) (W : WX) (tg e : Expr) (g : XF) : Prop := PI X tg e (tIX X.K C c W g)
section
variable {X : Cx} {C : CA} {c : Cs} {W : WX} {a b e t e1 e2 tg : Expr} {es : List Expr} {f g : EF} {gx gy : XF} {p : TF} {fa : AF} {pos p0 : Pos} {x : Str}
/-- what comes first raises, then what comes next is read -/
def xE (f : EF) (gx : XF) : XF := fun env => (f env).bind fun r => gx r.2
/-- a statement that cannot raise, then the rest -/
def xS (f : SF) (gr : XF) : XF := fun env => match f env with
  | some (.nx e) => gr e
  | _ => none
end
/-! ### isinstance where the value may be an object of an own class -/
structure OwnK (K : PySem.W.Frag) (C0 : Addr) : Prop where
  ha : PySem.W.findIn K (.ref C0) "__class__" = some (some (.builtin "object.__class__"))
  hn : PySem.W.specialIn K (.builtin "object.__class__") "__get__" = some (some (.builtin "getset_descriptor.__get__"))
  htk : PySem.W.takesIn K (.builtin "object.__class__") = some true
  hm : PySem.W.mroIn K C0 (.type "object") = some true
  kO : ∀ T ∈ ["bool", "int", "str", "list", "tuple", "dict"], PySem.W.kitOne K (.ref C0) (.type T) = some false
def ownKB (C0 : Addr) (K : PySem.W.Frag) : Bool := decide (PySem.W.findIn K (.ref C0) "__class__" = some (some (.builtin "object.__class__"))) && (decide (PySem.W.specialIn K (.builtin "object.__class__") "__get__" = some (some (.builtin "getset_descriptor.__get__"))) && (decide (PySem.W.takesIn K (.builtin "object.__class__") = some true) && (decide (PySem.W.mroIn K C0 (.type "object") = some true) &&
  ["bool", "int", "str", "list", "tuple", "dict"].all fun T => decide (PySem.W.kitOne K (.ref C0) (.type T) = some false))))
def instG (T : String) : D → Option Bool
  | .obj 0 _ => some false
  | d => instB T d
section
variable {X : Cx} {C : CA} {c : Cs} {e : Expr} {f : EF} {pos p : Pos}
def fIsG (T : String) (f : EF) : EF := fun env => (f env).bind fun p => (rdB p.2 p.1).bind fun d => (instG T d).bind fun b => some (.val (.bl b), p.2)
def fIsGT (f : EF) : EF := fun env => (f env).bind fun p => (rdB p.2 p.1).bind fun d => (instG "list" d).bind fun b1 => (instG "tuple" d).bind fun b2 => some (.val (.bl (b1 || b2)), p.2)
end
end DL

namespace DL
open PySem L2 PySem.W
/-! ### what is looked up of the error classes, as one Bool each -/
def clsB (K : Frag) (C0 : Addr) (newId initId : String) (tl : List Value) : Bool := match K.lookup C0 with
  | some ⟨.type t, _, .cls ⟨_, _, .ref c0 :: bm, _, _, hd, _, _, _, _, del⟩, sl⟩ => decide (t = "type") && (hd && (!del && (decide (c0 = C0) && (DLX.refsT tl bm && (decide (alongIn K "__init__" bm = some (some (.builtin initId))) && match sl.toList with
    | [_, _, _, _, some (.builtin n), _] => decide (n = newId)
    | _ => false)))))
  | _ => false
/-- a def of two plain parameters -/
def parB (p : Str) (fd : FuncData) : Bool := match fd with
  | ⟨_, _, ⟨[], [⟨a, _, _⟩, ⟨b, _, _⟩], none, [], [], none, []⟩, _, _, _, _, .none, .none, _, _, _, _, _, _⟩ => decide (a = "self") && (decide (b = p) && (decide (p = "at") || decide (p = "word")))
  | _ => false
def kindB : Option NameKind → Nat → Bool
  | some .globalImplicit, 0 => true
  | some .free, 1 => true
  | some .local, 2 => true
  | _, _ => false
def filB (vs : Array Value) (file : Str) : Bool := match vs.toList with
  | _ :: _ :: .str f _ :: _ => decide (f = file)
  | _ => false
def fdB (K : Frag) (file : Str) (C0 : Addr) (p : Str) (fd : FuncData) : Bool :=
  DLX.inShape p fd.body && (parB p fd && (decide (fd.scope.kind = .function) && (!fd.scope.isCoroutine && (!fd.scope.isGenerator && (fd.scope.names.all (fun y => decide (y.2 ≠ .cell)) &&
  (decide (fd.scope.names.lookup ("super" : Str) = some .globalImplicit) && (decide (fd.scope.names.lookup ("__class__" : Str) = some .free) && (decide (fd.scope.names.lookup ("self" : Str) = some .local) && (decide (fd.scope.names.lookup p = some .local) &&
  (decide (fd.globals = mainGlobals) && (decide (fd.builtins = builtinsNs) && (codeIn K fd.code fd.qualname && ((match fd.closure.lookup ("__class__" : Str) with
    | some cc => (match K.lookup cc with
      | some ⟨_, _, .cell (some (.ref D0)), _⟩ => decide (D0 = C0)
      | _ => false)
    | none => false) && (match fd.code with
    | .ref cda => (match K.lookup cda with
      | some ⟨_, _, .fields vs, _⟩ => filB vs file
      | _ => false)
    | _ => false))))))))))))))
def xcB (K : Frag) (file x p : Str) (newId initId : String) (tl : List Value) : Bool :=
  clsB K (He.ga K x) newId initId tl && (decide (findIn K (.ref (He.ga K x)) "__setattr__" = some (some (.builtin "object.__setattr__"))) && (decide (findIn K (.ref (He.ga K x)) p = some none) && (decide (subIn K (.ref (He.ga K x)) (.type "BaseException") = some true) &&
  (decide (typeIn K (.ref (He.ga K x)) = some (.type "type")) && (keepIn K (.ref (He.ga K x)) && (decide (findIn K (.ref (He.ga K x)) "__init__" = some (some (.ref (He.ma K (He.ga K x) "__init__")))) && (decide (typeIn K (.ref (He.ma K (He.ga K x) "__init__")) = some (.type "function")) &&
  (decide (nsIn K cStatics "thirdparty.any" = some none) && (decide (nsIn K mainGlobals x = some (some (.ref (He.ga K x)))) && (match K.lookup (He.ma K (He.ga K x) "__init__") with
    | some ⟨_, _, .func fd, _⟩ => fdB K file (He.ga K x) p fd
    | _ => false))))))))))
/-- what is asked of a caught error -/
def xfaB (K : Frag) (x p : Str) : Bool :=
  (clsIn K (He.ga K x)).isSome && (decide (findIn K (.ref (He.ga K x)) "__getattribute__" = some (some (.builtin "BaseException.__getattribute__"))) && (decide (findIn K (.ref (He.ga K x)) "__getattr__" = some none) && (decide (subIn K (.ref (He.ga K x)) (.type "BaseException") = some true) &&
  (decide (findIn K (.ref (He.ga K x)) "__class__" = some (some (.builtin "object.__class__"))) && (decide (specialIn K (.builtin "object.__class__") "__get__" = some (some (.builtin "getset_descriptor.__get__"))) && (decide (takesIn K (.builtin "object.__class__") = some true) &&
  (decide (mroIn K (He.ga K x) (.type "object") = some true) && (hasDictIn K (He.ga K x) && decide (findIn K (.ref (He.ga K x)) p = some none)))))))))
/-- an except clause that names y, an error of the class x: caught, or not -/
def exmB (K : Frag) (x y : Str) (b : Bool) : Bool := decide (exmOne K (.ref (He.ga K x)) (.ref (He.ga K y)) = some b)
/-- isinstance of an error of the class x -/
def kitB (K : Frag) (x y : Str) (b : Bool) : Bool := decide (kitOne K (.ref (He.ga K x)) (.ref (He.ga K y)) = some b)
def kitTB (K : Frag) (x : Str) (T : String) (b : Bool) : Bool := decide (kitOne K (.ref (He.ga K x)) (.type T) = some b)
/-- a global that is a class -/
def gloB (K : Frag) (x : Str) : Bool := decide (nsIn K mainGlobals x = some (some (.ref (He.ga K x))))
end DL
/-! ### the looks at the top's end: the statics' table too -/
namespace DL
open PySem
def fragY (n : Nat) (g : Addr → Option Obj) : PySem.W.Frag := He.frT g (He.asD g n ++ [cStatics])
def obsY (n : Nat) (fa : List He.Fa) (fn : List He.DefD) (ex : PySem.W.Frag → Bool) (g : Addr → Option Obj) : He.AlD × Bool := (He.obsD fa fn (fragY n g), ex (fragY n g))
def hookY (n : Nat) (fa : List He.Fa) (fn : List He.DefD) (ex : PySem.W.Frag → Bool) : PySem.W.Hook where
  α := He.AlD × Bool
  obs := fun s => obsY n fa fn ex s.heap.get?
  val := fun _ => (He.valD fn, true)
  says := fun _ h => ∃ K : PySem.W.Frag, K.In h ∧ He.SaysD fa fn K ∧ ex K = true
  of := fun _ _ e => ⟨_, He.frT_in, congrArg Prod.fst e, congrArg Prod.snd e⟩
  keeps := fun _ _ _ ⟨K, hK, c⟩ k => ⟨K, PySem.W.Frag.In.keeps hK k, c⟩
end DL

namespace DL
open PySem L2 PySem.W PySem.Calls PyProof.Rows PySem.Spec
/-! ### [f, g, ..][i](..): one of some defs, told by a number -/
section
variable {X : Cx} {C : CA} {c : Cs} {e fe : Expr} {es : List Expr} {fa : AF} {pos p p2 : Pos} {np : Nat} {W : WX}
/-- a def that a name tells -/
structure LF (X : Cx) (C : CA) (np : Nat) (x : Str) (f : Addr) (ff : FF) (gg : XFF) : Prop where
  ok : ∃ (k : Nat) (fd : FuncData) (ps : List Str), FnOk X.prog X.w X.K X.mg X.base CX0 k f fd ps (spF X.K C [] false np ff) ∧ Room k X.A ∧ L2.Binds X.K fd ps []
  okx : (∃ (k : Nat) (fd : FuncData) (ps : List Str), FnOk X.prog X.w X.K X.mg X.base (L2N.CX X.prog X.w) k f fd ps (spX X.K C [] np gg) ∧ Room k X.A ∧ L2.Binds X.K fd ps []) ∨ gg = fun _ => none
  mg : X.mg x = some (.ref f)
  kp : PySem.W.keepIn X.K (.ref f) = true
  gl : Gl X x
  db : (x == ("__debug__" : Str)) = false
  st : ∀ (p : Pos) (es : List Expr), starEach (.Name x p :: es) X.env = (false, eval (.Name x p) X.env) :: starEach es X.env
inductive LFs (X : Cx) (C : CA) (np : Nat) : List Expr → List FF → List XFF → List Addr → Prop
  | nil : LFs X C np [] [] [] []
  | cons {x : Str} {p : Pos} {ns : List Expr} {ff : FF} {gg : XFF} {fs : List FF} {gs : List XFF} {f : Addr} {as : List Addr} : LF X C np x f ff gg → LFs X C np ns fs gs as → LFs X C np (.Name x p :: ns) (ff :: fs) (gg :: gs) (f :: as)
theorem LFs.len {ns : List Expr} {fs : List FF} {gs : List XFF} {as : List Addr} (h : LFs X C np ns fs gs as) : fs.length = as.length ∧ gs.length = as.length := by
  induction h with
  | nil => exact ⟨rfl, rfl⟩
  | cons _ _ ih => exact ⟨by simp [ih.1], by simp [ih.2]⟩
theorem LFs.at {ns : List Expr} {fs : List FF} {gs : List XFF} {as : List Addr} (h : LFs X C np ns fs gs as) : ∀ {i : Nat} {f : Addr}, as[i]? = some f → ∃ x ff gg, fs[i]? = some ff ∧ gs[i]? = some gg ∧ LF X C np x f ff gg := by
  induction h with
  | nil => intro i f e; simp at e
  | cons h1 _ ih =>
    intro i f e
    cases i with
    | zero => simp at e; subst e; exact ⟨_, _, _, rfl, rfl, h1⟩
    | succ i => simpa using ih (by simpa using e)
def fCL (np : Nat) (fs : List FF) (fi : EF) (fa : AF) : EF := fun env => (fi env).bind fun p => (rdB p.2 p.1).bind fun d => match d with
  | .int i => (atI fs i).bind fun ff => (fa p.2).bind fun q => (vals q.1).bind fun ds => if ds.length = np then (ff ds).bind fun r => some (.val r.1, q.2) else none
  | _ => none
def xCL (np : Nat) (gs : List XFF) (fi : EF) (fa : AF) : XF := fun env => (fi env).bind fun p => (rdB p.2 p.1).bind fun d => match d with
  | .int i => (atI gs i).bind fun gg => (fa p.2).bind fun q => (vals q.1).bind fun ds => if ds.length = np then (gg ds).bind fun r => some (r.1, q.2) else none
  | _ => none
/-! the reader's steps -/
end
end DL

namespace DL
open PySem L2
/-! ### live objects: data whose list is a cell of any number -/
def CA.sub (C : CA) (j : Nat) : CA := ⟨C.cls, fun k => if k = 0 then C.cel j else none⟩
def CA.atj (C : CA) (j : Nat) (b : Addr) : CA := ⟨C.cls, fun k => if k = j then some b else C.cel k⟩
section
variable {K : PySem.W.Frag} {C C' : CA} {F H : Hp} {b : Addr}
mutual
theorem Rp.to (hc : C'.cls = C.cls) {v : V} {d : D} (h : Rp K C F v d) (n : noCel d = true) : Rp K C' F v d := match h with
  | .non => .non
  | .bl b => .bl b
  | .int i => .int i
  | .str x => .str x
  | .lst h1 hl h2 => .lst h1 hl (h2.to hc n)
  | .scr h1 => .scr h1
  | .tup h1 hl h2 => .tup h1 hl (h2.to hc n)
  | .dic h1 h2 => .dic h1 (h2.to hc n)
  | .obj h1 h2 => .obj (by rw [hc]; exact h1) (h2.to hc n)
  | .cel j h => by cases n
  | .dtu h1 h2 => by cases n
  | .btu h1 h2 h3 h4 => .btu h1 h2 h3 (h4.to hc n)
theorem RpAll.to (hc : C'.cls = C.cls) {vs : List V} {ds : List D} (h : RpAll K C F vs ds) (n : noCels ds = true) : RpAll K C' F vs ds := match h with
  | .nil => .nil
  | .cons h1 h2 => by
    obtain ⟨n1, n2⟩ := Bool.and_eq_true_iff.mp (show (noCel _ && noCels _) = true from n)
    exact .cons (h1.to hc n1) (h2.to hc n2)
theorem RpKV.to (hc : C'.cls = C.cls) {vs : List (Key × V)} {ds : List (Key × D)} (h : RpKV K C F vs ds) (n : noCelK ds = true) : RpKV K C' F vs ds := match h with
  | .nil => .nil
  | .cons h1 h2 => by
    obtain ⟨n1, n2⟩ := Bool.and_eq_true_iff.mp (show (noCel _ && noCelK _) = true from n)
    exact .cons (h1.to hc n1) (h2.to hc n2)
theorem RpFs.to (hc : C'.cls = C.cls) {vs : List (Str × V)} {ds : List (Str × D)} (h : RpFs K C F vs ds) (n : noCelF ds = true) : RpFs K C' F vs ds := match h with
  | .nil => .nil
  | .cons h1 h2 => by
    obtain ⟨n1, n2⟩ := Bool.and_eq_true_iff.mp (show (noCel _ && noCelF _) = true from n)
    exact .cons (h1.to hc n1) (h2.to hc n2)
end
theorem Own.to (hc : C'.cls = C.cls) {a : Addr} {d : D} (h : Own K C F H a d) (n : noCel d = true) : Own K C' F H a d := by
  cases d <;> simp only [Own] at h ⊢
  · obtain ⟨vs, q, l, r⟩ := h; exact ⟨vs, q, l, r.to hc n⟩
  · obtain ⟨vs, q, r⟩ := h; exact ⟨vs, q, r.to hc n⟩
  · obtain ⟨dx, vs, q, r⟩ := h; exact ⟨dx, vs, by rw [hc]; exact q, r.to hc n⟩
  · cases n
  · cases n
theorem Rp.sub {j : Nat} {v : V} {d : D} (h : Rp K C F v d) (n : noCel d = true) : Rp K (C.sub j) F v d := Rp.to (C := C) (C' := C.sub j) rfl h n
theorem Own.sub {j : Nat} {a : Addr} {d : D} (h : Own K C F H a d) (n : noCel d = true) : Own K (C.sub j) F H a d := Own.to (C := C) (C' := C.sub j) rfl h n
theorem Rp.unatj {j : Nat} {v : V} {d : D} (h : Rp K (C.atj j b) F v d) (n : noCel d = true) : Rp K C F v d := Rp.to (C := C.atj j b) (C' := C) rfl h n
theorem Own.unatj {j : Nat} {a : Addr} {d : D} (h : Own K (C.atj j b) F H a d) (n : noCel d = true) : Own K C F H a d := Own.to (C := C.atj j b) (C' := C) rfl h n
/-- more cells -/
structure CIn (C C' : CA) : Prop where
  cls : C'.cls = C.cls
  cel : ∀ i a, C.cel i = some a → C'.cel i = some a
mutual
theorem Rp.incl (hc : CIn C C') {v : V} {d : D} (h : Rp K C F v d) : Rp K C' F v d := match h with
  | .non => .non
  | .bl b => .bl b
  | .int i => .int i
  | .str x => .str x
  | .lst h1 hl h2 => .lst h1 hl (h2.incl hc)
  | .scr h1 => .scr h1
  | .tup h1 hl h2 => .tup h1 hl (h2.incl hc)
  | .dic h1 h2 => .dic h1 (h2.incl hc)
  | .obj h1 h2 => .obj (by rw [hc.cls]; exact h1) (h2.incl hc)
  | .cel j h => .cel j (hc.cel _ _ h)
  | .dtu h1 h2 => .dtu h1 (h2.incl hc)
  | .btu h1 h2 h3 h4 => .btu h1 h2 h3 (h4.incl hc)
theorem RpAll.incl (hc : CIn C C') {vs : List V} {ds : List D} (h : RpAll K C F vs ds) : RpAll K C' F vs ds := match h with
  | .nil => .nil
  | .cons h1 h2 => .cons (h1.incl hc) (h2.incl hc)
theorem RpKV.incl (hc : CIn C C') {vs : List (Key × V)} {ds : List (Key × D)} (h : RpKV K C F vs ds) : RpKV K C' F vs ds := match h with
  | .nil => .nil
  | .cons h1 h2 => .cons (h1.incl hc) (h2.incl hc)
theorem RpFs.incl (hc : CIn C C') {vs : List (Str × V)} {ds : List (Str × D)} (h : RpFs K C F vs ds) : RpFs K C' F vs ds := match h with
  | .nil => .nil
  | .cons h1 h2 => .cons (h1.incl hc) (h2.incl hc)
theorem RpTV.incl (hc : CIn C C') {vs : List (List Key × V)} {ds : List (List Key × D)} (h : RpTV K C F vs ds) : RpTV K C' F vs ds := match h with
  | .nil => .nil
  | .cons h1 h2 => .cons (h1.incl hc) (h2.incl hc)
end
theorem Own.incl (hc : CIn C C') {a : Addr} {d : D} (h : Own K C F H a d) : Own K C' F H a d := by
  cases d <;> simp only [Own] at h ⊢
  · obtain ⟨vs, q, l, r⟩ := h; exact ⟨vs, q, l, r.incl hc⟩
  · obtain ⟨vs, q, r⟩ := h; exact ⟨vs, q, r.incl hc⟩
  · obtain ⟨dx, vs, q, r⟩ := h; exact ⟨dx, vs, by rw [hc.cls]; exact q, r.incl hc⟩
  · obtain ⟨q0, r⟩ := h; exact ⟨hc.cel _ _ q0, r⟩
  · obtain ⟨vs, q, r⟩ := h; exact ⟨vs, q, r.incl hc⟩
/-! what a callee sees: its object's list is its cell 0 -/
def renV (j : Nat) : D → D
  | .cel i => if i = j then .cel 0 else .cel i
  | d => d
def okVL (j : Nat) : D → Bool
  | .cel i => decide (i = j)
  | d => noCel d
def renD (j : Nat) : D → D
  | .obj k fs => .obj k (fs.map fun p => (p.1, renV j p.2))
  | d => d
def okR (j : Nat) : D → Bool
  | .obj _ fs => fs.all fun p => okVL j p.2
  | d => noCel d
theorem Rp.renV {j : Nat} {v : V} {d : D} (h : Rp K C F v d) (n : okVL j d = true) : Rp K (C.sub j) F v (renV j d) := by
  cases d
  case cel i =>
    have e : i = j := of_decide_eq_true n
    subst e
    cases h with
    | cel _ hc =>
      have e : DL.renV i (.cel i) = .cel 0 := if_pos rfl
      rw [e]
      exact .cel 0 (show (if 0 = 0 then C.cel i else none) = some _ from hc)
  all_goals exact Rp.to (C := C) (C' := C.sub j) rfl h n
theorem RpFs.renV {j : Nat} {vs : List (Str × V)} {fs : List (Str × D)} (h : RpFs K C F vs fs) (n : (fs.all fun p => okVL j p.2) = true) : RpFs K (C.sub j) F vs (fs.map fun p => (p.1, renV j p.2)) := by
  induction vs generalizing fs with
  | nil => cases h; exact .nil
  | cons q vs ih =>
    cases h with
    | cons h1 h2 =>
      rw [List.all_cons, Bool.and_eq_true] at n
      exact .cons (h1.renV n.1) (ih h2 n.2)
theorem Rp.renD {j : Nat} {v : V} {d : D} (h : Rp K C F v d) (n : okR j d = true) : Rp K (C.sub j) F v (renD j d) := by
  cases d
  case obj k fs =>
    cases h with
    | obj h1 h2 => exact .obj h1 (h2.renV n)
  all_goals exact Rp.to (C := C) (C' := C.sub j) rfl h n
theorem RpAll.renD {j : Nat} {vs : List V} {ds : List D} (h : RpAll K C F vs ds) (n : ds.all (okR j) = true) : RpAll K (C.sub j) F vs (ds.map (renD j)) := by
  induction vs generalizing ds with
  | nil => cases h; exact .nil
  | cons q vs ih =>
    cases h with
    | cons h1 h2 =>
      rw [List.all_cons, Bool.and_eq_true] at n
      exact .cons (h1.renD n.1) (ih h2 n.2)
def celF : List (Str × D) → Option Nat
  | [] => none
  | (_, .cel j) :: _ => some j
  | _ :: r => celF r
def celA : List D → Option Nat
  | [] => none
  | .obj _ fs :: ds => (celF fs).or (celA ds)
  | _ :: ds => celA ds
def posC : List Nat → Nat → Option Nat
  | [], _ => none
  | x :: xs, j => if x = j then some 0 else (posC xs j).map (· + 1)
end
section
variable {K : PySem.W.Frag} {C : CA} {c : Cs} {z : Zn} {F H : Hp} {env : Env} {σ : St}
end
/-- a call that is handed an object with cell j -/
def callJ (n : Nat) (cs : List Nat) (np : Nat) (ff : FF) (ds : List D) (env : Env) : Option (D × Env) :=
  (celA ds).bind fun j => (posC cs j).bind fun p => if ds.all (okR j) = true ∧ ds.length = np then (gt env (n + p)).bind fun dc => if noCel dc = true then (ff (ds.map (renD j) ++ [dc])).bind fun r => (match r.2 with
    | [o] => if noCel r.1 = true ∧ noCel o = true then some (r.1, st env (n + p) (some o)) else none
    | _ => none) else none else none
section
variable {m : Bool} {X : Cx} {C : CA} {c : Cs} {e a b o : Expr} {es : List Expr} {fa : AF} {f g fo : EF} {pos p apos cpos : Pos} {x : Str} {k np : Nat} {fad : Addr} {fd : FuncData} {ps : List Str} {dv : List V} {ds0 : List Value} {ff : FF}
/-! ### the cell by its object's attribute -/
def fCelJ (n : Nat) (cs : List Nat) (kk : Nat) (nm : Str) (f : EF) : EF := fun env => (f env).bind fun p => (rdB p.2 p.1).bind fun x => (attrD kk nm x).bind fun d => match d with
  | .cel j => (posC cs j).bind fun q => some (.slot (n + q), p.2)
  | _ => none
/-! ### o.append(..), o.pop(): o an expression that gives a list of one's own -/
def fMtE (op : D → List D → Option (D × D)) (fo : EF) (fa : AF) : EF := fun env => (fo env).bind fun p => match p.1 with
  | .slot i => (gt p.2 i).bind fun d0 => if isLst d0 = true then (fa p.2).bind fun q => (vals q.1).bind fun ds => (gt q.2 i).bind fun dc => (op dc ds).bind fun r => some (.val r.1, st q.2 i (some r.2)) else none
  | .val _ => none
/-! ### calls -/
/-- o.m(..) -/
def fMeJ (kk : Nat) (nm : Str) (np n : Nat) (cs : List Nat) (ff : FF) (fo : EF) (fa : AF) : EF := fun env => (fo env).bind fun p => match p.1 with
  | .val (.obj k fs) => if k = kk ∧ fs.lookup nm = none then (fa p.2).bind fun q => (vals q.1).bind fun ds => (callJ n cs np ff (.obj k fs :: ds) q.2).bind fun r => some (.val r.1, r.2) else none
  | _ => none
/-- o.p, p a property -/
def fPrJ (kk np n : Nat) (cs : List Nat) (ff : FF) (fo : EF) : EF := fun env => (fo env).bind fun p => match p.1 with
  | .val (.obj k fs) => if k = kk then (callJ n cs np ff [.obj k fs] p.2).bind fun r => some (.val r.1, r.2) else none
  | _ => none
/-- f(..) of a def -/
def fCJ (np n : Nat) (cs : List Nat) (ff : FF) (fa : AF) : EF := fun env => (fa env).bind fun q => (vals q.1).bind fun ds => (callJ n cs np ff ds q.2).bind fun r => some (.val r.1, r.2)
/-- len(o) by the own __len__ -/
def fLenJ (kk n : Nat) (cs : List Nat) (ff : FF) (f : EF) : EF := fun env => (f env).bind fun p => match p.1 with
  | .val (.obj k fs) => if k = kk then (callJ n cs 1 ff [.obj k fs] p.2).bind fun r => (match r.1 with
      | .int n => if decide (0 ≤ n) && decide (n < 2 ^ 63) then some (.val (.int n), r.2) else none
      | _ => none) else none
  | _ => none
end
end DL

namespace DL
open PySem L2
/-! ### a live object is made: its list is a further hidden slot of the def -/
abbrev Cs.add (c : Cs) (j : Nat) : Cs := ⟨c.n, c.O, c.io, c.ci, c.cn ++ [j]⟩
def okE : List Bool → Env → Bool
  | b :: bs, x :: xs => (!b || (match x with | some d => noCel d | none => true)) && okE bs xs
  | _, _ => true
def maskE : List Bool → Env → Env
  | b :: bs, x :: xs => (if b = true then x else none) :: maskE bs xs
  | _, _ => []
theorem maskE_length : ∀ {bs : List Bool} {e : Env}, bs.length ≤ e.length → (maskE bs e).length = bs.length
  | [], e, _ => by cases e <;> rfl
  | b :: bs, [], h => by simp at h
  | b :: bs, x :: xs, h => by
    show (maskE bs xs).length + 1 = bs.length + 1
    rw [maskE_length (by simpa using h)]
theorem gt_mask : ∀ {bs : List Bool} {e : Env} {i : Nat} {d : D}, okE bs e = true → gt (maskE bs e) i = some d → i < bs.length ∧ gt e i = some d ∧ noCel d = true
  | [], e, i, d, _, h => by cases e <;> cases h
  | b :: bs, [], i, d, _, h => by cases h
  | b :: bs, x :: xs, 0, d, ho, h => by
    cases b with
    | false => cases h
    | true =>
      have hx : x = some d := h
      subst hx
      obtain ⟨h1, _⟩ := Bool.and_eq_true_iff.mp (show ((!true || noCel d) && okE bs xs) = true from ho)
      exact ⟨Nat.succ_pos _, rfl, h1⟩
  | b :: bs, x :: xs, i + 1, d, ho, h => by
    have ho2 : okE bs xs = true := by
      unfold okE at ho
      exact (Bool.and_eq_true_iff.mp ho).2
    obtain ⟨h1, h2, h3⟩ := gt_mask ho2 (show gt (maskE bs xs) i = some d from h)
    exact ⟨Nat.succ_lt_succ h1, h2, h3⟩
section
variable {K : PySem.W.Frag} {C : CA} {c : Cs} {z : Zn} {F H : Hp} {env : Env} {σ : St} {b : Addr} {j : Nat}
theorem cells_add (hj : j ∉ c.cs) : cells (C.atj j b) (c.add j) = cells C c ++ [some (.ref b)] := by
  unfold cells
  have e : (c.add j).cs = c.cs ++ [j] := by
    unfold Cs.cs Cs.add
    rw [List.append_assoc]
  rw [e, List.map_append]
  congr 1
  · refine List.map_congr_left fun i hi => ?_
    have hne : i ≠ j := fun q => hj (q ▸ hi)
    show (if i = j then some b else C.cel i).map V.ref = _
    rw [if_neg hne]
  · show [(if j = j then some b else C.cel j).map V.ref] = _
    rw [if_pos rfl]
    rfl
theorem add_x : (c.add j).x = ⟨c.x.n + 1, c.x.O ++ [c.x.n], c.x.io, [], []⟩ := by
  have e : (c.ci ++ (c.cn ++ [j])).length = (c.ci ++ c.cn).length + 1 := by simp [Nat.add_assoc]
  show Cs.mk (c.n + (c.ci ++ (c.cn ++ [j])).length) (c.O ++ (List.range (c.ci ++ (c.cn ++ [j])).length).map fun k => c.n + k) (c.io ++ c.ixi) [] [] = Cs.mk (c.n + (c.ci ++ c.cn).length + 1) ((c.O ++ (List.range (c.ci ++ c.cn).length).map fun k => c.n + k) ++ [c.n + (c.ci ++ c.cn).length]) (c.io ++ c.ixi) [] []
  rw [e, List.range_succ, List.map_append, ← List.append_assoc, Nat.add_assoc]
  rfl
theorem SR.leave {mask : List Bool} (S : SR K (C.atj j b) (c.add j) z F env σ H) (hg : z.gh = []) (hj : j ∉ c.cs) (hio : c.io = []) (hci : c.ci = []) (hm : mask.length = c.x.n) (ho : okE mask env = true) :
    SR K C c z F (maskE mask env) σ H := by
  refine ⟨?_, S.ln, S.hO, S.hio⟩
  have B := S.b
  rw [add_x, cells_add hj, ← List.append_assoc] at B
  have en : env.length = c.x.n + 1 := B.num
  have sl : (σ ++ cells C c).length = c.x.n := by
    have := B.len
    rw [List.length_append, en] at this
    simpa using this.symm
  have stL : ∀ i, i < c.x.n → (σ ++ cells C c ++ [some (V.ref b)])[i]? = (σ ++ cells C c)[i]? := fun i h => List.getElem?_append_left (by rw [sl]; exact h)
  have xio : c.x.io = [] := by
    unfold Cs.x Cs.ixi
    rw [hio, hci]
    rfl
  have ml : (maskE mask env).length = c.x.n := by rw [maskE_length (by rw [hm, en]; exact Nat.le_succ _), hm]
  have get : ∀ {i d}, gt (maskE mask env) i = some d → i < c.x.n ∧ gt env i = some d ∧ noCel d = true := fun h => by
    obtain ⟨q1, q2, q3⟩ := gt_mask ho h
    exact ⟨by rw [← hm]; exact q1, q2, q3⟩
  refine ⟨B.sub, B.f0, B.new, B.keep, (by rw [ml, sl]), ml, fun i d h hi => ?_, fun i d h hi => ?_, fun i k di dk a hi hk hik ei ek si sk => ?_, B.iol, fun a d h => (by rw [hg] at h; cases h), fun a d i e h => (by rw [hg] at h; cases h), B.ghn, fun k i h => (by rw [xio] at h; cases h)⟩
  · obtain ⟨lt, h1, h2⟩ := get h
    obtain ⟨v, q1, q2⟩ := B.pur i d h1 fun q => by
      rcases List.mem_append.mp q with q | q
      · exact hi q
      · have : i = c.x.n := by simpa using q
        omega
    exact ⟨v, by rw [← stL i lt]; exact q1, q2.unatj h2⟩
  · obtain ⟨lt, h1, h2⟩ := get h
    obtain ⟨a, q1, q2, q3, q4⟩ := B.own i d h1 (List.mem_append_left _ hi)
    exact ⟨a, by rw [← stL i lt]; exact q1, q2, q3.unatj h2, q4⟩
  · obtain ⟨lt, h1, _⟩ := get ei
    obtain ⟨lt2, h2, _⟩ := get ek
    exact B.dist i k di dk a (List.mem_append_left _ hi) (List.mem_append_left _ hk) hik h1 h2 (by rw [stL i lt]; exact si) (by rw [stL k lt2]; exact sk)
theorem RetOk.leave {m : Bool} {mask : List Bool} {v : V} {d : D} (R : RetOk m K (C.atj j b) (c.add j) z F env H v d) (hio : c.io = []) (hci : c.ci = []) (hd : noCel d = true) :
    RetOk m K C c z F (maskE mask env) H v d := by
  have xio : c.x.io = [] := by
    unfold Cs.x Cs.ixi
    rw [hio, hci]
    rfl
  refine ⟨R.sub, R.f0, R.new, R.keep, fun k i h => (by rw [xio] at h; cases h), ?_⟩
  have := R.val
  cases m with
  | false => exact Rp.unatj (show Rp K (C.atj j b) F v d from this) hd
  | true =>
    obtain ⟨a, q1, q2, q3, q4⟩ := this
    exact ⟨a, q1, q2, q3, q4.unatj hd⟩
end
/-! ### the making -/
abbrev LvF := Env → Option ((D × D) × Env)
/-- an expression that gives a new object whose list is new -/
def tL (K : PySem.W.Frag) (C : CA) (c : Cs) (j : Nat) (f : LvF) : TE := fun σ H Q => ∃ z F env o dc env', SR K C c z F env σ H ∧ f env = some ((o, dc), env') ∧
  ∀ v F' H' b, Same F F' → SR K C c z F' env' σ H' → Rp K (C.atj j b) F' v o → F' b = none → z.H0 b = none → Own K C F' H' b dc → Apt C c env' σ b → (∀ e, (b, e) ∉ z.gh) → Q v H'
def DLv (X : Cx) (C : CA) (c : Cs) (j : Nat) (e : Expr) (f : LvF) : Prop := PE X e (tL X.K C c j f)
def fLv (kk npm : Nat) (g : Str) (mk : List D → Option (List (Str × D) × D)) (j : Nat) (fa : AF) : LvF := fun env => (fa env).bind fun q => (vals q.1).bind fun ds => if (D.obj kk [] :: ds).length = npm then (mk ds).bind fun r => some ((.obj kk (putFD g (.cel j) r.1), r.2), q.2) else none
section
variable {m : Bool} {X : Cx} {C : CA} {c : Cs} {e a b : Expr} {es : List Expr} {ss : List Stmt} {fa : AF} {fl : LvF} {fb : SF} {pos p : Pos} {x : Str} {k npm j : Nat} {fad : Addr} {fd : FuncData} {ps : List Str} {mk : List D → Option (List (Str × D) × D)}
/-! ### x = L(..), and the rest of the block -/
def lvE (mask : List Bool) (e : Env) : Option Env := if okE mask e = true then some (maskE mask e) else none
def lvFl (mask : List Bool) : Fl → Option Fl
  | .nx e => (lvE mask e).map .nx
  | .bk e => (lvE mask e).map .bk
  | .ct e => (lvE mask e).map .ct
  | .rt d e => if noCel d = true then some (.rt d (maskE mask e)) else none
def FlK (m : Bool) (K : PySem.W.Frag) (C : CA) (c : Cs) (z : Zn) (F : Hp) (Dn : Ends) (fl : Fl) : Prop := match fl with
  | .nx env' => ∀ F' σ' H', Same F F' → SR K C c z F' env' σ' H' → Dn.nx σ' H'
  | .bk env' => ∀ F' σ' H', Same F F' → SR K C c z F' env' σ' H' → Dn.bk σ' H'
  | .ct env' => ∀ F' σ' H', Same F F' → SR K C c z F' env' σ' H' → Dn.ct σ' H'
  | .rt d env' => ∀ v F' H', Same F F' → RetOk m K C c z F' env' H' v d → Dn.rt v H'
def sLv (i : Nat) (mask : List Bool) (fl : LvF) (fb : SF) : SF := fun env => (fl env).bind fun r => (fb (st r.2 i (some r.1.1) ++ [some r.1.2])).bind (lvFl mask)
theorem PSs.ex {α : Type} {t : α → TS} (h : ∀ b, PSs X ss (t b)) : PSs X ss (fun Dn σ H => ∃ b, t b Dn σ H) := ⟨fun pins s σ H Q I ⟨b, q⟩ => (h b).run pins s σ H Q I q⟩
/-- x, y = L(..), e -/
def sLvP (i k : Nat) (mask : List Bool) (fl : LvF) (g : OF) (fb : SF) : SF := fun env => (fl env).bind fun r => (g r.2).bind fun q => (fb (st (st q.2 i (some r.1.1)) k (some q.1) ++ [some r.1.2])).bind (lvFl mask)
end
end DL

namespace DL
open PySem L2
/-! ### a live object made as the one argument of a call -/
section
variable {m : Bool} {X : Cx} {C : CA} {c : Cs} {e : Expr} {es : List Expr} {fl : LvF} {f g : EF} {fo fo2 : OF} {p : TF} {pos pp : Pos} {x : Str} {k np j : Nat} {fad : Addr} {fd : FuncData} {ps : List Str} {ff : FF}
/-- a call has turned an object of nobody's -/
theorem SRo.calledN {K : PySem.W.Frag} {z : Zn} {F F' H H' : Hp} {env : Env} {σ : St} {b : Addr} (S : SRo K C c z F env σ H) (s : Same F F') (inn : Same F' H') (new : ∀ a u, F' a = some u → F a = some u ∨ H a = none) (keep : ∀ a u, H a = some u → a ≠ b → H' a = some u) (fb : F b = none) (zb : z.H0 b = none) (ap : ∀ j e, j ∈ c.O → gt env j = some e → σ[j]? ≠ some (some (.ref b))) (ng : ∀ e, (b, e) ∉ z.gh) :
    SRo K C c z F' env σ H' := by
  have frF : ∀ {a : Addr} {d : D}, F a = none → Own K C F H a d → F' a = none := fun {a d} h2 h3 => by
    obtain ⟨o, ho⟩ := h3.some
    cases q : F' a with
    | none => rfl
    | some u =>
      rcases new a u q with r | r
      · rw [h2] at r; cases r
      · rw [ho] at r; cases r
  have ow' : ∀ {a : Addr} {d : D}, a ≠ b → Own K C F H a d → Own K C F' H' a d := fun {a d} hne h3 => by
    obtain ⟨o, ho⟩ := h3.some
    exact h3.mono s ((keep a o ho hne).trans ho.symm)
  refine ⟨inn, S.f0.trans s, fun a u h => ?_, fun a u h ha => ?_, S.len, S.num, fun i d h hi => ?_, fun i d h hi => ?_, S.dist, S.iol, fun a d h => ?_, S.ghd, S.ghn, S.ios⟩
  · rcases new a u h with q | q
    · exact S.new a u q
    · exact .inr (S.free0 q)
  · exact keep a u (S.keep a u h ha) fun q => by subst q; rw [zb] at h; cases h
  · obtain ⟨v, h1, h2⟩ := S.pur i d h hi
    exact ⟨v, h1, h2.mono s⟩
  · obtain ⟨a, h1, h2, h3, h4⟩ := S.own i d h hi
    exact ⟨a, h1, frF h2 h3, ow' (fun q => ap i d hi h (q ▸ h1)) h3, h4⟩
  · obtain ⟨h2, h3, h4⟩ := S.gho a d h
    exact ⟨frF h2 h3, ow' (fun q => ng d (q ▸ h)) h3, h4⟩
theorem SR.calledN {K : PySem.W.Frag} {z : Zn} {F F' H H' : Hp} {env : Env} {σ : St} {b : Addr} (S : SR K C c z F env σ H) (s : Same F F') (inn : Same F' H') (new : ∀ a u, F' a = some u → F a = some u ∨ H a = none) (keep : ∀ a u, H a = some u → a ≠ b → H' a = some u) (fb : F b = none) (zb : z.H0 b = none) (ap : Apt C c env σ b) (ng : ∀ e, (b, e) ∉ z.gh) :
    SR K C c z F' env σ H' := ⟨S.b.calledN s inn new keep fb zb ap ng, S.ln, S.hO, S.hio⟩
/-- the callee's result of a new object's own -/
def tmpJ (j : Nat) (ff : FF) (o dc : D) : Option D := if okR j o = true ∧ noCel dc = true then (ff [renD j o, dc]).bind fun q => (match q.2 with
  | [_] => if noCel q.1 = true then some q.1 else none
  | _ => none) else none
/-- f(L(..)) -/
def fCT (j : Nat) (ff : FF) (fl : LvF) : EF := fun env => (fl env).bind fun r => (tmpJ j ff r.1.1 r.1.2).bind fun d => some (.val d, r.2)
/-! ### a try whose body raises nothing -/
/-! ### a if t else b, a new object -/
def oIf (p : TF) (f g : OF) : OF := fun env => (p env).bind fun r => if r.1 = true then f r.2 else g r.2
end
/-! ### tuples whose object is known to have no dict -/
def tTupB (t : TA) : TE := fun σ H Q => t σ H fun xs H1 => xs.length ≤ sizeLine ∧ ∀ p o, o.dict = none → H1 p = none → Q (.ref p) (upd H1 p (.frz o (.tup xs)))
theorem pe_tupB {X : Cx} {es : List Expr} {t : TA} {x1} {pos : Pos} (h : PA X es t) : PE X (.Tuple es x1 pos) (tTupB t) := by
  refine ⟨fun pins s σ H Q I hq => ?_⟩
  refine wpAny_Tuple_spliced (thn (h.run pos pins s σ H _ I hq) fun us s1 ⟨xs, H1, I1, r, z, q⟩ => ⟨by rw [← r.length]; exact z, ?_⟩)
  have hf : H1 s1.heap.objs.size = none := I1.hok.fresh (Nat.le_refl _)
  have at1 : (s1.heap.push { cls := .type "tuple", data := .seq us.toArray }).get? s1.heap.objs.size = some { cls := .type "tuple", data := .seq us.toArray } := Heap.get?_push_size _ rfl
  refine ⟨.ref s1.heap.objs.size, upd H1 s1.heap.objs.size (.frz { cls := .type "tuple", data := .seq us.toArray } (.tup xs)), I1.laid (t' := s1.toks) (fun b u e => Heap.get?_push_of_some _ e) (Nat.le_refl _) ?_, rfl, q _ _ rfl hf⟩
  exact ⟨at1, z, us, r, ⟨_, at1, rfl, _, rfl⟩⟩
section
variable {X : Cx} {C : CA} {c : Cs} {e : Expr} {es : List Expr} {fa : AF} {f : EF} {pos : Pos}
def fTupB (fa : AF) : EF := fun env => (fa env).bind fun p => (vals p.1).bind fun ds => gd ds.length (some (.val (.btu ds), p.2))
theorem de_tupB {x1} (h : DA X C c es fa) : DE X C c (.Tuple es x1 pos) (fTupB fa) := by
  refine PE.imp (pe_tupB h) fun σ H Q ⟨z, F, env, b, env', S, e, k⟩ => ?_
  obtain ⟨⟨bs, e1⟩, h1, e⟩ := Option.bind_eq_some_iff.mp e
  obtain ⟨ds, h2, e⟩ := Option.bind_eq_some_iff.mp e
  obtain ⟨hl, e⟩ := gd_some e
  cases e
  refine ⟨z, F, env, bs, _, S, h1, fun vs F1 H1 s1 S1 r1 => ?_⟩
  have rp := vals_rp r1 h2
  have hl' : vs.length ≤ sizeLine := by rw [rp.length]; exact hl
  refine ⟨hl', fun p o ho hp => ?_⟩
  have ex : Ext F1 H1 (upd F1 p (.frz o (.tup vs))) (upd H1 p (.frz o (.tup vs))) := Ext.laid S1.sub hp
  exact k _ _ _ (s1.trans ex.sub) (S1.ext ex) (.btu upd_same ho hl' (rp.mono ex.sub))
/-- read as any tuple -/
def unB : D → D
  | .btu ds => .tup ds
  | d => d
def fUnb (f : EF) : EF := fun env => (f env).bind fun p => match p.1 with
  | .val d => some (.val (unB d), p.2)
  | .slot _ => none
theorem Rp.unB {K : PySem.W.Frag} {F : Hp} {v : V} {d : D} (h : Rp K C F v d) : Rp K C F v (DL.unB d) := by
  cases h with
  | btu h1 h2 h3 h4 => exact .tup (.inl (.inr ⟨_, h1⟩)) h3 h4
  | non => exact .non
  | bl b => exact .bl b
  | int i => exact .int i
  | str x => exact .str x
  | lst h1 h2 h3 => exact .lst h1 h2 h3
  | scr h1 => exact .scr h1
  | tup h1 h2 h3 => exact .tup h1 h2 h3
  | dic h1 h2 => exact .dic h1 h2
  | obj h1 h2 => exact .obj h1 h2
  | cel j h => exact .cel j h
  | dtu h1 h2 => exact .dtu h1 h2
def tupleB : List D → Option D
  | [.lst ds] => some (.btu ds)
  | _ => none
end
/-! ### dict(pairs) -/
section
variable {X : Cx} {C : CA}
open PySem.Spec in
open PySem.Spec in
def pairsD : List D → Option (List (Key × D))
  | [] => some []
  | .tup [k, d] :: ds => (keyD k).bind fun key => (pairsD ds).bind fun r => some ((key, d) :: r)
  | _ :: _ => none
def mergeD (acc : List (Key × D)) (kvs : List (Key × D)) : List (Key × D) := kvs.foldl (fun a p => putD a p.1 p.2) acc
def dictB : List D → Option D
  | [.btu ds] => (pairsD ds).bind fun kvs => some (.dic (mergeD [] kvs))
  | [.lst ds] => (pairsD ds).bind fun kvs => some (.dic (mergeD [] kvs))
  | _ => none
end
/-! ### the head's facts: a class's properties -/
def pAd (K : PySem.W.Frag) (p : Str × Option Str) : Addr := match p.2 with
  | none => 0
  | some m => (match PySem.W.findIn K (.ref (He.ga K p.1)) m with
    | some (some (.ref q)) => (match PySem.W.recIn K q "property" with
      | some (.ref g :: _) => g
      | _ => 0)
    | _ => 0)
def propB (K : PySem.W.Frag) (c m : Str) : Bool := match PySem.W.findIn K (.ref (He.ga K c)) m with
  | some (some (.ref q)) => decide (PySem.W.specialIn K (.ref q) "__get__" = some (some (.builtin "property.__get__"))) && (decide (PySem.W.takesIn K (.ref q) = some true) && (match PySem.W.recIn K q "property" with
    | some (.ref _ :: _) => true
    | _ => false))
  | _ => false
/-- the defs of properties: what is told of their function objects -/
def fnP (K : PySem.W.Frag) (p : Str × Option Str) : He.FnW := match K.lookup (pAd K p) with
  | some ⟨_, _, .func fd, _⟩ => some (fd.name, fd.qualname, fd.params, fd.body, fd.scope, fd.globals, fd.closure, fd.builtins)
  | _ => none
def okP (K : PySem.W.Frag) (d : He.DefD) : Bool := PySem.W.keepIn K (.ref (pAd K d.at_)) && (match K.lookup (pAd K d.at_) with
  | some ⟨_, _, .func fd, _⟩ => PySem.W.codeIn K fd.code d.qual && (He.dflB K fd.defaults (d.dvs K) && He.kwdB K fd.kwdefaults (d.kws K))
  | _ => false)
theorem funP {K : PySem.W.Frag} {d : He.DefD} (e : fnP K d.at_ = d.val) (c : okP K d = true) : ∃ fd, FunD K d.name d.qual d.params d.body d.scope (d.dvs K) (d.kws K) (pAd K d.at_) fd := by
  obtain ⟨kp, c2⟩ := Bool.and_eq_true_iff.mp c
  unfold fnP at e
  split at e
  case h_2 => cases e
  next oc od fd osl q =>
  rw [q] at c2
  obtain ⟨k1, k2⟩ := Bool.and_eq_true_iff.mp c2
  obtain ⟨k3, k4⟩ := Bool.and_eq_true_iff.mp k2
  obtain ⟨n1, n2, n3, n4, n5, n6, n7, n8, n9, n10, n11, n12, n13, n14, n15⟩ := fd
  have e2 : (some (n1, n2, n3, n4, n5, n6, n7, n15) : He.FnW) = some (d.name, d.qual, d.params, .stmts d.body, d.scope, mainGlobals, [], builtinsNs) := e
  simp only [Option.some.injEq, Prod.mk.injEq] at e2
  obtain ⟨h1, h2, h3, h4, h5, h6, h7, h8⟩ := e2
  subst h1 h2 h3 h4 h5 h6 h7 h8
  exact ⟨_, ⟨oc, od, n8, n9, n10, n11, n12, n13, n14, osl, rfl, q, k1, He.dflB_ok k3, He.kwdB_ok k4⟩, kp⟩
def obsP (n : Nat) (fa : List He.Fa) (fn pn : List He.DefD) (ex : PySem.W.Frag → Bool) (g : Addr → Option Obj) : (He.AlD × Bool) × List He.FnW := ((He.obsD fa fn (fragY n g), ex (fragY n g) && pn.all (okP (fragY n g))), pn.map fun d => fnP (fragY n g) d.at_)
structure SaysP (fa : List He.Fa) (fn pn : List He.DefD) (ex : PySem.W.Frag → Bool) (K : PySem.W.Frag) : Prop where
  d : He.SaysD fa fn K
  more : ex K = true
  ok : pn.all (okP K) = true
  fnw : pn.map (fun d => fnP K d.at_) = pn.map He.DefD.val
theorem SaysP.prop {fa : List He.Fa} {fn pn : List He.DefD} {ex : PySem.W.Frag → Bool} {K : PySem.W.Frag} (c : SaysP fa fn pn ex K) (i : Nat) {d : He.DefD} (h : pn[i]? = some d := by rfl) : ∃ fd, FunD K d.name d.qual d.params d.body d.scope (d.dvs K) (d.kws K) (pAd K d.at_) fd := by
  have e2 : (pn.map fun d => fnP K d.at_)[i]? = (pn.map He.DefD.val)[i]? := by rw [c.fnw]
  rw [List.getElem?_map, List.getElem?_map, h] at e2
  exact funP (Option.some.inj e2) (List.all_eq_true.mp c.ok d (List.mem_of_getElem? h))
def hookP (n : Nat) (fa : List He.Fa) (fn pn : List He.DefD) (ex : PySem.W.Frag → Bool) : PySem.W.Hook where
  α := (He.AlD × Bool) × List He.FnW
  obs := fun s => obsP n fa fn pn ex s.heap.get?
  val := fun _ => ((He.valD fn, true), pn.map He.DefD.val)
  says := fun _ h => ∃ K : PySem.W.Frag, K.In h ∧ SaysP fa fn pn ex K
  of := fun _ _ e => by
    obtain ⟨h1, h2⟩ := Bool.and_eq_true_iff.mp (congrArg (fun z : (He.AlD × Bool) × List He.FnW => z.1.2) e)
    exact ⟨_, He.frT_in, ⟨congrArg (fun z : (He.AlD × Bool) × List He.FnW => z.1.1) e, h1, h2, congrArg (fun z : (He.AlD × Bool) × List He.FnW => z.2) e⟩⟩
  keeps := fun _ _ _ ⟨K, hK, c⟩ k => ⟨K, PySem.W.Frag.In.keeps hK k, c⟩
end DL

namespace L2
open PySem PySem.Spec PyProof.Rows
/-! ### defs that are called while no repr runs, called by name -/
section
variable {X : Cx} {k : Nat} {f : Addr} {fd : FuncData} {ps : List Str} {sp : Sp} {x : Str} {p pos : Pos} {e : Expr} {es : List Expr} {t : TA}
end
end L2
namespace DL
open PySem L2
section
variable {P : Program} {w : World} {K : PySem.W.Frag} {mg : Str → Option Value} {base : Heap} {x qual : Str} {params : Arguments} {body : List Stmt} {scope : Scope} {dvs : List V} {kws : List (Str × V)} {fa : Addr} {fd : FuncData}
end
section
variable {m : Bool} {X : Cx} {C : CA} {c : Cs} {e a b o : Expr} {es : List Expr} {fa : AF} {f g fo : EF} {pos p apos cpos : Pos} {x : Str} {k np : Nat} {fad : Addr} {fd : FuncData} {ps : List Str} {dv : List V} {ds0 : List Value} {ff : FF}
end
end DL

namespace DL
open PySem L2
/-! ### steps for the reader: live objects -/
section
variable {env e e1 e2 e3 e4 : Env} {f g h fo : EF} {fa : AF} {ff : FF} {fl : LvF} {i j n np kk p q nn : Nat} {cs : List Nat} {nm : Str} {d d1 d2 x y w r o dc net : D} {b b1 b2 : B} {ds rs xs ys : List D} {fs : List (Str × D)} {t : TF} {ts : List (Int × Int)}
/-! no cells: nothing is renamed -/
/-- a live net -/
abbrev LVo (j : Nat) (net : D) : D := .obj 2 [("net", net), ("kept", .cel j)]
/-! the making and the scope -/
end
end DL

namespace DL
open PySem L2
/-! ### an expression that does not look at the live objects' lists: the hidden slot is put aside -/
section
variable {K : PySem.W.Frag} {C : CA} {c : Cs} {z : Zn} {F H : Hp} {env : Env} {σ : St} {b : Addr} {j : Nat} {dc : D}
end
def hidE (env : Env) : Option (Env × D) := match env.getLast? with
  | some (some dc) => some (env.dropLast, dc)
  | _ => none
def fHid (f : EF) : EF := fun env => (hidE env).bind fun r => (f r.1).bind fun p => match p.1 with
  | .val d => some (.val d, p.2 ++ [some r.2])
  | .slot _ => none
def oHid (f : OF) : OF := fun env => (hidE env).bind fun r => (f r.1).bind fun p => some (p.1, p.2 ++ [some r.2])
section
variable {X : Cx} {C : CA} {c : Cs} {e : Expr} {f : EF} {fo : OF} {j : Nat}
end
section
variable {env e0 e1 e2 : Env} {d dc : D} {f : EF} {fo : OF}
end
end DL

namespace DL
open PySem L2
/-! ### two live objects at once; a live object among four -/
section
variable {m : Bool} {X : Cx} {C : CA} {c : Cs} {e a b : Expr} {es : List Expr} {ss : List Stmt} {fa : AF} {fl fl1 fl2 : LvF} {fb : SF} {pos p : Pos} {x y : Str} {k npm j j2 : Nat}
/-- x, y = L(..), L(..), and the rest of the block -/
def sLv2 (i k : Nat) (mask : List Bool) (f1 f2 : LvF) (fb : SF) : SF := fun env => (f1 env).bind fun r => (f2 r.2).bind fun q => ((fb (st (st (q.2 ++ [some r.1.2] ++ [some q.1.2]) i (some r.1.1)) k (some q.1.1))).bind (lvFl (mask ++ [true]))).bind (lvFl mask)
/-- x, y, u, w = L(..), e, new, e -/
def sLvQ (i k l n : Nat) (mask : List Bool) (fl : LvF) (g1 g2 g3 : OF) (fb : SF) : SF := fun env => (fl env).bind fun r => (g1 r.2).bind fun p => (g2 p.2).bind fun q => (g3 q.2).bind fun t => (fb (st (st (st (st (t.2 ++ [some r.1.2]) i (some r.1.1)) k (some p.1)) l (some q.1)) n (some t.1))).bind (lvFl mask)
end
/-! ### their steps for the reader -/
section
variable {env e1 e2 e3 e4 : Env} {fl fl2 : LvF} {i k l n : Nat} {mask : List Bool} {fb : SF} {a1 a2 b1 b2 d2 d3 d4 : D} {g1 g2 g3 : OF} {r1 r2 r3 : Fl}
end
end DL

namespace DL
open PySem L2
/-! ### L(..).p and L(..).m(e, ..): an object that nobody keeps -/
section
variable {X : Cx} {C : CA} {c : Cs} {e o : Expr} {es : List Expr} {fl : LvF} {fa : AF} {ff : FF} {pos pp apos : Pos} {k j np : Nat} {fad : Addr} {fd : FuncData} {ps : List Str}
def tmpN (j np : Nat) (ff : FF) (ds : List D) (dc : D) : Option D := if ds.all (okR j) = true ∧ noCel dc = true ∧ ds.length = np then (ff (ds.map (renD j) ++ [dc])).bind fun q => (match q.2 with
  | [_] => if noCel q.1 = true then some q.1 else none
  | _ => none) else none
/-- L(..).p -/
def fPrT (j kk : Nat) (ff : FF) (fl : LvF) : EF := fun env => (fl env).bind fun r => match r.1.1 with
  | .obj k fs => if k = kk then (tmpN j 1 ff [.obj k fs] r.1.2).bind fun d => some (.val d, r.2) else none
  | _ => none
/-- L(..).m(e, ..) -/
def fMeT (j kk : Nat) (nm : Str) (np : Nat) (ff : FF) (fl : LvF) (fa : AF) : EF := fun env => (fl env).bind fun r => match r.1.1 with
  | .obj k fs => if k = kk ∧ fs.lookup nm = none then (fa r.2).bind fun q => (vals q.1).bind fun ds => if noCels ds = true then (tmpN j np ff (.obj k fs :: ds) r.1.2).bind fun d => some (.val d, q.2) else none else none
  | _ => none
end
end DL

namespace DL
open PySem PySem.Spec PyProof.Rows L2
/-! ### d != {} -/
def neDic : D → D → Option D
  | .dic ks, .dic [] => some (.bl (!ks.isEmpty))
  | _, _ => none
section
variable {X : Cx} {C : CA}
end
end DL

namespace DV
open PySem PySem.Spec PyProof.Rows L2
/-! ### d.values() of a dict, whatever its keys are -/
section
variable {prog : Program} {w : World} {A : Around} {E : Value → Shared → Prop} {s : Shared} {d it v : Addr} {od : Obj} {es : Array DictEntry} {ep i : Nat} {en : DictEntry}
end
end DV

namespace DV
open PySem PySem.Spec PyProof.Rows L2
/-- the values of a locked dict with tuples for keys -/
def ItT (d : Addr) (o : Obj) (kvs : List (List Key × V)) : It :=
  ⟨fun i H => H d = some (.frz o (.dT kvs)) ∧ i < kvs.length, fun i H x H' => H' = H ∧ ∃ k, kvs[i]? = some (k, x), fun i H => H d = some (.frz o (.dT kvs)) ∧ kvs.length ≤ i⟩
section
variable {P : Program} {w : World} {K : PySem.W.Frag} {tg : Expr} {d : Addr} {o : Obj} {es : Array DictEntry} {ep : Nat}
end
end DV

namespace DV
open PySem PySem.Spec PyProof.Rows L2
section
variable {prog : Program} {w : World} {A : Around} {E : Value → Shared → Prop} {s : Shared} {d v : Addr} {od : Obj} {es : Array DictEntry} {ep : Nat}
end
def iValsT (td : TE) : TI := fun σ H R => td σ H fun x H1 => ∃ d o kvs, x = .ref d ∧ H1 d = some (.frz o (.dT kvs)) ∧ R (ItT d o kvs) H1
section
variable {X : Cx} {tg e : Expr} {td : TE} {apos cpos : Pos}
end
end DV

namespace DL
open PySem L2
/-! ### dicts with tuples for keys -/
def keyDs : List D → Option (List Key)
  | [] => some []
  | d :: ds => (keyD d).bind fun k => (keyDs ds).bind fun r => some (k :: r)
def lookT (ks : List (List Key × D)) (k : List Key) : Option D := (ks.find? fun p => decide (p.1 = k)).map (·.2)
def putT (ks : List (List Key × D)) (k : List Key) (d : D) : List (List Key × D) := if (ks.any fun p => decide (p.1 = k)) = true then ks.map (fun p => if p.1 = k then (p.1, d) else p) else ks ++ [(k, d)]
section
variable {K : PySem.W.Frag} {C : CA} {F : Hp}
theorem RpTV.look {kvs : List (List Key × V)} {ks : List (List Key × D)} (h : RpTV K C F kvs ks) (k : List Key) : (valV kvs k = none ∧ lookT ks k = none) ∨ ∃ v d, valV kvs k = some v ∧ lookT ks k = some d ∧ Rp K C F v d := by
  induction kvs generalizing ks with
  | nil => cases h; exact .inl ⟨rfl, rfl⟩
  | cons p kvs ih =>
    cases h with
    | @cons k' v _ d ds h1 h2 =>
      by_cases e : k' = k
      · exact .inr ⟨v, d, valV_pos e, by simp [lookT, List.find?_cons, e], h1⟩
      · have e2 : lookT ((k', d) :: ds) k = lookT ds k := by simp [lookT, List.find?_cons, e]
        rw [valV_neg (show ¬ (k', v).1 = k from e), e2]
        exact ih h2
theorem RpTV.len : ∀ {kvs : List (List Key × V)} {ks : List (List Key × D)}, RpTV K C F kvs ks → kvs.length = ks.length
  | _, _, .nil => rfl
  | _, _, .cons h t => by simp [t.len]
theorem RpTV.at : ∀ {kvs : List (List Key × V)} {ks : List (List Key × D)}, RpTV K C F kvs ks → ∀ {i : Nat} {k : List Key} {v : V}, kvs[i]? = some (k, v) → ∃ d, ks[i]? = some (k, d) ∧ Rp K C F v d
  | _, _, .nil, i, k, v, e => by simp at e
  | _, _, .cons h t, i, k, v, e => by
    cases i with
    | zero => simp at e; obtain ⟨rfl, rfl⟩ := e; exact ⟨_, rfl, h⟩
    | succ i => simpa using t.at (by simpa using e)
theorem RpTV.any {kvs : List (List Key × V)} {ks : List (List Key × D)} (h : RpTV K C F kvs ks) (k : List Key) : (kvs.any fun p => decide (p.1 = k)) = (ks.any fun p => decide (p.1 = k)) := by
  induction kvs generalizing ks with
  | nil => cases h; rfl
  | cons p kvs ih =>
    cases h with
    | cons h1 h2 => rw [List.any_cons, List.any_cons, ih h2]
theorem RpTV.map {k : List Key} {v : V} {d : D} (r : Rp K C F v d) : ∀ {kvs : List (List Key × V)} {ks : List (List Key × D)}, RpTV K C F kvs ks → RpTV K C F (kvs.map fun p => if p.1 = k then (p.1, v) else p) (ks.map fun p => if p.1 = k then (p.1, d) else p)
  | _, _, .nil => .nil
  | _, _, @RpTV.cons _ _ _ k' v' vs d' ds h1 h2 => by
    by_cases e : k' = k
    · simp only [List.map_cons, e, if_true]; exact .cons r (RpTV.map r h2)
    · simp only [List.map_cons, e, if_false]; exact .cons h1 (RpTV.map r h2)
theorem RpTV.app {k : List Key} {v : V} {d : D} (r : Rp K C F v d) : ∀ {kvs : List (List Key × V)} {ks : List (List Key × D)}, RpTV K C F kvs ks → RpTV K C F (kvs ++ [(k, v)]) (ks ++ [(k, d)])
  | _, _, .nil => .cons r .nil
  | _, _, .cons h1 h2 => .cons h1 (RpTV.app r h2)
theorem RpTV.put {kvs : List (List Key × V)} {ks : List (List Key × D)} (h : RpTV K C F kvs ks) (k : List Key) {v : V} {d : D} (r : Rp K C F v d) : RpTV K C F (putK kvs k v) (putT ks k d) := by
  unfold putK putT
  rw [h.any]
  split
  · exact RpTV.map r h
  · exact RpTV.app r h
theorem Rb.dtu {F H : Hp} {v : V} (s : Same F H) {ks : List (List Key × D)} (h : Rb K C F H v (.dtu ks)) : ∃ a kvs, v = .ref a ∧ Rd H a (.dT kvs) ∧ RpTV K C F kvs ks := by
  rcases h with h | ⟨a, rfl, vs, h, r⟩
  · cases h with | dtu h1 h2 => exact ⟨_, _, rfl, .inr ⟨_, s _ _ h1⟩, h2⟩
  · exact ⟨a, vs, rfl, .inl h, r⟩
end
section
variable {m : Bool} {X : Cx} {C : CA} {c : Cs} {e a b : Expr} {es : List Expr} {fa : AF} {f g : EF} {pos p : Pos} {x : Str}
/-! ### {} -/
def oDi0T : OF := fun env => some (.dtu [], env)
/-! ### d[(a, b)] -/
def fIxT (f : EF) (fa : AF) : EF := fun env => (f env).bind fun p => (fa p.2).bind fun q => (vals q.1).bind fun ds => (rdB q.2 p.1).bind fun dc => match dc with
  | .dtu ks => (keyDs ds).bind fun kk => gd ds.length ((lookT ks kk).bind fun r => some (.val r, q.2))
  | _ => none
/-! ### d[(a, b)] = e -/
def sSetIxT (i : Nat) (fa : AF) (fe : EF) : SF := fun env => (fe env).bind fun p => match p.1 with
  | .val d => (gt p.2 i).bind fun _ => (fa p.2).bind fun q => (vals q.1).bind fun ds => (gt q.2 i).bind fun dc => match dc with
    | .dtu ks => (keyDs ds).bind fun kk => gd ds.length (gd (ks.length + 1) (some (.nx (st q.2 i (some (.dtu (putT ks kk d)))))))
    | _ => none
  | .slot _ => none
/-! ### for a, b in d -/
def sForT (fe : EF) (n : Nat) (gs : GFs) (fb : SF) : SF := fun env => (fe env).bind fun p => match p.1 with
  | .val (.dtu ks) => gd ks.length (forD (gT n gs) fb (ks.map fun q => D.tup (q.1.map keyVD)) p.2)
  | _ => none
/-! ### for x in d.values() -/
def iVsT (f : EF) : IF := fun env => (f env).bind fun p => match p.1 with
  | .val (.dtu ks) => gd ks.length (some (ks.map (·.2), p.2))
  | _ => none
end
/-! ### the reader's steps -/
section
variable {f fe : EF} {fa : AF} {env e1 e2 e3 : Env} {b : B} {bs : List B} {ds : List D} {ks : List (List Key × D)} {kk : List Key} {d dc : D} {i : Nat}
theorem gd_of {α : Type} {n : Nat} {x : Option α} {y : α} (h : n ≤ 16777216) (e : x = some y) : gd n x = some y := by
  subst e
  exact if_pos h
def KDS (ds : List D) (ks : List Key) : Prop := keyDs ds = some ks
end
end DL

/-! ### dict([((a, b), v) for ..]), d.update(dict(..)): dicts whose keys are tuples -/
namespace L2
open PySem PySem.Spec PyProof.Rows
def mergeKT (acc more : List (List Key × V)) : List (List Key × V) := more.foldl (fun a p => putK a p.1 p.2) acc
section
variable {X : Cx} {pins : List (Addr × Obj)} {σ : St} {H : Hp} {s : Shared}
/-- a pair whose first thing is a tuple -/
def PairK (H : Hp) (p : Addr) (kv : List Key × V) : Prop := ∃ b, H p = some (.tup [.ref b, kv.2]) ∧ H b = some (.tup (kv.1.map kV))
end
end L2
namespace L2
open PySem PySem.Spec PyProof.Rows
/-- the hash of a tuple of numbers -/
def hashT (is : List Int) : Int := reduceHash (PySem.Builtin.Tuple.tupleHashOf (is.map hashInt))
def intsK : List Key → Option (List Int)
  | [] => some []
  | .inl i :: ks => (intsK ks).map fun is => i :: is
  | .inr _ :: _ => none
def intsKs : List (List Key) → Option (List (List Int))
  | [] => some []
  | k :: ks => (intsK k).bind fun i => (intsKs ks).map fun is => i :: is
/-- tuples of numbers of unlike hashes -/
def apartB (ks : List (List Key)) : Bool := match intsKs ks with
  | some iss => decide (iss.map hashT).Nodup
  | none => false
theorem KT.tup {H : Hp} {P : Program} {w : World} {h : Heap} (ok : HOk P w H h) : ∀ {kvs : List (List Key × V)} {xs : List (List Key × Addr × Value)}, KT H kvs xs → ∀ x ∈ xs, H x.2.1 = some (.tup (x.1.map kV))
  | _, _, .nil, x, hx => nomatch hx
  | _, _, .cons r t, x, hx => by
    rcases List.mem_cons.mp hx with e | hx
    · subst e
      rw [← r.1]
      exact r.2.1
    · exact KT.tup ok t x hx
/-- d.update(e) -/
def rUpdT : V → List V → Hp → VK → Prop := fun x xs H Q => ∃ (a o : Addr) (kvs more : List (List Key × V)), x = .ref a ∧ xs = [.ref o] ∧ a ≠ o ∧ H a = some (.dT kvs) ∧ Rd H o (.dT more) ∧ kvs.length + more.length ≤ sizeLine ∧
  (kvs ≠ [] ∨ apartB (more.map (·.1)) = true) ∧ Q .non (upd H a (.dT (mergeKT kvs more)))
end L2
namespace DL
open PySem L2
/-- a fresh pair of a tuple of keys and a thing -/
def FrP (K : PySem.W.Frag) (C : CA) (F : Hp) (v : V) (kv : List Key × D) : Prop := ∃ p b u, v = .ref p ∧ F p = some (.tup [.ref b, u]) ∧ F b = some (.tup (kv.1.map kV)) ∧ Rp K C F u kv.2
theorem FrP.mono {K : PySem.W.Frag} {C : CA} {F F' : Hp} {v : V} {kv : List Key × D} (h : FrP K C F v kv) (s : Same F F') : FrP K C F' v kv := by
  obtain ⟨p, b, u, e, h1, h2, h3⟩ := h
  exact ⟨p, b, u, e, s _ _ h1, s _ _ h2, h3.mono s⟩
def pairTD : D → Option (List Key × D)
  | .tup [.tup ks, d] => (keyDs ks).bind fun k => some (k, d)
  | _ => none
def pairsTD : List D → Option (List (List Key × D))
  | [] => some []
  | d :: ds => (pairTD d).bind fun p => (pairsTD ds).bind fun r => some (p :: r)
def mergeTD (acc more : List (List Key × D)) : List (List Key × D) := more.foldl (fun a p => putT a p.1 p.2) acc
/-- an element (keys, thing) -/
def fPk (fa : AF) (fe : EF) : EF := fun env => (fa env).bind fun p => (vals p.1).bind fun ks => (keyDs ks).bind fun _ => gd ks.length ((fe p.2).bind fun q => match q.1 with
  | .val d => some (.val (.tup [.tup ks, d]), q.2)
  | .slot _ => none)
def tEP (K : PySem.W.Frag) (C : CA) (c : Cs) (f : EF) : TE := fun σ H Q => ∃ z F env d kv env', SR K C c z F env σ H ∧ f env = some (.val d, env') ∧ pairTD d = some kv ∧
  ∀ v F' H', Same F F' → SR K C c z F' env' σ H' → Rp K C F' v d → FrP K C F' v kv → Q v H'
section
variable {X : Cx} {C : CA} {c : Cs} {e : Expr} {es : List Expr} {fa : AF} {f : EF} {pos pos2 : Pos}
end
end DL

/-! ### several clauses `except C as n`, all with one name -/
namespace DLX
open PySem PySem.Spec PyProof.Rows L2
abbrev Clause := Value × (Addr → Value → Option Addr → TS)
/-- the ends of a clause: its name goes -/
def goneEnds (i : Nat) (D : Ends) : Ends := { nx := fun σ H => D.nx (σ.set i none) H, rt := D.rt, bk := fun σ H => D.bk (σ.set i none) H, ct := fun σ H => D.ct (σ.set i none) H }
def wClauses (K : PySem.W.Frag) (i : Nat) (Wout : WX) (D : Ends) : List Clause → WX
  | [] => Wout
  | q :: qs => fun cls d σ H => ∃ b, PySem.W.exmOne K cls q.1 = some b ∧ (b = true → ∀ a, H a = none → q.2 a cls d (goneEnds i D) (σ.set i (some (.ref a))) H) ∧ (b = false → wClauses K i Wout D qs cls d σ H)
inductive Clauses (X : Cx) (n : Str) : List ExceptHandler → List Clause → Prop
  | nil : Clauses X n [] []
  | cons {x : Str} {q : Clause} {st : Stmt} {sts : List Stmt} {p1 p2 : Pos} {hs : List ExceptHandler} {qs : List Clause} : Names X x q.1 →
      (∀ (a : Addr) (oe : Obj) (cls : Value) (d : Option Addr) (pn : List (Addr × Obj)), L2N.Zn cls d oe → (∃ vs, oe.data = .fields vs) → PSs (X.suite a ((a, oe) :: pn)) (st :: sts) (q.2 a cls d)) →
      Clauses X n hs qs → Clauses X n (.ExceptHandler (some (.Name x p1)) (some n) (st :: sts) p2 :: hs) (q :: qs)
/-- an exception that has come to the clauses of X -/
structure Came (X : Cx) (pins : List (Addr × Obj)) (σ : L2.St) (H : Hp) (a : Addr) (cls : Value) (d : Option Addr) (B : Heap) (s0 s1 : Shared) : Prop where
  inv : Inv X pins σ H s0
  old : ∀ b o, s0.heap.get? b = some o → b ∉ frs X.stack → B.get? b = some o
  up : s0.heap.UpToSlots s1.heap
  fly : HandSPX.FlyingZ B (X.env :: X.outer) a (L2N.Zn cls d) s1.heap
  new : H a = none
  os : s1.os = s0.os
  bare : AllBare s1.gens
section
variable {X : Cx} {pins : List (Addr × Obj)} {σ : L2.St} {H : Hp} {a : Addr} {cls : Value} {d : Option Addr} {B : Heap} {s0 s1 : Shared} {n : Str} {i : Nat} {D : Ends} {Wout : WX}
/-- the heap may have other slots -/
theorem Came.heap (c : Came X pins σ H a cls d B s0 s1) {h : Heap} (fl : HandSPX.FlyingZ B (X.env :: X.outer) a (L2N.Zn cls d) h) (up : s1.heap.UpToSlots h) : Came X pins σ H a cls d B s0 { s1 with heap := h } :=
  ⟨c.inv, c.old, c.up.trans up, fl, c.new, c.os, c.bare⟩
theorem Came.here (c : Came X pins σ H a cls d B s0 s1) : Inv X pins σ H s1 := c.inv.landed c.old c.fly.1 c.up c.os c.bare
theorem Came.apart (hf : X.env.frame = some X.env.locals) (c : Came X pins σ H a cls d B s0 s1) : a ∉ frs (X.env :: X.outer) := fun m => by
  obtain ⟨o, vs, e, _, ed⟩ := c.fly.there
  obtain ⟨_, o2, e2, nf⟩ := c.fly.2.2.1.mem m
  cases e.symm.trans e2
  exact nf _ ed
/-- within a clause -/
theorem Came.within (hf : X.env.frame = some X.env.locals) (c : Came X pins σ H a cls d B s0 s1) : ∃ oe, (∃ vs, oe.data = .fields vs) ∧ L2N.Zn cls d oe ∧ s1.heap.get? a = some oe ∧ Inv (X.suite a ((a, oe) :: (X.pn ++ pins))) [] σ H s1 := by
  obtain ⟨oe, vs, e, z, ed⟩ := c.fly.there
  have far := c.apart hf
  have nl : a ≠ X.env.locals := fun q => far (List.mem_filterMap.mpr ⟨X.env, List.mem_cons_self, by rw [hf, q]⟩)
  have nf : a ∉ X.fs := fun m => by
    obtain ⟨v, hv, q⟩ := List.mem_filterMap.mp m
    exact far (List.mem_filterMap.mpr ⟨v, List.mem_cons_of_mem _ hv, q⟩)
  exact ⟨oe, ⟨vs, ed⟩, z, e, c.here.suite e ed c.new nl nf⟩
/-- no clause matches: it goes on -/
theorem Came.on (hs : X.stack = X.env :: X.outer) (hf : X.env.frame = some X.env.locals) (tk : L2N.Takes X Wout) (c : Came X pins σ H a cls d B s0 s1) (w : Wout cls d σ H) :
    wpAny (model X.prog X.w) X.A (handleBy (.ref a) X.env []) (SP X pins D) X.xe s1 := by
  refine wpAny_handleBy_nil ?_
  obtain ⟨_, _, _, oe, vs, T, oT, ts', he, hz, hd, h1, hr⟩ := id c.fly
  have out : wpAny (model X.prog X.w) X.A (setFlight (.ref a) X.env.frame) (fun _ s2 => wpAny (model X.prog X.w) X.A (throw (.ref a) : Sem Flow) (SP X pins D) X.xe s2) X.xe s1 := by
    rw [hf]
    refine HandSPX.setFlight_upZ c.fly fun h held up => wpAny_throw (tk _ _ ?_)
    exact ⟨a, B, s0, pins, σ, H, cls, d, rfl, c.inv, c.old, c.up.trans up, .inr (.inr (by rw [hs]; exact held)), c.new, c.os, c.bare, w⟩
  unfold PySem.passOn
  refine wpAny_bind (wpAny_field he hd h1 ?_)
  rw [if_neg (show ¬ ((Value.ref T == Value.none) = true) from by simp)]
  first
    | exact wpAny_bind (wpAny_pure (wpAny_bind out))
    | exact wpAny_bind out
/-- behind a clause's suite: the name goes, the state is the caller's again -/
theorem leave (ok : X.Ok) (hN : X.N.Nodup) (hi : X.N[i]? = some n) (hl : X.env.kindOf n = some .local) {q : Addr × Obj} {σ2 : L2.St} {H2 : Hp} {s2 : Shared} {p : Pos} {Q : Shared → Prop} (I : Inv (X.suite a (q :: (X.pn ++ pins))) [] σ2 H2 s2)
    (k : ∀ s3, Inv X pins (σ2.set i none) H2 s3 → Q s3) : wpAny (model X.prog X.w) X.A (do bindName X.env n .none; unbindBehindTheSuite X.env n p) (fun _ s3 => Q s3) X.xe s2 :=
  gone_ok (I.unsuite ok) hN hi hl k
end
section
variable {X : Cx} {n : Str} {i : Nat} {Wout : WX} {body : List Stmt} {pos : Pos} {tb : WX → TS} {h0 : ExceptHandler} {hds : List ExceptHandler} {qs : List Clause}
end
end DLX
namespace DL
open PySem PySem.Spec PyProof.Rows L2 DLX
/-- the first clause that takes class k: yes, no, what is set -/
abbrev ClD := List Nat × List Nat × (Nat → D → Option D)
def pickC : List ClD → Nat → D → Option D
  | [], _, _ => none
  | (yes, no, h) :: l, k, p => if k ∈ yes then h k p else if k ∈ no then pickC l k p else none
def sTrys (f : SF) (gx : XF) (l : List ClD) (i j : Nat) : SF := fun env => match f env with
  | some fl => some fl
  | none => (gx env).bind fun r => (pickC l r.1.1 r.1.2).bind fun d => some (.nx (st (st r.2 i none) j (some d)))
/-- what a clause `n = e` wishes -/
def setC (K : PySem.W.Frag) (C : CA) (i j : Nat) (h : Nat → D → Option D) : Addr → Value → Option Addr → TS := fun a cls d D σ H => tXs K C i a cls d h σ H fun v H1 => D.nx (σ.set j (some v)) H1
inductive ClsD (X : Cx) (C : CA) (i j : Nat) (n y : Str) : List ExceptHandler → List ClD → List Clause → Prop
  | nil : ClsD X C i j n y [] [] []
  | cons {x : Str} {kc : Nat} {yes no : List Nat} {h : Nat → D → Option D} {e : Expr} {np pos' spos py : Pos} {hds : List ExceptHandler} {l : List ClD} {qs : List Clause} (hmc : X.mg x = some (.ref (C kc)))
      (hy : ∀ k ∈ yes, PySem.W.exmOne X.K (.ref (C k)) (.ref (C kc)) = some true) (hno : ∀ k ∈ no, PySem.W.exmOne X.K (.ref (C k)) (.ref (C kc)) = some false)
      (hsu : ∀ (a : Addr) (oe : Obj) (cls : Value) (d : Option Addr) (pn : List (Addr × Obj)), Zc cls d oe → (∃ vs, oe.data = .fields vs) → PE (suiteY X a oe pn) e (tXs X.K C i a cls d h))
      (t : ClsD X C i j n y hds l qs) (hg : Gl X x := by rfl) (hdb : (x == ("__debug__" : Str)) = false := by decide) (hs : swapsWith e (some (.Name y py)) spos.line X.env = pure false := by rfl) :
      ClsD X C i j n y (.ExceptHandler (some (.Name x np)) (some n) [.Assign [.Name y py] e spos] pos' :: hds) ((yes, no, h) :: l) ((.ref (C kc), setC X.K C i j h) :: qs)
section
variable {m : Bool} {X : Cx} {C : CA} {c : Cs} {n y : Str} {i j : Nat} {body : List Stmt} {pos : Pos} {h0 : ExceptHandler} {hds : List ExceptHandler} {l : List ClD} {qs : List Clause}
theorem ClsD.clauses {hds : List ExceptHandler} (t : ClsD X C i j n y hds l qs) (hN : X.N.Nodup) (hnj : X.N[j]? = some y) (hxj : Loc X.env.scope y) (hfn : X.fn y = true ∨ X.env.scope.names.lookup y = some .local) : Clauses X n hds qs := by
  induction t with
  | nil => exact .nil
  | cons hmc hy hno hsu t hg hdb hs ih =>
    exact .cons ⟨hg, hdb, .inl hmc⟩ (fun a oe cls d pn hz hf => pss_one (ps_set (X := suiteY X a oe pn) hN hnj hxj (hsu a oe cls d pn hz.zc hf) hs hfn)) ih
end
end DL

/-! ### g(lambda: e) within a law: g calls it within try .. except -/
namespace DLX
open PySem PySem.Spec PyProof.Rows L2
open LamX (CodeO TabB LamS lamEnv lamCx inv_table lam_start2)
section
variable {X : Cx} {pins : List (Addr × Obj)} {σ : L2.St} {H : Hp} {s : Shared}
end
/-- the context of the lambda's body: errors that leave it have no context -/
abbrev lamN (X : Cx) (A : Around) (outer : List PySem.Env) (s : Shared) (H : Hp) (E : XK) (scope : Scope) (f d : Addr) : Cx :=
  (lamCx X A outer s H E scope f d).tr [] fun e s' => wpAny (model X.prog X.w) (A.deeper (lamEnv X scope s.heap.objs.size f d)) (leaving (lamEnv X scope s.heap.objs.size f d) e) (fun _ s'' => L2N.CX X.prog X.w outer H s E e s'') (fun e' s'' => L2N.CX X.prog X.w outer H s E e' s'') s'
section
variable {X : Cx} {pins : List (Addr × Obj)} {σ : L2.St} {H HZ : Hp} {s s1 : Shared}
end
end DLX
namespace DL
open PySem PySem.Spec PyProof.Rows L2 DLX
open LamX (CodeO TabB LamS lamEnv)
/-- what a lambda's body sees of the law's names: its own objects are hidden -/
def hidF (O : List Nat) : Nat → Nat → Env → Env
  | 0, _, _ => []
  | n + 1, i, e => (if O.contains i = true then none else e.headD none) :: hidF O n (i + 1) e.tail
section
variable {K : PySem.W.Frag} {C : CA} {c : Cs} {z : Zn} {F F' : Hp} {env : Env} {σ : L2.St} {H H' : Hp}
end
/-- what is raised or not by e, as g tells it -/
def fLam (n : Nat) (O : List Nat) (fb : EF) (xb : XF) (l : List ClD) : EF := fun env => match gt env n with
  | some (.cel 0) => match fb (hidF O n 0 env) with
    | some _ => some (.val .non, env)
    | none => (xb (hidF O n 0 env)).bind fun r => (pickC l r.1.1 r.1.2).bind fun d => some (.val d, env)
  | _ => none
section
variable {X : Cx} {C : CA} {c : Cs}
/-- g's clauses, whatever called it -/
abbrev gCx (X : Cx) (Ng : List Str) (x : Str) (sg : Scope) (g : Addr) (cdg : Value) (s : Shared) (H : Hp) : Cx := (cxOf CX0 X.prog X.w X.K X.mg X.base Ng x sg g cdg X.A X.stack s H E0).nox
end
end DL

/-! ### dict([((a, b), v) for ..]) -/
namespace DL
open PySem L2
abbrev c0 (n : Nat) : Cs := ⟨n, [], [], [], []⟩
section
variable {K : PySem.W.Frag} {C : CA} {F : Hp} {env : Env} {σ : L2.St} {H H' : Hp} {n : Nat} {z : Zn}
end
def oDcP (O : List Nat) (n : Nat) (fi : IF) (gg : GF) (tt : TF) (f : EF) (own : List Nat) : OF := fun env => (fi (hidF O n 0 env)).bind fun p => (lcD gg tt f own p.1 (wipeE p.2 own) []).bind fun r => (pairsTD r.1).bind fun kvs => some (.dtu (mergeTD [] kvs), env)
/-- what the list of pairs is -/
def tLP (K : PySem.W.Frag) (C : CA) (c : Cs) (fi : IF) (gg : GF) (tt : TF) (f : EF) (own : List Nat) : TE := fun σ H Q => ∃ z F env ds e1 res e2 kvs, SR K C c z F env σ H ∧ fi (hidF c.O c.n 0 env) = some (ds, e1) ∧ lcD gg tt f own ds (wipeE e1 own) [] = some (res, e2) ∧ pairsTD res = some kvs ∧
  ∀ a vs F' H', Ext F H F' H' → H' a = some (.lst vs) → Paired (FrP K C F') vs kvs → vs.length ≤ sizeLine → Q (.ref a) H'
section
variable {X : Cx} {C : CA} {c : Cs} {pos : Pos}
theorem FrP.all {K : PySem.W.Frag} {F F' : Hp} (s : Same F F') : ∀ {vs : List V} {kvs : List (List Key × D)}, Paired (FrP K C F) vs kvs → Paired (FrP K C F') vs kvs
  | _, _, .nil => .nil
  | _, _, .cons h t => .cons (h.mono s) (FrP.all s t)
/-! ### d.update(e) -/
def updTD : D → List D → Option (D × D)
  | .dtu ks, [.dtu ms] => if (ks.isEmpty = false ∨ apartB (ms.map (·.1)) = true) ∧ ks.length + ms.length ≤ 16777216 then some (.non, .dtu (mergeTD ks ms)) else none
  | _, _ => none
def isDtu : D → Bool
  | .dtu _ => true
  | _ => false
def fMtT (i : Nat) (op : D → List D → Option (D × D)) (fa : AF) : EF := fun env => (gt env i).bind fun d0 => if isDtu d0 = true then (fa env).bind fun p => (vals p.1).bind fun ds => (gt p.2 i).bind fun dc => (op dc ds).bind fun r => some (.val r.1, st p.2 i (some r.2)) else none
/-! reader lemmas -/
end
end DL

namespace DL
open PySem L2
/-! ### tuple(e) as the key of a pair -/
def fTk (fa : AF) : EF := fun env => (fa env).bind fun p => (rdAll p.2 p.1).bind fun ds => match ds with
  | [.lst xs] => (keyDs xs).bind fun _ => some (.val (.tup xs), p.2)
  | _ => none
def tKy (K : PySem.W.Frag) (C : CA) (c : Cs) (f : EF) : TE := fun σ H Q => ∃ z F env ds ks env', SR K C c z F env σ H ∧ f env = some (.val (.tup ds), env') ∧ keyDs ds = some ks ∧
  ∀ b F' H', Same F F' → SR K C c z F' env' σ H' → F' b = some (.tup (ks.map kV)) → Q (.ref b) H'
section
variable {X : Cx} {C : CA} {c : Cs} {e ec : Expr} {es : List Expr} {fa : AF} {f fk : EF} {pos pos2 p : Pos} {x : Str}
def fPkT (fk fe : EF) : EF := fun env => (fk env).bind fun p => match p.1 with
  | .val (.tup ks) => (keyDs ks).bind fun _ => gd ks.length ((fe p.2).bind fun q => match q.1 with
    | .val d => some (.val (.tup [.tup ks, d]), q.2)
    | .slot _ => none)
  | _ => none
/-! ### d[tuple(e)] = e -/
def sSetIxK (i : Nat) (fk fe : EF) : SF := fun env => (fe env).bind fun p => match p.1 with
  | .val d => (gt p.2 i).bind fun _ => (fk p.2).bind fun q => match q.1 with
    | .val (.tup ds) => (gt q.2 i).bind fun dc => match dc with
      | .dtu ks => (keyDs ds).bind fun kk => gd (ks.length + 1) (some (.nx (st q.2 i (some (.dtu (putT ks kk d))))))
      | _ => none
    | _ => none
  | .slot _ => none
end
end DL

namespace DL
open PySem L2
/-! ### repr(tuple(sorted(list(d)))), d with tuples for keys -/
def keysTD (ks : List (List Key × D)) : D := .lst (ks.map fun q => .tup (q.1.map keyVD))
def fRsl (f : EF) : EF := fun env => (f env).bind fun p => match p.1 with
  | .val (.dtu ks) => gd ks.length (if (ks.all fun q => decide (q.1.length ≤ 16777216)) = true then (sortedD [keysTD ks]).bind fun l => (tupleX [l]).bind fun t => (reprD [t]).bind fun s => match s with
    | .str y => some (.val (.str y), p.2)
    | _ => none
    else none)
  | _ => none
section
variable {X : Cx} {C : CA} {c : Cs} {e : Expr} {f : EF} {p1 p2 p3 p4 q1 q2 q3 q4 : Pos}
end
end DL

namespace DL
open PySem L2
/-! ### the reader's lemmas for keys made by tuple(e) -/
section
variable {fa : AF} {f fk fe : EF} {env e1 e2 e3 : Env} {bs : List B} {xs ks ds : List D} {kk : List Key} {d d0 l t : D} {i : Nat} {kvs : List (List Key × D)} {y : Str}
end
end DL

namespace DL
open PySem L2
/-! ### f(k = v, ..): every argument by its name -/
def permL {α : Type} (pm : List Nat) (l : List α) : List α := pm.filterMap fun i => l[i]?
theorem permL_vals {xs : List V} {us : List Value} (r : Vals xs us) : ∀ pm : List Nat, Vals (permL pm xs) (permL pm us)
  | [] => .nil
  | i :: pm => by
    unfold permL
    rw [List.filterMap_cons, List.filterMap_cons]
    cases e : xs[i]? with
    | none =>
      rw [r.none_of e]
      exact permL_vals r pm
    | some x =>
      obtain ⟨u, e2, q⟩ := r.get e
      rw [e2]
      exact .cons q (permL_vals r pm)
theorem permL_rp {K : PySem.W.Frag} {C : CA} {F : Hp} {xs : List V} {ds : List D} (r : RpAll K C F xs ds) : ∀ pm : List Nat, RpAll K C F (permL pm xs) (permL pm ds)
  | [] => .nil
  | i :: pm => by
    unfold permL
    rw [List.filterMap_cons, List.filterMap_cons]
    cases e : xs[i]? with
    | none =>
      have e2 : ds[i]? = none := by
        rw [List.getElem?_eq_none_iff] at e ⊢
        rw [← r.length]; exact e
      rw [e2]
      exact permL_rp r pm
    | some x =>
      obtain ⟨u, e2, q⟩ := r.get e
      rw [e2]
      exact .cons q (permL_rp r pm)
section
variable {K : PySem.W.Frag} {x qual : Str} {params : Arguments} {body : List Stmt} {scope : Scope} {dvs : List V} {kws : List (Str × V)} {f : Addr} {fd : FuncData} {ps : List Str}
/-- without defaults: n values by place, the others by name -/
theorem FunD.kbindsP (F : FunD K x qual params body scope [] kws f fd) (n : Nat) (ks : List Str) (pm : List Nat)
    (h : ∀ (kV doc pp : Value) (an : Option Addr) (cdv ct : Value) (us ws : List Value), us.length = n → ws.length = ks.length → bindArgs (PySem.W.fnOf x qual params body scope .none kV doc pp an cdv ct) ⟨us, ks.zip ws⟩ = pure (ps.zip (us ++ permL pm ws))) :
    KBn K fd ps n ks (fun us ws => us ++ permL pm ws) (fun vs zs => vs ++ permL pm zs) := by
  obtain ⟨oc, od, dV, kV, doc, pp, an, cdv, ct, osl, rfl, lk, hcd, hD, hK⟩ := F.ex
  rcases hD with ⟨_, rfl⟩ | ⟨e, _⟩
  · exact ⟨fun s us ws X l1 l2 => BindsTo.of_eq (h kV doc pp an cdv ct us ws l1 l2), fun r1 r2 => r1.append (permL_vals r2 pm)⟩
  · exact absurd rfl e
end
section
variable {X : Cx} {CX : CXT} {k : Nat} {f : Addr} {fd : FuncData} {ps ks : List Str} {sp : Sp} {E : XK} {x : Str} {p pos : Pos} {kws : List Keyword} {t tk tk' : TA} {g : List Value → List Value → List Value} {gV : List V → List V → List V}
theorem PK.imp (h : PK X kws tk) (i : ∀ σ H Q, tk' σ H Q → tk σ H Q) : PK X kws tk' := ⟨fun pos pins s σ H Q I q => h.run pos pins s σ H Q I (i σ H Q q)⟩
/-- f(k = v, ..) -/
theorem pe_callN0 (F : FnOk X.prog X.w X.K X.mg X.base CX k f fd ps sp) (hr : Room k X.A) (hg : Gl X x) (hm : X.mg x = some (.ref f)) (hk : PySem.W.keepIn X.K (.ref f) = true) (hb : KBn X.K fd ps 0 ks g gV) (hx : Passes CX X E)
    (hkw : PK X kws tk) (hall : (backToKw pos (keywordEach kws X.env)).all (·.1.isSome) = true := by rfl) (hks : (backToKw pos (keywordEach kws X.env)).filterMap (·.1) = ks := by rfl)
    (hdb : (x == ("__debug__" : Str)) = false := by decide)
    (hpl : ((backTo pos (starEach [] X.env)).any (·.1) || (backToKw pos (keywordEach kws X.env)).any (·.1.isNone)) = false := by rfl) :
    PE X (.Call (.Name x p) [] kws pos) (fun σ H Q => tk σ H fun zs H2 => zs.length = ks.length ∧ sp (gV [] zs) H2 Q E) := by
  refine ⟨fun pins s σ H Q I h => ?_⟩
  refine wpAny_Call_Name_kw (ld_glob I hg hm ?_ hdb)
  refine PySem.W.callWith_KW0 (h₀ := X.base) I.ok.mod.kin hk hall ?_ hpl
  refine thn (hkw.run pos pins s σ H _ I h) fun ws s2 ⟨zs, H2, I2, rz, l2, q2⟩ => ⟨I2.kIn, ?_⟩
  rw [hks]
  exact run_fnN F hr hb hx I2 .nil rz rfl l2 q2
end
section
variable {X : Cx} {C : CA} {c : Cs} {e : Expr} {kws : List Keyword} {fa : AF} {f : EF} {pos p kpos : Pos} {x : Str} {nm : Option Str} {k np : Nat} {fad : Addr} {fd : FuncData} {ps ks : List Str} {ff : FF} {pm : List Nat}
def DK (X : Cx) (C : CA) (c : Cs) (kws : List Keyword) (fa : AF) : Prop := PK X kws (tAr X.K C c fa)
theorem dk_nil : DK X C c [] aN := PK.imp pk_nil fun σ H Q ⟨z, F, env, b, env', S, e, k⟩ => by
  cases e
  exact k [] F H (Same.refl _) S .nil
theorem dk_cons (h : DE X C c e f) (hr : DK X C c kws fa) : DK X C c (⟨nm, e, kpos⟩ :: kws) (aC f fa) := by
  refine PK.imp (pk_cons h hr) fun σ H Q ⟨z, F, env, b, env', S, e, k⟩ => ?_
  obtain ⟨⟨b1, e1⟩, h1, e⟩ := Option.bind_eq_some_iff.mp e
  obtain ⟨⟨b2, e2⟩, h2, e⟩ := Option.bind_eq_some_iff.mp e
  cases e
  exact ⟨z, F, env, b1, e1, S, h1, fun v F1 H1 s1 S1 r1 => ⟨z, F1, e1, b2, e2, S1, h2, fun vs F2 H2 s2 S2 r2 => k _ F2 H2 (s1.trans s2) S2 (.cons (r1.mono s2) r2)⟩⟩
def fKw (pm : List Nat) (nk np : Nat) (ff : FF) (fa : AF) : EF := fun env => (fa env).bind fun q => (vals q.1).bind fun ds => if ds.length = nk ∧ (permL pm ds).length = np then (ff (permL pm ds)).bind fun r => some (.val r.1, q.2) else none
theorem de_kw (Fk : FnOk X.prog X.w X.K X.mg X.base CX0 k fad fd ps (spF X.K C [] false np ff)) (hr : Room k X.A) (hm : X.mg x = some (.ref fad)) (hk : PySem.W.keepIn X.K (.ref fad) = true) (hb : KBn X.K fd ps 0 ks (fun us ws => us ++ permL pm ws) (fun vs zs => vs ++ permL pm zs)) (ha : DK X C c kws fa)
    (hg : Gl X x := by rfl) (hall : (backToKw pos (keywordEach kws X.env)).all (·.1.isSome) = true := by rfl) (hks : (backToKw pos (keywordEach kws X.env)).filterMap (·.1) = ks := by rfl)
    (hdb : (x == ("__debug__" : Str)) = false := by decide) (hpl : ((backTo pos (starEach [] X.env)).any (·.1) || (backToKw pos (keywordEach kws X.env)).any (·.1.isNone)) = false := by rfl) :
    DE X C c (.Call (.Name x p) [] kws pos) (fKw pm ks.length np ff fa) := by
  refine PE.imp (pe_callN0 Fk hr hg hm hk hb pass0 ha hall hks hdb hpl) fun σ H Q ⟨z, F, env, b, env', S, e, kk⟩ => ?_
  simp only [fKw, Option.bind_eq_some_iff] at e
  obtain ⟨⟨bs, e1⟩, h1, ds, h2, e⟩ := e
  split at e
  case isFalse => cases e
  next hnp =>
  obtain ⟨r, h3, e⟩ := Option.bind_eq_some_iff.mp e
  cases e
  refine ⟨z, F, env, bs, e1, S, h1, fun vs F1 H1 s1 S1 r1 => ?_⟩
  have rp := vals_rp r1 h2
  have rq := permL_rp rp pm
  refine ⟨rp.length.trans hnp.1, ?_⟩
  have := call0_read (X := X) (C := C) (m := false) (F := F1) (H := H1) (vs := permL pm vs) (ds := permL pm ds) (dv := []) (dd := []) (np := np) (ff := ff) (Q := Q) (r := r) S1.sub rq .nil (by rw [List.append_nil, rq.length]; exact hnp.2) (by rw [List.append_nil]; exact h3) fun v F' H' ex rv => kk v F' H' (s1.trans ex.sub) (S1.ext ex) rv
  rw [List.append_nil] at this
  exact this
end
/-! ### read -/
end DL

namespace DL
open PySem L2
/-! ### a, *b = a list -/
def gStr (K : PySem.W.Frag) (t : TGs) : TG := fun v σ H Q => ∃ a x xs, v = V.ref a ∧ SqL K H a (x :: xs) ∧ ∀ D, H D = none → t [x, .ref D] σ (upd H D (.lst xs)) Q
section
variable {X : Cx} {pos p2 : Pos} {e1 e2 : Expr} {t1 t2 : TG} {C : CA} {c : Cs} {g1 g2 : GF} {n1 n2 : List Nat}
open PyProof.Rows PySem.W in
theorem pgs_two (h1 : PG X e1 t1) (h2 : PG X e2 t2) (hs : (assignEach [e1, .Starred e2 p2] X.env).map (·.2) = [assign e1 X.env, assign e2 X.env] := by rfl) :
    PGs X [e1, .Starred e2 p2] (gCons t1 (gCons t2 gNil)) := by
  refine ⟨fun pins s σ H vs us Q I r ⟨v, vr, ev, h⟩ => ?_⟩
  subst ev
  rw [hs]
  cases r with
  | cons r rr =>
    refine assignInOrder_cons (thn (h1.run pins s σ H v _ _ I r h) fun _ s1 ⟨σ1, H1, I1, ⟨w, wr, ew, q⟩⟩ => ?_)
    subst ew
    cases rr with
    | cons r2 rz =>
      refine assignInOrder_cons (thn (h2.run pins s1 σ1 H1 w _ _ I1 r2 q) fun _ s2 ⟨σ2, H2, I2, ⟨ez, q2⟩⟩ => ?_)
      subst ez
      cases rz
      exact assignInOrder_nil ⟨σ2, H2, I2, q2⟩
open PyProof.Rows PySem.W in
theorem pg_star {k : Nat} {t : TGs} (hc : X.calm = true) (h : PGs X [e1, .Starred e2 p2] t)
    (hn : (assignEach [e1, .Starred e2 p2] X.env).length = 2 := by rfl) (hst : (assignEach [e1, .Starred e2 p2] X.env).findIdx? (·.1) = some 1 := by rfl) : PG X (.Tuple [e1, .Starred e2 p2] k pos) (gStr X.K t) := by
  refine ⟨fun pins s σ H v u Q I r ⟨a, x, xs, ea, hq, hw⟩ => ?_⟩
  subst ea
  cases r
  obtain ⟨its, rv, pl, hz⟩ := I.list hq
  cases rv with
  | @cons _ u0 _ us r0 rr =>
  have hl : s.heap.IsList a (u0 :: us).toArray := pl.isList
  have hh : X.A.handled = none := I.ok.hd hc
  have hlt : a ≠ s.heap.objs.size := by obtain ⟨o, ho, _⟩ := hl; exact Nat.ne_of_lt (Heap.lt_size ho)
  have hx : xs.length ≤ sizeLine := by simp at hz; omega
  have hsz : us.length + 1 ≤ sizeLine := by rw [← rr.length]; simpa using hz
  rw [assign_Tuple]
  refine wpAny_bind (wpAny_standAt ?_)
  unfold unpack
  rw [hn, hst]
  refine wpAny_bind (wpAny_holding ?_)
  unfold unpackItems
  refine wpAny_bind ?_
  unfold notIterableAtAll
  refine wpAny_bind (wpAny_specialOf hl.typeIs slot_list_iter.lookup (wpAny_pure ?_))
  simp only [Bool.false_eq_true, if_false]
  refine wpAny_bind (wpAny_holding (wpAny_pyIter_list hl (wpAny_bind (wpAny_holding (kun_draw hlt 1 0 _ _ ⟨_, Heap.get?_push_size _ rfl, rfl, rfl⟩ (hl.push _) (by simp) fun h1 i1 s1 => ?_)))))
  have l1 : h1.IsList a (u0 :: us).toArray := (hl.push _).extBut s1.extBut hlt
  obtain ⟨oi, hoi, _⟩ := id i1
  obtain ⟨ol, hol, _⟩ := id l1
  show wpAny _ _ (if (List.take 1 (u0 :: us)).length < 1 then _ else _) _ _ _
  rw [if_neg (by simp)]
  refine wpAny_bind (wpAny_holding (kun_collect (s := { s with heap := h1 }) (T := "list_iterator") (.inr (.inr (.inl rfl))) (Walks.list (A := X.A.in1) hh s.heap.objs.size a hlt (u0 :: us).toArray) (fun j u st => st.1.typeIs) (k := 1) (by simp) ⟨i1, l1⟩ (Heap.lt_size hoi) (Heap.lt_size hol) (fun h2 tk keep => ?_) (by simpa using hsz)))
  show wpAny _ _ (if us.length < 0 then _ else _) _ _ _
  rw [if_neg (Nat.not_lt_zero _)]
  show wpAny _ _ (newList (List.take us.length us) >>= fun d => pure ([u0] ++ [d] ++ List.drop us.length us)) _ _ _
  rw [List.take_length, List.drop_length]
  have kp : ∀ b o, s.heap.get? b = some o → h2.get? b = some o := fun b o e => keep b o (Nat.ne_of_lt (Heap.lt_size e)) (s1.extBut b o (Nat.ne_of_lt (Heap.lt_size e)) (Heap.get?_push_of_some _ e))
  have I2 : Inv X pins σ H { s with heap := h2, toks := tk } := I.kept kp
  have hf : H h2.objs.size = none := I2.hok.fresh (Nat.le_refl _)
  refine wpAny_bind (wpAny_newList (wpAny_pure ?_))
  have I3 : Inv X pins σ (upd H h2.objs.size (.lst xs)) { s with heap := h2.push { cls := .type "list", data := .seq us.toArray }, toks := tk } := I2.laid (fun b u e => Heap.get?_push_of_some _ e) (Nat.le_refl _) ⟨hx, us, 0, rr, Heap.get?_push_size _ rfl⟩
  exact h.run pins _ σ _ [x, .ref h2.objs.size] [u0, .ref h2.objs.size] Q I3 (.cons r0 (.cons rfl .nil)) (hw _ hf)
def gSt (g1 g2 : GF) : GF := fun d env => match d with
  | .lst (x :: xs) => (g1 x env).bind fun e1 => g2 (.lst xs) e1
  | _ => none
theorem dg_star {k : Nat} (h1 : DG X C c e1 n1 g1) (h2 : DG X C c e2 n2 g2) (hc : X.calm = true := by rfl) (hs : (assignEach [e1, .Starred e2 p2] X.env).map (·.2) = [assign e1 X.env, assign e2 X.env] := by rfl)
    (hn : (assignEach [e1, .Starred e2 p2] X.env).length = 2 := by rfl) (hst : (assignEach [e1, .Starred e2 p2] X.env).findIdx? (·.1) = some 1 := by rfl) : DG X C c (.Tuple [e1, .Starred e2 p2] k pos) (n1 ++ n2) (gSt g1 g2) := by
  refine PG.imp (pg_star hc (pgs_two h1 h2 hs) hn hst) fun v σ H Q ⟨z, F, env, d, env', S, r, e, kk⟩ => ?_
  cases d <;> simp only [gSt] at e <;> try (cases e; done)
  rename_i ds
  cases ds with
  | nil => cases e
  | cons x xs =>
    obtain ⟨e1', q1, e⟩ := Option.bind_eq_some_iff.mp e
    cases r with
    | @lst a vs _ f1 hl f2 =>
      cases f2 with
      | @cons v0 vs0 _ _ r0 rr =>
        refine ⟨a, v0, vs0, rfl, SqL.of (S.sub _ _ f1), fun D hD => ?_⟩
        have ex : Ext F H (upd F D (.lst vs0)) (upd H D (.lst vs0)) := Ext.laid S.sub hD
        refine ⟨v0, [V.ref D], rfl, z, _, env, x, e1', S.ext ex, r0.mono ex.sub, q1, fun F1 σ1 H1 s1 S1 w1 => ?_⟩
        have rl : Rp X.K C F1 (.ref D) (.lst xs) := .lst (s1 _ _ upd_same) (by simp at hl; omega) (rr.mono (ex.sub.trans s1))
        exact ⟨.ref D, [], rfl, z, F1, e1', .lst xs, env', S1, rl, e, fun F2 σ2 H2 s2 S2 w2 => ⟨rfl, kk F2 σ2 H2 (ex.sub.trans (s1.trans s2)) S2 fun own ho => (w2 own fun t ht => ho t (List.mem_append_right _ ht)).trans (w1 own fun t ht => ho t (List.mem_append_left _ ht))⟩⟩
end
end DL

namespace DL
open PySem L2
/-! ### x.replace(a, b) of written texts, behind a written text -/
/-- what e does has laid a text of its own -/
def TokUp (X : Cx) (e : Expr) : Prop := ∀ (Q E : Value → Shared → Prop) (s : Shared), wpAny (model X.prog X.w) X.A (eval e X.env) Q E s → wpAny (model X.prog X.w) X.A (eval e X.env) (fun v s' => s.toks + 1 ≤ s'.toks ∧ Q v s') (fun v s' => s.toks + 1 ≤ s'.toks ∧ E v s') s
section
variable {X : Cx} {C : CA} {c : Cs} {o e : Expr} {f g : EF} {a y z m : Str} {j k i : Nat} {c0 c1 cp apos pos : Pos} {args : List Expr} {kws : List Keyword} {to : TE}
theorem tokUp_lit (hb : attributeBase (.Constant (.str a) j cp) m X.env (eval (.Constant (.str a) j cp) X.env) = eval (.Constant (.str a) j cp) X.env := by rfl) : TokUp X (.Call (.Attribute (.Constant (.str a) j cp) m apos) args kws pos) := by
  intro Q E s h Γ p hΓ
  have q := h Γ p hΓ
  rw [mcall_of hb fun _ => rfl] at q ⊢
  rw [Sem.wp_bind'] at q ⊢
  exact Sem.wp_toks (model X.prog X.w) Γ (s.toks + 1) _ _ _ _ { s with toks := s.toks + 1 } (Nat.le_refl _) q
def tRpl (to : TE) (y z : Str) : TE := fun σ H Q => to σ H fun v H1 => ∃ x, v = V.str x ∧ x.length + (x.length + 1) * z.length ≤ 16777216 ∧ Q (.str (Txt.replace x y z)) H1
theorem pe_repl (ho : PE X o to) (tu : TokUp X o) (hyz : (y == z) = false := by decide)
    (hst : starEach [.Constant (.str y) j c0, .Constant (.str z) k c1] X.env = [(false, eval (.Constant (.str y) j c0) X.env), (false, eval (.Constant (.str z) k c1) X.env)] := by rfl)
    (hb : attributeBase o "replace" X.env (eval o X.env) = eval o X.env := by rfl) (hl : (apos.endLine == pos.line) = true := by rfl) :
    PE X (.Call (.Attribute o "replace" apos) [.Constant (.str y) j c0, .Constant (.str z) k c1] [] pos) (tRpl to y z) :=
  ⟨fun pins s σ H Q I h => Call_method2 hb hst hl <| wpAny_mono (tu _ _ s (ho.run pins s σ H _ I h)) (fun v s1 q => by
    obtain ⟨up, w, H1, I1, r1, x, ew, hz, q⟩ := q
    subst ew
    obtain ⟨tx, ev⟩ := r1
    subst ev
    have n0 : s1.toks ≠ 0 := by omega
    have fin : wpAny (model X.prog X.w) X.A (call (.builtin "str.replace") [.str x tx, .str y s1.toks, .str z (s1.toks + 1)]) (EP X pins σ Q) X.xe { s1 with toks := s1.toks + 1 + 1 } :=
      SC.replace n0 (Nat.succ_ne_zero _) (Nat.ne_of_lt (Nat.lt_succ_self _)) hyz hz fun t' kk => ⟨.str (Txt.replace x y z), H1, I1.tok kk, ⟨t', rfl⟩, q⟩
    refine ⟨"str", _, F.plainAttrs_str, F.slot_str_replace, F.type_str_replace, typeIs_str _ _ _,
      (fun _ z => nomatch z), Calls.callWith_builtin rfl (Calls.evalArgs_plain (Calls.spliced_cons (Calls.Constant_str (Calls.spliced_cons (Calls.Constant_str (Calls.spliced_nil ?_))))))⟩
    exact fin) fun _ _ z => z.2⟩
def replD (y z : Str) : D → Option D
  | .str x => if x.length + (x.length + 1) * z.length ≤ 16777216 then some (.str (Txt.replace x y z)) else none
  | _ => none
def fRpl (y z : Str) (f : EF) : EF := fun env => (f env).bind fun p => (rdB p.2 p.1).bind fun x => (replD y z x).bind fun d => some (.val d, p.2)
theorem de_repl (ho : DE X C c o f) (tu : TokUp X o) (hyz : (y == z) = false := by decide)
    (hst : starEach [.Constant (.str y) j c0, .Constant (.str z) k c1] X.env = [(false, eval (.Constant (.str y) j c0) X.env), (false, eval (.Constant (.str z) k c1) X.env)] := by rfl)
    (hb : attributeBase o "replace" X.env (eval o X.env) = eval o X.env := by rfl) (hl : (apos.endLine == pos.line) = true := by rfl) :
    DE X C c (.Call (.Attribute o "replace" apos) [.Constant (.str y) j c0, .Constant (.str z) k c1] [] pos) (fRpl y z f) := by
  refine PE.imp (pe_repl ho tu hyz hst hb hl) fun σ H Q ⟨zz, F, env, b, env', S, e, kk⟩ => ?_
  simp only [fRpl, Option.bind_eq_some_iff] at e
  obtain ⟨⟨b1, e1⟩, h1, x, hx, d, hd, e⟩ := e
  cases e
  cases x <;> simp only [replD] at hd <;> try (cases hd; done)
  next t =>
  split at hd
  case isFalse => cases hd
  next hz =>
  cases hd
  refine ⟨zz, F, env, b1, e1, S, h1, fun v F1 H1 s1 S1 r1 => ?_⟩
  have ev := (r1.rb S1 hx).str
  subst ev
  exact ⟨t, rfl, hz, kk _ F1 H1 s1 S1 (.str _)⟩
end
end DL

namespace DL
open PySem L2
/-! ### C().m(k = e, ..): an object of one's own that nobody keeps -/
section
variable {X : Cx} {CX : CXT} {k n : Nat} {f A : Addr} {fd : FuncData} {ps ks : List Str} {sp : Sp} {E : XK} {m : Str} {pos apos : Pos} {o : Expr} {kws : List Keyword} {ta : TE} {tk : TA} {g : List Value → List Value → List Value} {gV : List V → List V → List V}
def tMethN (A : Addr) (m : Str) (n : Nat) (sp : Sp) (gV : List V → List V → List V) (E : XK) (ta : TE) (tk : TA) : TE := fun σ H Q => ta σ H fun x H1 => ∃ a dx fs, x = V.ref a ∧ H1 a = some (.ins A dx fs) ∧ fs.lookup m = none ∧
  tk σ H1 fun zs H2 => zs.length = n ∧ sp (gV [.ref a] zs) H2 Q E
theorem pe_methN0 {pl : Sem Bool} (he : PE X o ta) (cl : Cls X.K A) (hm : Meth X.K A m f) (F : FnOk X.prog X.w X.K X.mg X.base CX k f fd ps sp) (hr : Room k X.A) (hb : KBn X.K fd ps 1 ks g gV) (hx : Passes CX X E) (hkw : PK X kws tk)
    (hall : (backToKw pos (keywordEach kws X.env)).all (·.1.isSome) = true := by rfl) (hks : (backToKw pos (keywordEach kws X.env)).filterMap (·.1) = ks := by rfl)
    (hpl : ((backTo pos (starEach [] X.env)).any (·.1) || (backToKw pos (keywordEach kws X.env)).any (·.1.isNone)) = false := by rfl)
    (ht : eval (.Call (.Attribute o m apos) [] kws pos) X.env = (do
      let ov ← eval o X.env
      standAt apos.atName
      let (f, first) ← holding [ov] (getMethod ov m pl)
      callWith pos f first (backTo pos (starEach [] X.env)) (backToKw pos (keywordEach kws X.env))) := by rfl) :
    PE X (.Call (.Attribute o m apos) [] kws pos) (tMethN A m ks.length sp gV E ta tk) :=
  ⟨fun pins s σ H Q I h => PySem.W.methodCall_KW (pl := pl) (thn (he.run pins s σ H _ I h) fun u s1 ⟨x, H1, I1, rx, a, dx, fs, ex, ea, l, q⟩ => by
    subst ex
    obtain rfl : u = Value.ref a := rx
    exact getmeth_ok I1 ea cl hm l (PySem.W.callWith_KW0 (first := [.ref a]) (h₀ := X.base) I1.ok.mod.kin hm.kp hall (thn (hkw.run pos pins s1 σ H1 _ I1 q) fun ws s2 ⟨zs, H2, I2, rz, l2, q2⟩ => ⟨I2.kIn, by
      rw [hks]
      exact run_fnN (us := [.ref a]) (vs := [.ref a]) F hr hb hx I2 (.cons rfl .nil) rz rfl l2 q2⟩) hpl)) ht⟩
end
section
variable {X : Cx} {C : CA} {c : Cs} {kws : List Keyword} {fa : AF} {pos pos2 p apos : Pos} {x nm : Str} {k k2 np np2 : Nat} {fad fad2 : Addr} {fd fd2 : FuncData} {ps ps2 ks : List Str} {ff f2 : FF} {pm : List Nat}
/-- mk: what __init__ makes of the bare object; f2: the method, which may change it -/
def fTkw (kk : Nat) (nm : Str) (pm : List Nat) (nk np2 : Nat) (ff f2 : FF) (fa : AF) : EF := fun env => (ff [.obj kk []]).bind fun r => match r with
  | (.non, [.obj k fs]) => if k = kk ∧ fs.lookup nm = none then (fa env).bind fun q => (vals q.1).bind fun ds => if ds.length = nk ∧ (permL pm ds).length + 1 = np2 then (f2 (.obj kk fs :: permL pm ds)).bind fun r2 => some (.val r2.1, q.2) else none else none
  | _ => none
theorem de_tkw (kk : Nat) {pl : Sem Bool} (M : Mk X.K (C kk) fad) (Fk : FnOk X.prog X.w X.K X.mg X.base CX0 k fad fd ps (spF X.K C [0] false 1 ff)) (hr : Room (k + 1) X.A) (hm : X.mg x = some (.ref (C kk))) (hb : Binds X.K fd ps [])
    (cl : Cls X.K (C kk)) (hmt : Meth X.K (C kk) nm fad2) (F2 : FnOk X.prog X.w X.K X.mg X.base CX0 k2 fad2 fd2 ps2 (spF X.K C [0] false np2 f2)) (hr2 : Room k2 X.A) (hb2 : KBn X.K fd2 ps2 1 ks (fun us ws => us ++ permL pm ws) (fun vs zs => vs ++ permL pm zs)) (ha : DK X C c kws fa)
    (hg : Gl X x := by rfl) (hdb : (x == ("__debug__" : Str)) = false := by decide)
    (hall : (backToKw pos2 (keywordEach kws X.env)).all (·.1.isSome) = true := by rfl) (hks : (backToKw pos2 (keywordEach kws X.env)).filterMap (·.1) = ks := by rfl)
    (hpl : ((backTo pos2 (starEach [] X.env)).any (·.1) || (backToKw pos2 (keywordEach kws X.env)).any (·.1.isNone)) = false := by rfl)
    (ht : eval (.Call (.Attribute (.Call (.Name x p) [] [] pos) nm apos) [] kws pos2) X.env = (do
      let ov ← eval (.Call (.Name x p) [] [] pos) X.env
      standAt apos.atName
      let (f, first) ← holding [ov] (getMethod ov nm pl)
      callWith pos2 f first (backTo pos2 (starEach [] X.env)) (backToKw pos2 (keywordEach kws X.env))) := by rfl) :
    DE X C c (.Call (.Attribute (.Call (.Name x p) [] [] pos) nm apos) [] kws pos2) (fTkw kk nm pm ks.length np2 ff f2 fa) := by
  refine PE.imp (pe_methN0 (pe_make0 M Fk hr hg hm hb .nil pass0 hdb) cl hmt F2 hr2 hb2 pass0 ha hall hks hpl ht) fun σ H Q ⟨z, F, env, b, env', S, e, kk2⟩ => ?_
  obtain ⟨⟨r, os⟩, h3, e⟩ := Option.bind_eq_some_iff.mp e
  split at e
  case h_2 => cases e
  next kq fs er =>
  cases er
  split at e
  case isFalse => cases e
  next hq =>
  obtain ⟨hq, hlk⟩ := hq
  subst hq
  obtain ⟨⟨bs, e2⟩, w2, q3⟩ := Option.bind_eq_some_iff.mp e
  obtain ⟨ds, w3, q4⟩ := Option.bind_eq_some_iff.mp q3
  split at q4
  case isFalse => cases q4
  next hnd =>
  obtain ⟨r2, w4, q5⟩ := Option.bind_eq_some_iff.mp q4
  clear e q3 q4
  cases q5
  refine make_read (np := 1) (Q := fun x H1 => ∃ a dx fs, x = V.ref a ∧ H1 a = some (.ins (C.cls kq) dx fs) ∧ fs.lookup nm = none ∧ tAr X.K C c fa σ H1 fun zs H2 => zs.length = ks.length ∧ spF X.K C [0] false np2 f2 ([V.ref a] ++ permL pm zs) H2 Q E0) (dv := []) (dd := []) (ds := []) S .nil .nil rfl h3 fun a F1 H1 s1 S1 fb zb ow ap ng => ?_
  obtain ⟨dx, vs, u1, u2⟩ := id ow
  refine ⟨a, dx, vs, rfl, u1, u2.look_none hlk, _, F1, _, bs, _, S1.ghost fb zb ow ap ng, w2, fun zs F2 H2 s2 S2 r3 => ?_⟩
  obtain ⟨S3, fb3, zb3, ow3, ap3, ng3⟩ := S2.unghost
  have rp := vals_rp r3 w3
  have rq := permL_rp rp pm
  refine ⟨rp.length.trans hnd.1, F2, .obj kq fs :: permL pm ds, r2.1, r2.2, S3.sub, ?_, ⟨by simp [rq.length], fun i v d v1 v2 hi => ?_, fun i hi => ?_, fun i j a hi hj hij => ?_⟩, w4, fun v F' H' dn => ?_⟩
  · show (V.ref a :: permL pm zs).length = np2
    rw [List.length_cons, rq.length]
    exact hnd.2
  · cases i with
    | zero => exact absurd (List.mem_cons_self ..) hi
    | succ i =>
      obtain ⟨d', p1, p2⟩ := rq.get (by simpa using v1)
      have v2' : (permL pm ds)[i]? = some d := by simpa using v2
      rw [v2'] at p1; cases p1
      exact p2
  · have : i = 0 := by simpa using hi
    subst this
    exact ⟨a, _, rfl, rfl, fb3, ow3⟩
  · have y1 : i = 0 := by simpa using hi
    have y2 : j = 0 := by simpa using hj
    exact absurd (y1.trans y2.symm) hij
  · have keep : ∀ b u, H2 b = some u → b ≠ a → H' b = some u := fun b u hu hne => dn.keep b u hu fun i hi hz => by
      have hi0 : i = 0 := by simpa using hi
      subst hi0
      have hz' : V.ref a = V.ref b := Option.some.inj hz
      cases hz'
      exact hne rfl
    exact kk2 v F' H' (s1.trans (s2.trans dn.sub)) (S3.calledN dn.sub dn.inn dn.new keep fb3 zb3 ap3 ng3) dn.val
end
/-! ### what is never reached -/
def sNo : SF := fun _ => none
theorem dss_no {m : Bool} {X : Cx} {C : CA} {c : Cs} {b : List Stmt} : DSs m X C c b sNo := ⟨fun _ _ _ _ _ _ ⟨_, _, _, _, _, _, e, _⟩ => nomatch e⟩
/-! ### a slice of the script -/
def fSlcN (f : EF) (l h : PF) : EF := fun env => (f env).bind fun p => (l p.2).bind fun q => (h q.2).bind fun r => (rdB r.2 p.1).bind fun d => match d with
  | .scr ns => gd (cutD (ns.map D.int) q.1 r.1).length (some (.val (.lst (cutD (ns.map D.int) q.1 r.1)), r.2))
  | _ => none
theorem rp_intsN {K : PySem.W.Frag} {C : CA} {F : Hp} (ns : List Int) : RpAll K C F (ns.map V.int) (ns.map D.int) := by
  induction ns with
  | nil => exact .nil
  | cons n ns ih => exact .cons (.int n) ih
theorem de_slcN {X : Cx} {C : CA} {c : Cs} {e : Expr} {f : EF} {pos : Pos} {lo hi : Option Expr} {fl fh : PF} {p2 : Pos} (he : DE X C c e f) (hl : DPt X C c lo fl) (hh : DPt X C c hi fh) : DE X C c (.Subscript e (.Slice lo hi none p2) pos) (fSlcN f fl fh) := by
  refine PE.imp (pe_slice sl_list he hl hh) fun σ H Q ⟨z, F, env, b, env', S, e, k⟩ => ?_
  simp only [fSlcN, Option.bind_eq_some_iff] at e
  obtain ⟨⟨b1, e1⟩, h1, ⟨i1, e2⟩, h2, ⟨i2, e3⟩, h3, d, h4, e⟩ := e
  refine ⟨z, F, env, b1, e1, S, h1, fun v F1 H1 s1 S1 r1 => ⟨z, F1, e1, i1, e2, S1, h2, fun F2 H2 s2 S2 => ⟨z, F2, e2, i2, e3, S2, h3, fun F3 H3 s3 S3 => ?_⟩⟩⟩
  have rb := (r1.mono (s2.trans s3)).rb S3 h4
  cases d <;> simp only at e <;> try (cases e; done)
  rename_i ns
  obtain ⟨ql, e⟩ := gd_some e
  cases e
  obtain ⟨a, rfl, q⟩ := rb.scr S3.sub
  refine ⟨a, ns.map V.int, rfl, q, fun p hp => ?_⟩
  have ex : Ext F3 H3 (upd F3 p (.lst (cutV (ns.map V.int) i1 i2))) (upd H3 p (.lst (cutV (ns.map V.int) i1 i2))) := Ext.laid S3.sub hp
  have rc := cut_rp (rp_intsN (K := X.K) (C := C) (F := F3) ns) i1 i2
  exact k _ _ _ ((s1.trans (s2.trans s3)).trans ex.sub) (S3.ext ex) (.lst upd_same (by rw [rc.length]; exact ql) (rc.mono ex.sub))
end DL

namespace DL
open PySem L2
section
variable {m : Bool} {X : Cx} {C : CA} {c : Cs} {e o a b : Expr} {es : List Expr} {fa : AF} {f g : EF} {pos p apos : Pos} {x : Str}
/-! ### x.split(sep) -/
def splitD (s t : Str) : Option D := if (t.length == 0) = false ∧ s.length + 2 ≤ 16777216 then some (.lst ((Txt.split s t).map D.str)) else none
def oSplit (f g : EF) : OF := fun env => (f env).bind fun p => match p.1 with
  | .val (.str s) => (g p.2).bind fun q => (match q.1 with
    | .val (.str t) => (splitD s t).bind fun d => some (d, q.2)
    | _ => none)
  | _ => none
theorem rp_strs {K : PySem.W.Frag} {F : Hp} (ys : List Str) : RpAll K C F (ys.map V.str) (ys.map D.str) := by
  induction ys with
  | nil => exact .nil
  | cons y ys ih => exact .cons (.str y) ih
theorem do_split (ho : DE X C c o f) (he : DE X C c e g) (hs : starEach [e] X.env = [(false, eval e X.env)] := by rfl) (hbase : attributeBase o "split" X.env (eval o X.env) = eval o X.env := by rfl) (hline : (apos.endLine == pos.line) = true := by rfl) :
    DO X C c (.Call (.Attribute o "split" apos) [e] [] pos) (oSplit f g) := by
  refine PE.imp (pe_split ho he hs hbase hline) fun σ H Q ⟨z, F, env, d, env', S, e, k⟩ => ?_
  obtain ⟨⟨b1, e1⟩, h1, e⟩ := Option.bind_eq_some_iff.mp e
  cases b1 with
  | slot _ => cases e
  | val d1 =>
  cases d1 <;> simp only at e <;> try (cases e; done)
  next s =>
  obtain ⟨⟨b2, e2⟩, h2, e⟩ := Option.bind_eq_some_iff.mp e
  cases b2 with
  | slot _ => cases e
  | val d2 =>
  cases d2 <;> simp only at e <;> try (cases e; done)
  next t =>
  obtain ⟨d3, hd, e⟩ := Option.bind_eq_some_iff.mp e
  cases e
  unfold splitD at hd
  split at hd
  case isFalse => cases hd
  next hz =>
  cases hd
  refine ⟨z, F, env, _, e1, S, h1, fun v F1 H1 s1 S1 r1 => ?_⟩
  cases r1
  refine ⟨⟨s, rfl⟩, z, F1, e1, _, _, S1, h2, fun w F2 H2 s2 S2 r2 => ?_⟩
  cases r2
  refine ⟨s, t, rfl, rfl, hz.1, hz.2, fun p hp => ?_⟩
  obtain ⟨S3, fp, zp, ap, ng⟩ := S2.newO (o := .lst ((Txt.split s t).map V.str)) hp
  exact k p F2 _ (s1.trans s2) S3 fp zp ⟨_, upd_same, by rw [List.length_map]; exact Nat.le_trans (PyProof.Rows.split_le s t) hz.2, rp_strs _⟩ ap ng
/-! ### for c in x, a text -/
def iS (f : EF) : IF := fun env => (f env).bind fun p => match p.1 with
  | .val (.str s) => gd s.cps.size (some (s.cps.toList.map fun n => D.str ⟨#[n]⟩, p.2))
  | _ => none
theorem wk_str {K : PySem.W.Frag} {F : Hp} {s : Str} (hl : s.cps.size ≤ sizeLine) : Wk K C (Its s) F (s.cps.toList.map fun n => D.str ⟨#[n]⟩) := by
  refine ⟨fun i F' H s1 s2 hi => (by simpa using hi : i < s.cps.size), fun F' H s1 s2 => (by simp : s.cps.size ≤ (s.cps.toList.map fun n => D.str ⟨#[n]⟩).length), fun i F' H x H' s1 s2 hi y => ?_, by simpa using hl⟩
  obtain ⟨rfl, n, hn, rfl⟩ := y
  exact ⟨F', .str ⟨#[n]⟩, Ext.rfl' s2, by simp [hn], .str _⟩
theorem di_str {tg : Expr} (he : DE X C c e f) : DI X C c tg e (iS f) := by
  refine PI.imp (pi_str he) fun σ H R ⟨z, F, env, ds, env', S, e, k⟩ => ?_
  simp only [iS, Option.bind_eq_some_iff] at e
  obtain ⟨⟨b, e1⟩, h1, e⟩ := e
  cases b with
  | slot _ => cases e
  | val d =>
    cases d <;> try (cases e; done)
    next s =>
    obtain ⟨hl, e⟩ := gd_some e
    cases e
    refine ⟨z, F, env, _, e1, S, h1, fun v F1 H1 s1 S1 r1 => ?_⟩
    cases r1 with
    | str => exact ⟨_, rfl, k _ F1 H1 s1 S1 (wk_str hl)⟩
/-! ### int(text) -/
def intTD : List D → Option D
  | [.str x] => if x.length ≤ 640 then (PySem.intText? x).bind fun n => some (.int n) else none
  | _ => none
theorem cd_intT : CallD X C (.type "int") intTD := by
  refine ⟨_, call_int_str, fun F H vs ds d Q s r e k => ?_⟩
  unfold intTD at e
  split at e
  case h_2 => cases e
  next x =>
  split at e
  case isFalse => cases e
  next hl =>
  obtain ⟨n, h1, e⟩ := Option.bind_eq_some_iff.mp e
  cases e
  cases r with
  | cons r1 r2 =>
    cases r2
    have q : Rp X.K C F _ (.str x) := r1.elim id fun ⟨_, _, h⟩ => h.elim
    cases q
    exact ⟨x, n, rfl, h1, hl, k _ F H (Ext.rfl' s) (.int n)⟩
end
end DL

namespace DL
open PySem L2
/-! ### a call of a class that a local name holds -/
def tMakeL (i : Nat) (A : Addr) (sp : Sp) (dvs : List V) (E : XK) (t : TA) : TE := fun σ H Q => σ[i]? = some (some (.ref A)) ∧ tMake A sp dvs E t σ H Q
section
variable {X : Cx} {CX : CXT} {k i : Nat} {A f : Addr} {fd : FuncData} {ps : List Str} {sp : Sp} {dvs : List V} {ds : List Value} {E : XK} {x : Str} {p pos : Pos} {e : Expr} {es : List Expr} {t : TA}
theorem pe_makeL (M : Mk X.K A f) (F : FnOk X.prog X.w X.K X.mg X.base CX k f fd ps sp) (hr : Room (k + 1) X.A) (hN : X.N[i]? = some x) (hv : Vis X.env.scope x) (hb : Binds X.K fd ps ds) (hd : Vals dvs ds) (hx : Passes CX X E) (ha : PA X (e :: es) t)
    (hdb : (x == ("__debug__" : Str)) = false := by decide) (hcd : (x == ("__classdict__" : Str)) = false := by decide)
    (he : starEach (e :: es) X.env = (false, eval e X.env) :: starEach es X.env := by rfl) (hpl : (backTo pos (starEach es X.env)).any (·.1) = false := by rfl) : PE X (.Call (.Name x p) (e :: es) [] pos) (tMakeL i A sp dvs E t) := by
  refine ⟨fun pins s σ H Q I h => ?_⟩
  obtain ⟨hs, ht⟩ := h
  refine wpAny_Call_Name_kw (thn ((pe_var (pos := p) hN hv hdb hcd).run pins s σ H (fun v H1 => v = .ref A ∧ H1 = H) I ⟨.ref A, hs, rfl, rfl⟩) fun u s1 ⟨v, H1, I1, r1, q1⟩ => ?_)
  obtain ⟨rfl, rfl⟩ := q1
  cases r1
  refine PySem.W.callWith_K (h₀ := X.base) I.ok.mod.kin M.kp (thn (ha.run pos pins s1 σ _ _ I1 ht) fun us s2 ⟨vs, H2, I2, r, q⟩ => ⟨I2.kIn, ?_⟩) he hpl
  exact run_make M F hr hb hd hx I2 r q
end
section
variable {m : Bool} {X : Cx} {C : CA} {c : Cs} {e o a b : Expr} {es : List Expr} {fa : AF} {f g : EF} {pos p apos : Pos} {x : Str} {k np : Nat} {fad : Addr} {fd : FuncData} {ps : List Str} {dv : List V} {ds0 : List Value} {ff : FF}
/-- cls(..), slot i holds the class that is cell j -/
def oMkL (i j kk np : Nat) (ff : FF) (dd : List D) (fa : AF) : OF := fun env => match gt env i with
  | some (.cel l) => if l = j then oMk kk np ff dd fa env else none
  | _ => none
theorem do_makeL {dd : List D} (i j kk : Nat) (nk : C.cel j = some (C kk)) (M : Mk X.K (C kk) fad) (Fk : FnOk X.prog X.w X.K X.mg X.base CX0 k fad fd ps (spF X.K C [0] false np ff)) (hr : Room (k + 1) X.A) (hb : Binds X.K fd ps ds0) (hd : Vals dv ds0) (hdd : ∀ F, RpAll X.K C F dv dd) (ha : DA X C c (e :: es) fa)
    (hO : i ∉ c.O := by decide) (hn : i < c.n := by decide) (hN : X.N[i]? = some x := by rfl) (hv : Vis X.env.scope x := by first | exact Or.inl rfl | exact Or.inr (Or.inl rfl) | exact Or.inr (Or.inr rfl))
    (hdb : (x == ("__debug__" : Str)) = false := by decide) (hcd : (x == ("__classdict__" : Str)) = false := by decide) (he : starEach (e :: es) X.env = (false, eval e X.env) :: starEach es X.env := by rfl) (hpl : (backTo pos (starEach es X.env)).any (·.1) = false := by rfl) :
    DO X C c (.Call (.Name x p) (e :: es) [] pos) (oMkL i j kk np ff dd fa) := by
  refine PE.imp (pe_makeL (i := i) M Fk hr hN hv hb hd pass0 ha hdb hcd he hpl) fun σ H Q ⟨z, F, env, b, env', S, e, kq⟩ => ?_
  unfold oMkL at e
  split at e
  case h_2 => cases e
  next l hg =>
  split at e
  case isFalse => cases e
  next hl =>
  subst hl
  obtain ⟨v, hs, r⟩ := S.pur i _ hg hO hn
  have ev : v = .ref (C kk) := by
    cases r with
    | cel _ q => rw [nk] at q; cases q; rfl
  subst ev
  simp only [oMk, Option.bind_eq_some_iff] at e
  obtain ⟨⟨bs, e1⟩, h1, ds, h2, e⟩ := e
  split at e
  case isFalse => cases e
  next hnp =>
  obtain ⟨⟨r, os⟩, h3, e⟩ := Option.bind_eq_some_iff.mp e
  dsimp only at e
  cases r <;> simp only at e <;> try (cases e; done)
  split at e
  case h_2 => cases e
  cases e
  exact ⟨hs, z, F, env, bs, _, S, h1, fun vs F1 H1 s1 S1 r1 => make_read S1 (vals_rp r1 h2) (hdd F1) hnp h3 fun a F' H' s' S' => kq a F' H' (s1.trans s') S'⟩
/-! ### C.m(..), a method of the class -/
def fCm (j np : Nat) (ff : FF) (fa : AF) : EF := fun env => (fa env).bind fun q => (vals q.1).bind fun ds => if (D.cel j :: ds).length = np then (ff (.cel j :: ds)).bind fun r => some (.val r.1, q.2) else none
theorem de_cm {mt : Str} {q : Addr} {mc : Value} {pl : Sem Bool} (j kk : Nat) (nk : C.cel j = some (C kk)) (rd : ClX.CRead X.K (C kk) mc) (cm : ClX.CMet X.K (C kk) mc mt q fad) (Fk : FnOk X.prog X.w X.K X.mg X.base CX0 k fad fd ps (spF X.K C [] false np ff)) (hr : Room k X.A) (hm : X.mg x = some (.ref (C kk)))
    (hb : Binds X.K fd ps []) (ha : DA X C c (e :: es) fa) (hg : Gl X x := by rfl) (hdb : (x == ("__debug__" : Str)) = false := by decide)
    (hst : starEach (e :: es) X.env = (false, eval e X.env) :: starEach es X.env := by rfl) (hpl : (backTo pos (starEach es X.env)).any (·.1) = false := by rfl)
    (ht : eval (.Call (.Attribute (.Name x p) mt apos) (e :: es) [] pos) X.env = (do
      let ov ← eval (.Name x p) X.env
      standAt apos.atName
      let (f, first) ← holding [ov] (getMethod ov mt pl)
      callWith pos f first (backTo pos (starEach (e :: es) X.env)) (backToKw pos (keywordEach [] X.env))) := by rfl) :
    DE X C c (.Call (.Attribute (.Name x p) mt apos) (e :: es) [] pos) (fCm j np ff fa) := by
  have R := FnOk.raw Fk hb .nil
  refine PE.imp (ClX.pe_cmeth (pl := pl) (pe_glob (v := .ref (C kk)) hg hm rfl hdb) rd cm R hr pass0 ha hst hpl ht) fun σ H Q ⟨z, F, env, b, env', S, e, kq⟩ => ?_
  simp only [fCm, Option.bind_eq_some_iff] at e
  obtain ⟨⟨bs, e1⟩, h1, ds, h2, e⟩ := e
  split at e
  case isFalse => cases e
  next hnp =>
  obtain ⟨r, h3, e⟩ := Option.bind_eq_some_iff.mp e
  cases e
  refine ⟨rfl, z, F, env, bs, e1, S, h1, fun vs F1 H1 s1 S1 r1 => ?_⟩
  have rp : RpAll X.K C F1 (.ref (C kk) :: vs) (.cel j :: ds) := .cons (.cel j nk) (vals_rp r1 h2)
  have := call0_read (dv := []) (dd := []) (np := np) (ff := ff) (m := false) (Q := Q) S1.sub rp .nil (by rw [List.append_nil, rp.length]; exact hnp) (by rw [List.append_nil]; exact h3) fun v F' H' ex rv => kq v F' H' (s1.trans ex.sub) (S1.ext ex) rv
  exact this
end
end DL
/-! ### the head's facts: methods of a class -/
namespace DL
open PySem L2
def cmR (K : PySem.W.Frag) (q : Addr) : Addr := match PySem.W.recIn K q "classmethod" with
  | some (.ref g :: _) => g
  | _ => 0
def prR (K : PySem.W.Frag) (q : Addr) : Option Addr := match PySem.W.recIn K q "property" with
  | some (.ref g :: _) => some g
  | _ => none
def cAd (K : PySem.W.Frag) (p : Str × Option Str) : Addr := match p.2 with
  | none => 0
  | some m => (match PySem.W.findIn K (.ref (He.ga K p.1)) m with
    | some (some (.ref q)) => (prR K q).getD (cmR K q)
    | _ => 0)
def cmF (o : Option PySem.W.CFound) (q a : Addr) : Bool := match o with
  | some (.get g (.ref q2) .none (.ref d)) => decide (g = .builtin "classmethod.__get__") && (decide (q2 = q) && decide (d = a))
  | _ => false
theorem cmF_ok {o : Option PySem.W.CFound} {q a : Addr} (h : cmF o q a = true) : o = some (.get (.builtin "classmethod.__get__") (.ref q) .none (.ref a)) := by
  unfold cmF at h
  split at h
  · obtain ⟨h1, h⟩ := Bool.and_eq_true_iff.mp h
    obtain ⟨h2, h3⟩ := Bool.and_eq_true_iff.mp h
    rw [of_decide_eq_true h1, of_decide_eq_true h2, of_decide_eq_true h3]
  · cases h
def recB (K : PySem.W.Frag) (q : Addr) : Bool := match PySem.W.recIn K q "classmethod" with
  | some (.ref f :: _) => PySem.W.fnIn K f
  | _ => false
theorem recB_ok {K : PySem.W.Frag} {q : Addr} (h : recB K q = true) : (∃ rest, PySem.W.recIn K q "classmethod" = some (.ref (cmR K q) :: rest)) ∧ PySem.W.fnIn K (cmR K q) = true := by
  unfold recB at h
  split at h
  · next f rest e =>
    have : cmR K q = f := by
      unfold cmR
      rw [e]
    rw [this]
    exact ⟨⟨rest, e⟩, h⟩
  · cases h
def clsmB (K : PySem.W.Frag) (c m : Str) : Bool := PySem.W.readsIn K (He.ga K c) (.type "type") && (decide (PySem.W.specialIn K (.ref (He.ga K c)) "__getattribute__" = some (some (.builtin "type.__getattribute__"))) &&
  (match PySem.W.findIn K (.ref (He.ga K c)) m with
  | some (some (.ref q)) => cmF (PySem.W.findCls K (.ref (He.ga K c)) (.type "type") m) q (He.ga K c) && ((prR K q).isNone && recB K q)
  | _ => false))
theorem clsmB_ok {K : PySem.W.Frag} {c m : Str} (h : clsmB K c m = true) : ClX.CRead K (He.ga K c) (.type "type") ∧ ∃ q, ClX.CMet K (He.ga K c) (.type "type") m q (cAd K (c, some m)) := by
  unfold clsmB at h
  obtain ⟨h1, h⟩ := Bool.and_eq_true_iff.mp h
  obtain ⟨h2, h⟩ := Bool.and_eq_true_iff.mp h
  refine ⟨⟨h1, of_decide_eq_true h2⟩, ?_⟩
  split at h
  case h_2 => cases h
  next q e =>
  obtain ⟨h3, h⟩ := Bool.and_eq_true_iff.mp h
  obtain ⟨h4, h5⟩ := Bool.and_eq_true_iff.mp h
  obtain ⟨r1, r2⟩ := recB_ok h5
  have eg : cAd K (c, some m) = cmR K q := by
    show (match PySem.W.findIn K (.ref (He.ga K c)) m with
      | some (some (.ref q)) => (prR K q).getD (cmR K q)
      | _ => 0) = cmR K q
    rw [e]
    show (prR K q).getD (cmR K q) = cmR K q
    rw [Option.isNone_iff_eq_none.mp h4]
    rfl
  rw [eg]
  exact ⟨q, cmF_ok h3, r1, r2⟩
def propC (K : PySem.W.Frag) (c m : Str) : Bool := propB K c m && decide (pAd K (c, some m) = cAd K (c, some m))
/-- the defs of properties and class methods: what is told of their function objects -/
def fnC (K : PySem.W.Frag) (p : Str × Option Str) : He.FnW := match K.lookup (cAd K p) with
  | some ⟨_, _, .func fd, _⟩ => some (fd.name, fd.qualname, fd.params, fd.body, fd.scope, fd.globals, fd.closure, fd.builtins)
  | _ => none
def okC (K : PySem.W.Frag) (d : He.DefD) : Bool := PySem.W.keepIn K (.ref (cAd K d.at_)) && (match K.lookup (cAd K d.at_) with
  | some ⟨_, _, .func fd, _⟩ => PySem.W.codeIn K fd.code d.qual && (He.dflB K fd.defaults (d.dvs K) && He.kwdB K fd.kwdefaults (d.kws K))
  | _ => false)
theorem funC {K : PySem.W.Frag} {d : He.DefD} (e : fnC K d.at_ = d.val) (c : okC K d = true) : ∃ fd, FunD K d.name d.qual d.params d.body d.scope (d.dvs K) (d.kws K) (cAd K d.at_) fd := by
  obtain ⟨kp, c2⟩ := Bool.and_eq_true_iff.mp c
  unfold fnC at e
  split at e
  case h_2 => cases e
  next oc od fd osl q =>
  rw [q] at c2
  obtain ⟨k1, k2⟩ := Bool.and_eq_true_iff.mp c2
  obtain ⟨k3, k4⟩ := Bool.and_eq_true_iff.mp k2
  obtain ⟨n1, n2, n3, n4, n5, n6, n7, n8, n9, n10, n11, n12, n13, n14, n15⟩ := fd
  have e2 : (some (n1, n2, n3, n4, n5, n6, n7, n15) : He.FnW) = some (d.name, d.qual, d.params, .stmts d.body, d.scope, mainGlobals, [], builtinsNs) := e
  simp only [Option.some.injEq, Prod.mk.injEq] at e2
  obtain ⟨h1, h2, h3, h4, h5, h6, h7, h8⟩ := e2
  subst h1 h2 h3 h4 h5 h6 h7 h8
  exact ⟨_, ⟨oc, od, n8, n9, n10, n11, n12, n13, n14, osl, rfl, q, k1, He.dflB_ok k3, He.kwdB_ok k4⟩, kp⟩
def obsC (n : Nat) (fa : List He.Fa) (fn pn : List He.DefD) (ex : PySem.W.Frag → Bool) (g : Addr → Option Obj) : (He.AlD × Bool) × List He.FnW := ((He.obsD fa fn (fragY n g), ex (fragY n g) && pn.all (okC (fragY n g))), pn.map fun d => fnC (fragY n g) d.at_)
structure SaysC (fa : List He.Fa) (fn pn : List He.DefD) (ex : PySem.W.Frag → Bool) (K : PySem.W.Frag) : Prop where
  d : He.SaysD fa fn K
  more : ex K = true
  ok : pn.all (okC K) = true
  fnw : pn.map (fun d => fnC K d.at_) = pn.map He.DefD.val
theorem SaysC.prop {fa : List He.Fa} {fn pn : List He.DefD} {ex : PySem.W.Frag → Bool} {K : PySem.W.Frag} (c : SaysC fa fn pn ex K) (i : Nat) {d : He.DefD} (h : pn[i]? = some d := by rfl) : ∃ fd, FunD K d.name d.qual d.params d.body d.scope (d.dvs K) (d.kws K) (cAd K d.at_) fd := by
  have e2 : (pn.map fun d => fnC K d.at_)[i]? = (pn.map He.DefD.val)[i]? := by rw [c.fnw]
  rw [List.getElem?_map, List.getElem?_map, h] at e2
  exact funC (Option.some.inj e2) (List.all_eq_true.mp c.ok d (List.mem_of_getElem? h))
def hookC (n : Nat) (fa : List He.Fa) (fn pn : List He.DefD) (ex : PySem.W.Frag → Bool) : PySem.W.Hook where
  α := (He.AlD × Bool) × List He.FnW
  obs := fun s => obsC n fa fn pn ex s.heap.get?
  val := fun _ => ((He.valD fn, true), pn.map He.DefD.val)
  says := fun _ h => ∃ K : PySem.W.Frag, K.In h ∧ SaysC fa fn pn ex K
  of := fun _ _ e => by
    obtain ⟨h1, h2⟩ := Bool.and_eq_true_iff.mp (congrArg (fun z : (He.AlD × Bool) × List He.FnW => z.1.2) e)
    exact ⟨_, He.frT_in, ⟨congrArg (fun z : (He.AlD × Bool) × List He.FnW => z.1.1) e, h1, h2, congrArg (fun z : (He.AlD × Bool) × List He.FnW => z.2) e⟩⟩
  keeps := fun _ _ _ ⟨K, hK, c⟩ k => ⟨K, PySem.W.Frag.In.keeps hK k, c⟩
end DL

/-! DLHd: the head's facts from a list of addresses that is told (no search for them in the kernel) -/
namespace DL
open PySem L2
def obsA (as : List Addr) (fa : List He.Fa) (fn pn : List He.DefD) (ex : PySem.W.Frag → Bool) (g : Addr → Option Obj) : (He.AlD × Bool) × List He.FnW := ((He.obsD fa fn (He.frT g as), ex (He.frT g as) && pn.all (okC (He.frT g as))), pn.map fun d => fnC (He.frT g as) d.at_)
def hookA (as : List Addr) (fa : List He.Fa) (fn pn : List He.DefD) (ex : PySem.W.Frag → Bool) : PySem.W.Hook where
  α := (He.AlD × Bool) × List He.FnW
  obs := fun s => obsA as fa fn pn ex s.heap.get?
  val := fun _ => ((He.valD fn, true), pn.map He.DefD.val)
  says := fun _ h => ∃ K : PySem.W.Frag, K.In h ∧ SaysC fa fn pn ex K
  of := fun _ _ e => by
    obtain ⟨h1, h2⟩ := Bool.and_eq_true_iff.mp (congrArg (fun z : (He.AlD × Bool) × List He.FnW => z.1.2) e)
    exact ⟨_, He.frT_in, ⟨congrArg (fun z : (He.AlD × Bool) × List He.FnW => z.1.1) e, h1, h2, congrArg (fun z : (He.AlD × Bool) × List He.FnW => z.2) e⟩⟩
  keeps := fun _ _ _ ⟨K, hK, c⟩ k => ⟨K, PySem.W.Frag.In.keeps hK k, c⟩
theorem obsA_eq {as : List Addr} {fa : List He.Fa} {fn pn : List He.DefD} {ex : PySem.W.Frag → Bool} {g : Addr → Option Obj} {s : Shared} (h : ∀ a, g a = s.heap.get? a) : obsA as fa fn pn ex g = (hookA as fa fn pn ex).obs s := by
  have e : g = s.heap.get? := funext h
  rw [e] <;> rfl
end DL


namespace LW
open PySem PySem.Spec L2 DL
def top (i : Nat) : Stmt := PySem.Challenge.pw_levelties_k53_arguments_by_names.main.body.getD i (.Pass ⟨0, 0, 0, 0⟩)
def clsBd : Stmt → List Stmt | .ClassDef _ _ _ b _ _ _ _ _ _ _ => b | _ => []
def topM (i j : Nat) : Stmt := (clsBd (top i)).getD j (.Pass ⟨0, 0, 0, 0⟩)
abbrev FnP (K : PySem.W.Frag) (x q : Str) (st : Stmt) (f : Addr) (fd : FuncData) : Prop := FunD K x q (defArgs st) (defBody st) (defScope st) [] [] f fd
structure Gl (K : PySem.W.Frag) (mg : Str → Option Value) (C : Nat → Addr) (ad : Nat → Addr) (fd : Nat → FuncData) : Prop where
  f_is_integer : FnP K "is_integer" "is_integer" (top 3) (ad 1) (fd 1)
  f_is_number : FnP K "is_number" "is_number" (top 4) (ad 2) (fd 2)
  f_is_sequence : FnP K "is_sequence" "is_sequence" (top 5) (ad 3) (fd 3)
  f_number_in : FnP K "number_in" "number_in" (top 6) (ad 4) (fd 4)
  f_other_end : FnP K "other_end" "other_end" (top 9) (ad 6) (fd 6)
  f_side : FnP K "side" "side" (top 10) (ad 7) (fd 7)
  f_Flow___init__ : FnP K "__init__" "Flow.__init__" (topM 11 0) (ad 8) (fd 8)
  f_Flow_steps_from : FnP K "steps_from" "Flow.steps_from" (topM 11 1) (ad 9) (fd 9)
  f_Flow_reached : FnP K "reached" "Flow.reached" (topM 11 2) (ad 10) (fd 10)
  f_Flow_widen : FnP K "widen" "Flow.widen" (topM 11 3) (ad 11) (fd 11)
  f_Flow_widest : FnP K "widest" "Flow.widest" (topM 11 4) (ad 12) (fd 12)
  f_Flow_ways : FnP K "ways" "Flow.ways" (topM 11 5) (ad 13) (fd 13)
  f_Flow_way_in : FnP K "way_in" "Flow.way_in" (topM 11 6) (ad 14) (fd 14)
  f_ways : FnP K "ways" "ways" (top 12) (ad 15) (fd 15)
  f_cut_between : FnP K "cut_between" "cut_between" (top 13) (ad 16) (fd 16)
  f_paper : FnP K "paper" "paper" (top 14) (ad 17) (fd 17)
  f_are_ties_papers : FnP K "are_ties" "are_ties" (top 15) (ad 19) (fd 19)
  f_leads : FnP K "leads" "leads" (top 17) (ad 20) (fd 20)
  f_are_apart : FnP K "are_apart" "are_apart" (top 18) (ad 21) (fd 21)
  f_paper_holds : FnP K "paper_holds" "paper_holds" (top 19) (ad 22) (fd 22)
  f_all_lots : FnP K "all_lots" "all_lots" (top 21) (ad 23) (fd 23)
  f_lots_with_first : FnP K "lots_with_first" "lots_with_first" (top 22) (ad 24) (fd 24)
  f_least_cut : FnP K "least_cut" "least_cut" (top 24) (ad 25) (fd 25)
  f_seen : FnP K "seen" "seen" (top 25) (ad 26) (fd 26)
  f_told : FnP K "told" "told" (top 26) (ad 27) (fd 27)
  f_weaker : FnP K "weaker" "weaker" (top 28) (ad 28) (fd 28)
  f_no_worse : FnP K "no_worse" "no_worse" (top 29) (ad 29) (fd 29)
  f_alike : FnP K "alike" "alike" (top 30) (ad 30) (fd 30)
  f_worth : FnP K "worth" "worth" (top 31) (ad 31) (fd 31)
  f_best_ties : FnP K "best_ties" "best_ties" (top 32) (ad 32) (fd 32)
  f_Live___init__ : FnP K "__init__" "Live.__init__" (topM 53 0) (ad 42) (fd 42)
  f_is_pair : FnP K "is_pair" "is_pair" (top 56) (ad 54) (fd 54)
  f_are_ties_nets : FnP K "are_ties" "are_ties" (top 57) (ad 55) (fd 55)
  f_are_joined : FnP K "are_joined" "are_joined" (top 59) (ad 56) (fd 56)
  f_numbers_of : FnP K "numbers_of" "numbers_of" (top 61) (ad 58) (fd 58)
  f_Net___init__ : FunD K "__init__" "Net.__init__" (defArgs (topM 62 0)) (defBody (topM 62 0)) (defScope (topM 62 0)) [(V.ref (ad 1590))] [] (ad 59) (fd 59)
  f_Net_read : FnP K "read" "Net.read" (topM 62 1) (ad 60) (fd 60)
  f_Net_need_tie : FnP K "need_tie" "Net.need_tie" (topM 62 2) (ad 61) (fd 61)
  f_Net_further : FnP K "further" "Net.further" (topM 62 5) (ad 64) (fd 64)
  f_Net_across : FnP K "across" "Net.across" (topM 62 6) (ad 65) (fd 65)
  f_Net___len__ : FnP K "__len__" "Net.__len__" (topM 62 9) (ad 68) (fd 68)
  f_Net___getitem__ : FnP K "__getitem__" "Net.__getitem__" (topM 62 10) (ad 69) (fd 69)
  f_words_of : FnP K "words_of" "words_of" (top 66) (ad 73) (fd 73)
  f_Desk___init__ : FnP K "__init__" "Desk.__init__" (topM 69 0) (ad 76) (fd 76)
  f_Desk_say : FnP K "say" "Desk.say" (topM 69 1) (ad 77) (fd 77)
  f_need_groups : FnP K "need_groups" "need_groups" (top 71) (ad 81) (fd 81)
  f_many_across : FnP K "many_across" "many_across" (top 72) (ad 82) (fd 82)
  f_weak_lot : FnP K "weak_lot" "weak_lot" (top 73) (ad 83) (fd 83)
  f_least_groups : FnP K "least_groups" "least_groups" (top 74) (ad 84) (fd 84)
  f_seen_groups : FnP K "seen_groups" "seen_groups" (top 75) (ad 85) (fd 85)
  f_told_groups : FnP K "told_groups" "told_groups" (top 76) (ad 86) (fd 86)
  f__law_value : FnP K "_law_value" "_law_value" (top 78) (ad 87) (fd 87)
  f_law : FnP K "law" "law" (top 79) (ad 88) (fd 88)
  g__law_value : mg "_law_value" = some (.ref (ad 87))
  g_alike : mg "alike" = some (.ref (ad 30))
  g_all_lots : mg "all_lots" = some (.ref (ad 23))
  g_are_apart : mg "are_apart" = some (.ref (ad 21))
  g_are_joined : mg "are_joined" = some (.ref (ad 56))
  g_are_ties_nets : mg "are_ties_nets" = some (.ref (ad 55))
  g_are_ties_papers : mg "are_ties_papers" = some (.ref (ad 19))
  g_best_ties : mg "best_ties" = some (.ref (ad 32))
  g_cut_between : mg "cut_between" = some (.ref (ad 16))
  g_is_integer : mg "is_integer" = some (.ref (ad 1))
  g_is_number : mg "is_number" = some (.ref (ad 2))
  g_is_pair : mg "is_pair" = some (.ref (ad 54))
  g_is_sequence : mg "is_sequence" = some (.ref (ad 3))
  g_leads : mg "leads" = some (.ref (ad 20))
  g_least_cut : mg "least_cut" = some (.ref (ad 25))
  g_least_groups : mg "least_groups" = some (.ref (ad 84))
  g_lots_with_first : mg "lots_with_first" = some (.ref (ad 24))
  g_many_across : mg "many_across" = some (.ref (ad 82))
  g_need_groups : mg "need_groups" = some (.ref (ad 81))
  g_no_worse : mg "no_worse" = some (.ref (ad 29))
  g_number_in : mg "number_in" = some (.ref (ad 4))
  g_numbers_of : mg "numbers_of" = some (.ref (ad 58))
  g_other_end : mg "other_end" = some (.ref (ad 6))
  g_paper : mg "paper" = some (.ref (ad 17))
  g_paper_holds : mg "paper_holds" = some (.ref (ad 22))
  g_seen : mg "seen" = some (.ref (ad 26))
  g_seen_groups : mg "seen_groups" = some (.ref (ad 85))
  g_side : mg "side" = some (.ref (ad 7))
  g_told : mg "told" = some (.ref (ad 27))
  g_told_groups : mg "told_groups" = some (.ref (ad 86))
  g_ways : mg "ways" = some (.ref (ad 15))
  g_weak_lot : mg "weak_lot" = some (.ref (ad 83))
  g_weaker : mg "weaker" = some (.ref (ad 28))
  g_words_of : mg "words_of" = some (.ref (ad 73))
  g_worth : mg "worth" = some (.ref (ad 31))
  fr_abs : mg "abs" = none
  fr_all : mg "all" = none
  fr_bool : mg "bool" = none
  fr_enumerate : mg "enumerate" = none
  fr_int : mg "int" = none
  fr_isinstance : mg "isinstance" = none
  fr_len : mg "len" = none
  fr_list : mg "list" = none
  fr_min : mg "min" = none
  fr_range : mg "range" = none
  fr_sorted : mg "sorted" = none
  fr_str : mg "str" = none
  fr_tuple : mg "tuple" = none
  cl3 : Cls K (C 3)
  cl1 : Cls K (C 1)
  cl2 : Cls K (C 2)
  cl0 : Cls K (C 0)
  na3_live : NoAttr K (C 3) "live"
  na1_begin : NoAttr K (C 1) "begin"
  na1_goal : NoAttr K (C 1) "goal"
  na1_gone : NoAttr K (C 1) "gone"
  na1_ties : NoAttr K (C 1) "ties"
  na2_kept : NoAttr K (C 2) "kept"
  na2_net : NoAttr K (C 2) "net"
  na0_posts : NoAttr K (C 0) "posts"
  na0_ties : NoAttr K (C 0) "ties"
  me3_say : Meth K (C 3) "say" (ad 77)
  me1_reached : Meth K (C 1) "reached" (ad 10)
  me1_steps_from : Meth K (C 1) "steps_from" (ad 9)
  me1_way_in : Meth K (C 1) "way_in" (ad 14)
  me1_ways : Meth K (C 1) "ways" (ad 13)
  me1_widen : Meth K (C 1) "widen" (ad 11)
  me1_widest : Meth K (C 1) "widest" (ad 12)
  me0___getitem__ : Meth K (C 0) "__getitem__" (ad 69)
  me0___len__ : Meth K (C 0) "__len__" (ad 68)
  me0_across : Meth K (C 0) "across" (ad 65)
  me0_further : Meth K (C 0) "further" (ad 64)
  me0_need_tie : Meth K (C 0) "need_tie" (ad 61)
  dt1590 : ∀ H : Hp, SqT K H (ad 1590) []
  k_DIGITS : ∃ t, mg "DIGITS" = some (.str "0123456789" t)
  k_MOST_DIGITS : ∃ t, mg "MOST_DIGITS" = some (.int 2 t)
  cr0 : ClX.CRead K (C 0) (.type "type")
  cm0_read : ∃ q, ClX.CMet K (C 0) (.type "type") "read" q (ad 60)
  mk3 : Mk K (C 3) (ad 76)
  gc3 : mg "Desk" = some (.ref (C 3))
  mk1 : Mk K (C 1) (ad 8)
  gc1 : mg "Flow" = some (.ref (C 1))
  mk2 : Mk K (C 2) (ad 42)
  gc2 : mg "Live" = some (.ref (C 2))
  mk0 : Mk K (C 0) (ad 59)
  gc0 : mg "Net" = some (.ref (C 0))
section
variable {P : Program} {w : World} {K : PySem.W.Frag} {mg : Str → Option Value} {base : Heap} {C : CA} {ad : Nat → Addr} {fd : Nat → FuncData}
theorem bb_abs : bootBuiltins "abs" = some (.builtin "abs") := by decide +kernel
theorem bb_all : bootBuiltins "all" = some (.builtin "all") := by decide +kernel
theorem bb_bool : bootBuiltins "bool" = some (.type "bool") := by decide +kernel
theorem bb_int : bootBuiltins "int" = some (.type "int") := by decide +kernel
theorem bb_len : bootBuiltins "len" = some (.builtin "len") := by decide +kernel
theorem bb_list : bootBuiltins "list" = some (.type "list") := by decide +kernel
theorem bb_min : bootBuiltins "min" = some (.builtin "min") := by decide +kernel
theorem bb_sorted : bootBuiltins "sorted" = some (.builtin "sorted") := by decide +kernel
theorem bb_str : bootBuiltins "str" = some (.type "str") := by decide +kernel
theorem bb_tuple : bootBuiltins "tuple" = some (.type "tuple") := by decide +kernel
abbrev N__law_value : List Str := ["_law_script", "_law_zfound", "_law_zcell"]
abbrev c__law_value : Cs := ⟨3, [], [], [], []⟩
def lp__law_value_1 : SF := (sSet 1 (f2 modD (f2 addD (f2 addD (f2 mulD (fV 1) (fC (.int 31))) (f2 modD (fB absD (aC (fV 2) aN)) (fC (.int 1000003)))) (fC (.int 1))) (fC (.int 1000003))))
def tl__law_value_1 : SF := (sQ (sFor (iX (fSlcN (fV 0) pN (pI (fC (.int 50))))) (gN 2) lp__law_value_1) (sR (f2 modD (f2 fdivD (fV 1) (fC (.int 7))) (fC (.int 3)))))
def b__law_value : SF := (sQ (sSet 1 (fC (.int 73))) tl__law_value_1)
def F__law_value : FF := runF c__law_value b__law_value
theorem sc__law_value : FnScope N__law_value ["_law_script"] (defScope (top 78)) := ⟨rfl, rfl, rfl, by decide +kernel, rfl, by decide +kernel, by decide +kernel⟩
theorem bi__law_value (G : Gl K mg C.cls ad fd) : Binds K (fd 87) ["_law_script"] [] := G.f__law_value.bindsN fun _ _ _ _ _ _ us hl => match us, hl with | [_], _ => rfl
theorem ok__law_value (G : Gl K mg C.cls ad fd) : FnOk P w K mg base CX0 1 (ad 87) (fd 87) ["_law_script"] (spF K C [] false 1 F__law_value) :=
  fun_ok (N := N__law_value) (ps := ["_law_script"]) (m := false) c__law_value G.f__law_value sc__law_value b__law_value rfl (by decide) (by decide) (fun h => nomatch h) fun cdv A outer s H E hr => (dss_cons (ds_set 1 sc__law_value.nd de_int) (dss_cons (ds_for PassesOwn.never (di_seq (de_slcN (de_var 0) dp_none (dp_some de_int))) (dg_name 2 sc__law_value.nd) (dss_one (ds_set 1 sc__law_value.nd (de_op od_mod (de_op od_add (de_op od_add (de_op od_mulI (de_var 1) de_int) (de_op od_mod (de_bi cd_abs G.fr_abs bb_abs (da_cons (de_var 2) da_nil)) de_int)) de_int) de_int)))) (dss_one (ds_ret (de_op od_mod (de_op od_fdiv (de_var 1) de_int) de_int)))))
abbrev N_is_integer : List Str := ["value"]
abbrev c_is_integer : Cs := ⟨1, [], [], [], []⟩
def b_is_integer : SF := (sR (fAndV (fIs "int" (fV 0)) (fNotV (fIs "bool" (fV 0)))))
def F_is_integer : FF := runF c_is_integer b_is_integer
theorem sc_is_integer : FnScope N_is_integer ["value"] (defScope (top 3)) := ⟨rfl, rfl, rfl, by decide +kernel, rfl, by decide +kernel, by decide +kernel⟩
theorem bi_is_integer (G : Gl K mg C.cls ad fd) : Binds K (fd 1) ["value"] [] := G.f_is_integer.bindsN fun _ _ _ _ _ _ us hl => match us, hl with | [_], _ => rfl
theorem ok_is_integer (G : Gl K mg C.cls ad fd) : FnOk P w K mg base CX0 1 (ad 1) (fd 1) ["value"] (spF K C [] false 1 F_is_integer) :=
  fun_ok (N := N_is_integer) (ps := ["value"]) (m := false) c_is_integer G.f_is_integer sc_is_integer b_is_integer rfl (by decide) (by decide) (fun h => nomatch h) fun cdv A outer s H E hr => (dss_one (ds_ret (de_and (de_isinst "int" (by simp [isTN]) (de_var 0) G.fr_isinstance G.fr_int bb_int) (de_one (de_not (de_isinst "bool" (by simp [isTN]) (de_var 0) G.fr_isinstance G.fr_bool bb_bool))))))
abbrev N_is_sequence : List Str := ["value"]
abbrev c_is_sequence : Cs := ⟨1, [], [], [], []⟩
def b_is_sequence : SF := (sR (fIsLT (fV 0)))
def F_is_sequence : FF := runF c_is_sequence b_is_sequence
theorem sc_is_sequence : FnScope N_is_sequence ["value"] (defScope (top 5)) := ⟨rfl, rfl, rfl, by decide +kernel, rfl, by decide +kernel, by decide +kernel⟩
theorem bi_is_sequence (G : Gl K mg C.cls ad fd) : Binds K (fd 3) ["value"] [] := G.f_is_sequence.bindsN fun _ _ _ _ _ _ us hl => match us, hl with | [_], _ => rfl
theorem ok_is_sequence (G : Gl K mg C.cls ad fd) : FnOk P w K mg base CX0 1 (ad 3) (fd 3) ["value"] (spF K C [] false 1 F_is_sequence) :=
  fun_ok (N := N_is_sequence) (ps := ["value"]) (m := false) c_is_sequence G.f_is_sequence sc_is_sequence b_is_sequence rfl (by decide) (by decide) (fun h => nomatch h) fun cdv A outer s H E hr => (dss_one (ds_ret (de_isLT (de_var 0) G.fr_isinstance G.fr_list G.fr_tuple)))
abbrev N_is_number : List Str := ["value"]
abbrev c_is_number : Cs := ⟨1, [], [], [], []⟩
def b_is_number : SF := (sR (fAndV (fC0 1 F_is_integer [] (aC (fV 0) aN)) (f2 geD (fV 0) (fC (.int 0)))))
def F_is_number : FF := runF c_is_number b_is_number
theorem sc_is_number : FnScope N_is_number ["value"] (defScope (top 4)) := ⟨rfl, rfl, rfl, by decide +kernel, rfl, by decide +kernel, by decide +kernel⟩
theorem bi_is_number (G : Gl K mg C.cls ad fd) : Binds K (fd 2) ["value"] [] := G.f_is_number.bindsN fun _ _ _ _ _ _ us hl => match us, hl with | [_], _ => rfl
theorem ok_is_number (G : Gl K mg C.cls ad fd) : FnOk P w K mg base CX0 2 (ad 2) (fd 2) ["value"] (spF K C [] false 1 F_is_number) :=
  fun_ok (N := N_is_number) (ps := ["value"]) (m := false) c_is_number G.f_is_number sc_is_number b_is_number rfl (by decide) (by decide) (fun h => nomatch h) fun cdv A outer s H E hr => (dss_one (ds_ret (de_and (de_call0 (ok_is_integer G) (hr.mono (by decide)) G.g_is_integer G.f_is_integer.kp (bi_is_integer G) .nil (fun _ => .nil) (da_cons (de_var 0) da_nil)) (de_one (de_cmp od_ge (de_var 0) de_int)))))
abbrev N_is_pair : List Str := ["value", "firsts", "seconds"]
abbrev c_is_pair : Cs := ⟨3, [], [], [], []⟩
def b_is_pair : SF := (sQ (sIf (fOr (fNot (fTst (fIs "tuple" (fV 0)))) (fOr (fTst (f2 neD (fB lenD (aC (fV 0) aN)) (fC (.int 2)))) (fOr (fNot (fTst (fC0 1 F_is_number [] (aC (f2 subSc (fV 0) (fC (.int 0))) aN)))) (fNot (fTst (fC0 1 F_is_number [] (aC (f2 subSc (fV 0) (fC (.int 1))) aN))))))) (sR (fC (.bl false))) sN) (sR (fAndV (f2 ltD (f2 subSc (fV 0) (fC (.int 0))) (fV 1)) (f2 ltD (f2 subSc (fV 0) (fC (.int 1))) (fV 2)))))
def F_is_pair : FF := runF c_is_pair b_is_pair
theorem sc_is_pair : FnScope N_is_pair ["value", "firsts", "seconds"] (defScope (top 56)) := ⟨rfl, rfl, rfl, by decide +kernel, rfl, by decide +kernel, by decide +kernel⟩
theorem bi_is_pair (G : Gl K mg C.cls ad fd) : Binds K (fd 54) ["value", "firsts", "seconds"] [] := G.f_is_pair.bindsN fun _ _ _ _ _ _ us hl => match us, hl with | [_, _, _], _ => rfl
theorem ok_is_pair (G : Gl K mg C.cls ad fd) : FnOk P w K mg base CX0 3 (ad 54) (fd 54) ["value", "firsts", "seconds"] (spF K C [] false 3 F_is_pair) :=
  fun_ok (N := N_is_pair) (ps := ["value", "firsts", "seconds"]) (m := false) c_is_pair G.f_is_pair sc_is_pair b_is_pair rfl (by decide) (by decide) (fun h => nomatch h) fun cdv A outer s H E hr => (dss_cons (ds_if (DW.dt (dw_or (dt_not (dt_val (de_isinst "tuple" (by simp [isTN]) (de_var 0) G.fr_isinstance G.fr_tuple bb_tuple))) (dw_or (dt_cmp (od_ne hr.units) (de_bi cd_len G.fr_len bb_len (da_cons (de_var 0) da_nil)) de_int) (dw_or (dt_not (dt_val (de_call0 (ok_is_number G) (hr.mono (by decide)) G.g_is_number G.f_is_number.kp (bi_is_number G) .nil (fun _ => .nil) (da_cons (de_ix hr.units (de_var 0) de_int) da_nil)))) (dw_or1 (dt_not (dt_val (de_call0 (ok_is_number G) (hr.mono (by decide)) G.g_is_number G.f_is_number.kp (bi_is_number G) .nil (fun _ => .nil) (da_cons (de_ix hr.units (de_var 0) de_int) da_nil))))))))) (dss_one (ds_ret de_bl)) dss_nil) (dss_one (ds_ret (de_and (de_cmp od_lt (de_ix hr.units (de_var 0) de_int) (de_var 1)) (de_one (de_cmp od_lt (de_ix hr.units (de_var 0) de_int) (de_var 2)))))))
abbrev N_are_ties_nets : List Str := ["value", "posts", "tie"]
abbrev c_are_ties_nets : Cs := ⟨3, [], [], [], []⟩
def b_are_ties_nets : SF := (sQ (sIf (fOr (fNot (fTst (fC0 1 F_is_sequence [] (aC (fV 0) aN)))) (fNot (fTst (fB allD (aC (fO (oLc (iX (fV 0)) (gN 2) tYesF (fC0 3 F_is_pair [] (aC (fV 2) (aC (fV 1) (aC (fV 1) aN)))) [2])) aN))))) (sR (fC (.bl false))) sN) (sR (fB allD (aC (fO (oLc (iX (fV 0)) (gN 2) tYesF (f2 neD (f2 subSc (fV 2) (fC (.int 0))) (f2 subSc (fV 2) (fC (.int 1)))) [2])) aN))))
def F_are_ties_nets : FF := runF c_are_ties_nets b_are_ties_nets
theorem sc_are_ties_nets : FnScope N_are_ties_nets ["value", "posts"] (defScope (top 57)) := ⟨rfl, rfl, rfl, by decide +kernel, rfl, by decide +kernel, by decide +kernel⟩
theorem bi_are_ties_nets (G : Gl K mg C.cls ad fd) : Binds K (fd 55) ["value", "posts"] [] := G.f_are_ties_nets.bindsN fun _ _ _ _ _ _ us hl => match us, hl with | [_, _], _ => rfl
theorem ok_are_ties_nets (G : Gl K mg C.cls ad fd) : FnOk P w K mg base CX0 4 (ad 55) (fd 55) ["value", "posts"] (spF K C [] false 2 F_are_ties_nets) :=
  fun_ok (N := N_are_ties_nets) (ps := ["value", "posts"]) (m := false) c_are_ties_nets G.f_are_ties_nets sc_are_ties_nets b_are_ties_nets rfl (by decide) (by decide) (fun h => nomatch h) fun cdv A outer s H E hr => (dss_cons (ds_if (DW.dt (dw_or (dt_not (dt_val (de_call0 (ok_is_sequence G) (hr.mono (by decide)) G.g_is_sequence G.f_is_sequence.kp (bi_is_sequence G) .nil (fun _ => .nil) (da_cons (de_var 0) da_nil)))) (dw_or1 (dt_not (dt_val (de_bi (cd_all rfl) G.fr_all bb_all (da_cons (DO.de (do_lc [("tie", 2)] sc_are_ties_nets.nd (di_seq (de_var 0)) (blkOk_by (by kernel_rfl)) (fun _ _ _ _ _ => (dg_name 2 sc_are_ties_nets.nd)) (fun _ _ _ _ _ => dts_nil) (fun _ _ _ _ _ => (de_call0 (ok_is_pair G) (hr.mono (by decide)) G.g_is_pair G.f_is_pair.kp (bi_is_pair G) .nil (fun _ => .nil) (da_cons (de_var 2) (da_cons (de_var 1) (da_cons (de_var 1) da_nil))))))) da_nil))))))) (dss_one (ds_ret de_bl)) dss_nil) (dss_one (ds_ret (de_bi (cd_all rfl) G.fr_all bb_all (da_cons (DO.de (do_lc [("tie", 2)] sc_are_ties_nets.nd (di_seq (de_var 0)) (blkOk_by (by kernel_rfl)) (fun _ _ _ _ _ => (dg_name 2 sc_are_ties_nets.nd)) (fun _ _ _ _ _ => dts_nil) (fun _ _ _ _ _ => (de_cmp (od_ne hr.units) (de_ix hr.units (de_var 2) de_int) (de_ix hr.units (de_var 2) de_int))))) da_nil)))))
abbrev N_are_joined : List Str := ["posts", "ties", "known", "waiting", "post", "one", "other", "far"]
abbrev c_are_joined : Cs := ⟨8, [2, 3], [], [], []⟩
def lp_are_joined_1 : SF := (sIf (fTst (f2 inD (fV 4) (fTup (aC (fV 5) (aC (fV 6) aN))))) (sQ (sSet 7 (fIf (fTst (f2 eqD (fV 5) (fV 4))) (fV 6) (fV 5))) (sIf (fTst (f2 notInD (fV 7) (fS 2))) (sQ (sSetIx 2 (fV 7) (fC (.bl true))) (sX (fMt 3 appD (aC (fV 7) aN)))) sN)) sN)
def lp_are_joined_2 : SF := (sQ (sSet 4 (fMt 3 popD aN)) (sFor (iX (fV 1)) (gT 2 (gC (gN 5) (gC (gN 6) gN0))) lp_are_joined_1))
def tl_are_joined_1 : SF := (sQ (whD (fTst (f2 gtD (fB lenD (aC (fS 3) aN)) (fC (.int 0)))) lp_are_joined_2 64) (sR (f2 eqD (fB lenD (aC (fS 2) aN)) (fV 0))))
def b_are_joined : SF := (sQ (sPar 2 3 (oDi1 (fC (.int 0)) (fC (.bl true))) (oLst (aC (fC (.int 0)) aN))) tl_are_joined_1)
def F_are_joined : FF := runF c_are_joined b_are_joined
theorem sc_are_joined : FnScope N_are_joined ["posts", "ties"] (defScope (top 59)) := ⟨rfl, rfl, rfl, by decide +kernel, rfl, by decide +kernel, by decide +kernel⟩
theorem bi_are_joined (G : Gl K mg C.cls ad fd) : Binds K (fd 56) ["posts", "ties"] [] := G.f_are_joined.bindsN fun _ _ _ _ _ _ us hl => match us, hl with | [_, _], _ => rfl
theorem ok_are_joined (G : Gl K mg C.cls ad fd) : FnOk P w K mg base CX0 1 (ad 56) (fd 56) ["posts", "ties"] (spF K C [] false 2 F_are_joined) :=
  fun_ok (N := N_are_joined) (ps := ["posts", "ties"]) (m := false) c_are_joined G.f_are_joined sc_are_joined b_are_joined rfl (by decide) (by decide) (fun h => nomatch h) fun cdv A outer s H E hr => (dss_cons (ds_par (oi := true) (oj := true) 2 3 sc_are_joined.nd ⟨by decide, by decide⟩ ⟨by decide, by decide⟩ (DO.dx (do_dict1 hr.units de_int de_bl)) (DO.dx (do_lst (da_cons de_int da_nil)))) (dss_cons (ds_while 64 PassesOwn.never (dt_cmp od_gt (de_bi cd_len G.fr_len bb_len (da_cons (de_slot 3) da_nil)) de_int) (dss_cons (ds_set 4 sc_are_joined.nd (de_mt0 3 md_pop PySem.F.slot_list_pop PySem.F.type_list_pop)) (dss_one (ds_for PassesOwn.never (di_seq (de_var 1)) (dg_tup 2 (dgs_cons (dg_name 5 sc_are_joined.nd) (dgs_cons (dg_name 6 sc_are_joined.nd) dgs_nil))) (dss_one (ds_if (dt_cmp (od_in hr.units) (de_var 4) (de_tup (da_cons (de_var 5) (da_cons (de_var 6) da_nil)))) (dss_cons (ds_set 7 sc_are_joined.nd (de_if (dt_cmp (od_eq hr.units) (de_var 5) (de_var 4)) (de_var 6) (de_var 5))) (dss_one (ds_if (dt_cmp (od_notin hr.units) (de_var 7) (de_slot 2)) (dss_cons (ds_setIx 2 hr.units (de_var 7) de_bl) (dss_one (ds_expr (de_mt 3 md_append PySem.F.slot_list_append PySem.F.type_list_append (da_cons (de_var 7) da_nil))))) dss_nil))) dss_nil)))))) (dss_one (ds_ret (de_cmp (od_eq hr.units) (de_bi cd_len G.fr_len bb_len (da_cons (de_slot 2) da_nil)) (de_var 0))))))
abbrev N_Net___init__ : List Str := ["self", "posts", "ties"]
abbrev c_Net___init__ : Cs := ⟨3, [0], [0], [], []⟩
def b_Net___init__ : SF := (sQ (sIf (fOr (fNot (fTst (fC0 1 F_is_integer [] (aC (fV 1) aN)))) (fTst (f2 ltD (fV 1) (fC (.int 1))))) (fun _ => none) sN) (sQ (sIf (fNot (fTst (fC0 2 F_are_ties_nets [] (aC (fV 2) (aC (fV 1) aN))))) (fun _ => none) sN) (sQ (sIf (fNot (fTst (fC0 2 F_are_joined [] (aC (fV 1) (aC (fV 2) aN))))) (fun _ => none) sN) (sQ (sFldD 0 0 "posts" (fV 1)) (sFldD 0 0 "ties" (fB tupleX (aC (fV 2) aN)))))))
def F_Net___init__ : FF := runF c_Net___init__ b_Net___init__
theorem sc_Net___init__ : FnScope N_Net___init__ ["self", "posts", "ties"] (defScope (topM 62 0)) := ⟨rfl, rfl, rfl, by decide +kernel, rfl, by decide +kernel, by decide +kernel⟩
theorem bi_Net___init__ (G : Gl K mg C.cls ad fd) : Binds K (fd 59) ["self", "posts", "ties"] [] := by
  obtain ⟨ds, h1, h2⟩ := FunD.binds1 (ps := ["self", "posts", "ties"]) G.f_Net___init__ 3 1 (by simp) rfl fun T kV doc pm an cdv ct us its hu hi => match us, hu, its, hi with | [_, _, _], _, [_], _ => ⟨_, rfl, rfl⟩
  cases h1
  exact h2
theorem ok_Net___init__ (G : Gl K mg C.cls ad fd) : FnOk P w K mg base CX0 5 (ad 59) (fd 59) ["self", "posts", "ties"] (spF K C [0] false 3 F_Net___init__) :=
  fun_ok (N := N_Net___init__) (ps := ["self", "posts", "ties"]) (m := false) c_Net___init__ G.f_Net___init__ sc_Net___init__ b_Net___init__ rfl (by decide) (by decide) (fun h => nomatch h) fun cdv A outer s H E hr => (dss_cons (ds_if (DW.dt (dw_or (dt_not (dt_val (de_call0 (ok_is_integer G) (hr.mono (by decide)) G.g_is_integer G.f_is_integer.kp (bi_is_integer G) .nil (fun _ => .nil) (da_cons (de_var 1) da_nil)))) (dw_or1 (dt_cmp od_lt (de_var 1) de_int)))) (dss_one ds_never) dss_nil) (dss_cons (ds_if (dt_not (dt_val (de_call0 (ok_are_ties_nets G) (hr.mono (by decide)) G.g_are_ties_nets G.f_are_ties_nets.kp (bi_are_ties_nets G) .nil (fun _ => .nil) (da_cons (de_var 2) (da_cons (de_var 1) da_nil))))) (dss_one ds_never) dss_nil) (dss_cons (ds_if (dt_not (dt_val (de_call0 (ok_are_joined G) (hr.mono (by decide)) G.g_are_joined G.f_are_joined.kp (bi_are_joined G) .nil (fun _ => .nil) (da_cons (de_var 1) (da_cons (de_var 2) da_nil))))) (dss_one ds_never) dss_nil) (dss_cons (ds_fld 0 0 G.cl0 G.na0_posts (de_var 1)) (dss_one (ds_fld 0 0 G.cl0 G.na0_ties (de_ty (cd_tupleX rfl) G.fr_tuple bb_tuple (da_cons (de_var 2) da_nil))))))))
abbrev N_Flow___init__ : List Str := ["self", "net", "begin", "goal"]
abbrev c_Flow___init__ : Cs := ⟨4, [0], [0], [], []⟩
def b_Flow___init__ : SF := (sQ (sFldD 0 1 "ties" (fAt 0 "ties" (fV 1))) (sQ (sFldD 0 1 "begin" (fV 2)) (sQ (sFldD 0 1 "goal" (fV 3)) sN)))
def o_Flow___init__ : OF := (oMulL (fO (oLst (aC (fC (.int 0)) aN))) (fB lenD (aC (fAt 0 "ties" (fV 1)) aN)))
def F_Flow___init__ : List D → Option (List (Str × D) × D) := mkF c_Flow___init__ 1 b_Flow___init__ o_Flow___init__
theorem sc_Flow___init__ : FnScope N_Flow___init__ ["self", "net", "begin", "goal"] (defScope (topM 11 0)) := ⟨rfl, rfl, rfl, by decide +kernel, rfl, by decide +kernel, by decide +kernel⟩
theorem bi_Flow___init__ (G : Gl K mg C.cls ad fd) : Binds K (fd 8) ["self", "net", "begin", "goal"] [] := G.f_Flow___init__.bindsN fun _ _ _ _ _ _ us hl => match us, hl with | [_, _, _, _], _ => rfl
theorem ok_Flow___init__ (G : Gl K mg C.cls ad fd) : FnOk P w K mg base CX0 1 (ad 8) (fd 8) ["self", "net", "begin", "goal"] (spMk K C 1 4 "gone" F_Flow___init__) :=
  fun_okM (N := N_Flow___init__) (ps := ["self", "net", "begin", "goal"]) c_Flow___init__ 1 "gone" G.f_Flow___init__ sc_Flow___init__ b_Flow___init__ o_Flow___init__ rfl rfl (by decide) (by decide) (by decide) fun cdv A outer s H E hr => (pss_mkc (ds_fld 0 1 G.cl1 G.na1_ties (de_attr 0 (de_var 1) G.cl0 G.na0_ties)) (pss_mkc (ds_fld 0 1 G.cl1 G.na1_begin (de_var 2)) (pss_mkc (ds_fld 0 1 G.cl1 G.na1_goal (de_var 3)) (pss_mk1 0 1 G.cl1 G.na1_gone (do_mulL (DO.de (do_lst (da_cons de_int da_nil))) (de_bi cd_len G.fr_len bb_len (da_cons (de_attr 0 (de_var 1) G.cl0 G.na0_ties) da_nil)))))))
abbrev N_side : List Str := ["tie", "post"]
abbrev c_side : Cs := ⟨2, [], [], [], []⟩
def b_side : SF := (sR (fIf (fTst (f2 eqD (f2 subSc (fV 0) (fC (.int 0))) (fV 1))) (fC (.int 1)) (fNeg (fC (.int 1)))))
def F_side : FF := runF c_side b_side
theorem sc_side : FnScope N_side ["tie", "post"] (defScope (top 10)) := ⟨rfl, rfl, rfl, by decide +kernel, rfl, by decide +kernel, by decide +kernel⟩
theorem bi_side (G : Gl K mg C.cls ad fd) : Binds K (fd 7) ["tie", "post"] [] := G.f_side.bindsN fun _ _ _ _ _ _ us hl => match us, hl with | [_, _], _ => rfl
theorem ok_side (G : Gl K mg C.cls ad fd) : FnOk P w K mg base CX0 1 (ad 7) (fd 7) ["tie", "post"] (spF K C [] false 2 F_side) :=
  fun_ok (N := N_side) (ps := ["tie", "post"]) (m := false) c_side G.f_side sc_side b_side rfl (by decide) (by decide) (fun h => nomatch h) fun cdv A outer s H E hr => (dss_one (ds_ret (de_if (dt_cmp (od_eq hr.units) (de_ix hr.units (de_var 0) de_int) (de_var 1)) de_int (de_neg de_int))))
abbrev N_Flow_steps_from : List Str := ["self", "post", "at", "tie"]
abbrev c_Flow_steps_from : Cs := ⟨4, [], [], [0], []⟩
def b_Flow_steps_from : SF := (sR (fO (oLc (iEn (fAt 1 "ties" (fV 0))) (gT 2 (gC (gN 2) (gC (gN 3) gN0))) (fAnd (fTst (f2 inD (fV 1) (fV 3))) (fTst (f2 neD (f2 subSc (fCel 4 1 "gone" (fV 0)) (fV 2)) (fC0 2 F_side [] (aC (fV 3) (aC (fV 1) aN)))))) (fV 2) [2, 3])))
def F_Flow_steps_from : FF := runFc c_Flow_steps_from 2 b_Flow_steps_from
theorem sc_Flow_steps_from : FnScope N_Flow_steps_from ["self", "post"] (defScope (topM 11 1)) := ⟨rfl, rfl, rfl, by decide +kernel, rfl, by decide +kernel, by decide +kernel⟩
theorem bi_Flow_steps_from (G : Gl K mg C.cls ad fd) : Binds K (fd 9) ["self", "post"] [] := G.f_Flow_steps_from.bindsN fun _ _ _ _ _ _ us hl => match us, hl with | [_, _], _ => rfl
theorem ok_Flow_steps_from (G : Gl K mg C.cls ad fd) : FnOk P w K mg base CX0 2 (ad 9) (fd 9) ["self", "post"] (spFc K C [] false 2 F_Flow_steps_from) :=
  fun_okC (N := N_Flow_steps_from) (ps := ["self", "post"]) (m := false) c_Flow_steps_from G.f_Flow_steps_from sc_Flow_steps_from b_Flow_steps_from rfl (by decide) (by decide) (fun h => nomatch h) fun cdv A outer s H E hr => (dss_one (ds_ret (DO.de (do_lc [("at", 2), ("tie", 3)] sc_Flow_steps_from.nd (di_enum G.fr_enumerate (de_attr 1 (de_var 0) G.cl1 G.na1_ties)) (blkOk_by (by kernel_rfl)) (fun _ _ _ _ _ => (dg_tup 2 (dgs_cons (dg_name 2 sc_Flow_steps_from.nd) (dgs_cons (dg_name 3 sc_Flow_steps_from.nd) dgs_nil)))) (fun _ _ _ _ _ => (dts_one (DW.dt (dw_and (dt_cmp (od_in hr.units) (de_var 1) (de_var 3)) (dw_and1 (dt_cmp (od_ne hr.units) (de_ix hr.units (de_cel 1 (de_var 0) G.cl1 G.na1_gone) (de_var 2)) (de_call0 (ok_side G) (hr.mono (by decide)) G.g_side G.f_side.kp (bi_side G) .nil (fun _ => .nil) (da_cons (de_var 3) (da_cons (de_var 1) da_nil))))))))) (fun _ _ _ _ _ => (de_var 2))))))
abbrev N_other_end : List Str := ["tie", "post"]
abbrev c_other_end : Cs := ⟨2, [], [], [], []⟩
def b_other_end : SF := (sR (fIf (fTst (f2 eqD (f2 subSc (fV 0) (fC (.int 0))) (fV 1))) (f2 subSc (fV 0) (fC (.int 1))) (f2 subSc (fV 0) (fC (.int 0)))))
def F_other_end : FF := runF c_other_end b_other_end
theorem sc_other_end : FnScope N_other_end ["tie", "post"] (defScope (top 9)) := ⟨rfl, rfl, rfl, by decide +kernel, rfl, by decide +kernel, by decide +kernel⟩
theorem bi_other_end (G : Gl K mg C.cls ad fd) : Binds K (fd 6) ["tie", "post"] [] := G.f_other_end.bindsN fun _ _ _ _ _ _ us hl => match us, hl with | [_, _], _ => rfl
theorem ok_other_end (G : Gl K mg C.cls ad fd) : FnOk P w K mg base CX0 1 (ad 6) (fd 6) ["tie", "post"] (spF K C [] false 2 F_other_end) :=
  fun_ok (N := N_other_end) (ps := ["tie", "post"]) (m := false) c_other_end G.f_other_end sc_other_end b_other_end rfl (by decide) (by decide) (fun h => nomatch h) fun cdv A outer s H E hr => (dss_one (ds_ret (de_if (dt_cmp (od_eq hr.units) (de_ix hr.units (de_var 0) de_int) (de_var 1)) (de_ix hr.units (de_var 0) de_int) (de_ix hr.units (de_var 0) de_int))))
abbrev N_Flow_reached : List Str := ["self", "found", "order", "at", "step", "post"]
abbrev c_Flow_reached : Cs := ⟨6, [1, 2], [], [0], []⟩
def lp_Flow_reached_1 : SF := (sQ (sSet 5 (fC0 2 F_other_end [] (aC (f2 subSc (fAt 1 "ties" (fV 0)) (fV 4)) (aC (f2 subSc (fS 2) (fV 3)) aN)))) (sIf (fTst (f2 notInD (fV 5) (fS 1))) (sQ (sSetIx 1 (fV 5) (fV 4)) (sX (fMt 2 appD (aC (fV 5) aN)))) sN))
def tl_Flow_reached_1 : SF := (sQ (sFor (iX (fMeC 1 "steps_from" 2 6 F_Flow_steps_from (fV 0) (aC (f2 subSc (fS 2) (fV 3)) aN))) (gN 4) lp_Flow_reached_1) (sAug 3 addII (fC (.int 1))))
def lp_Flow_reached_2 : SF := tl_Flow_reached_1
def tl_Flow_reached_2 : SF := (sQ (whD (fTst (f2 ltD (fV 3) (fB lenD (aC (fS 2) aN)))) lp_Flow_reached_2 64) (sR (fM 1)))
def b_Flow_reached : SF := (sQ (sPar3O 1 2 3 (oDi1 (fAt 1 "begin" (fV 0)) (fC .non)) (oLst (aC (fAt 1 "begin" (fV 0)) aN)) (oP (fC (.int 0)))) tl_Flow_reached_2)
def F_Flow_reached : FF := runFc c_Flow_reached 1 b_Flow_reached
theorem sc_Flow_reached : FnScope N_Flow_reached ["self"] (defScope (topM 11 2)) := ⟨rfl, rfl, rfl, by decide +kernel, rfl, by decide +kernel, by decide +kernel⟩
theorem bi_Flow_reached (G : Gl K mg C.cls ad fd) : Binds K (fd 10) ["self"] [] := G.f_Flow_reached.bindsN fun _ _ _ _ _ _ us hl => match us, hl with | [_], _ => rfl
theorem ok_Flow_reached (G : Gl K mg C.cls ad fd) : FnOk P w K mg base CX0 3 (ad 10) (fd 10) ["self"] (spFc K C [] false 1 F_Flow_reached) :=
  fun_okC (N := N_Flow_reached) (ps := ["self"]) (m := false) c_Flow_reached G.f_Flow_reached sc_Flow_reached b_Flow_reached rfl (by decide) (by decide) (fun h => nomatch h) fun cdv A outer s H E hr => (dss_cons (ds_par3O (oi := true) (oj := true) 1 2 3 sc_Flow_reached.nd ⟨by decide, by decide⟩ ⟨by decide, by decide⟩ (DO.dx (do_dict1 hr.units (de_attr 1 (de_var 0) G.cl1 G.na1_begin) de_non)) (DO.dx (do_lst (da_cons (de_attr 1 (de_var 0) G.cl1 G.na1_begin) da_nil))) (DE.dx de_int)) (dss_cons (ds_while 64 PassesOwn.never (dt_cmp od_lt (de_var 3) (de_bi cd_len G.fr_len bb_len (da_cons (de_slot 2) da_nil))) (dss_cons (ds_for PassesOwn.never (di_seq (de_meC 1 (de_var 0) G.cl1 G.me1_steps_from (ok_Flow_steps_from G) (hr.mono (by decide)) (bi_Flow_steps_from G) (da_cons (de_ix hr.units (de_slot 2) (de_var 3)) da_nil))) (dg_name 4 sc_Flow_reached.nd) (dss_cons (ds_set 5 sc_Flow_reached.nd (de_call0 (ok_other_end G) (hr.mono (by decide)) G.g_other_end G.f_other_end.kp (bi_other_end G) .nil (fun _ => .nil) (da_cons (de_ix hr.units (de_attr 1 (de_var 0) G.cl1 G.na1_ties) (de_var 4)) (da_cons (de_ix hr.units (de_slot 2) (de_var 3)) da_nil)))) (dss_one (ds_if (dt_cmp (od_notin hr.units) (de_var 5) (de_slot 1)) (dss_cons (ds_setIx 1 hr.units (de_var 5) (de_var 4)) (dss_one (ds_expr (de_mt 2 md_append PySem.F.slot_list_append PySem.F.type_list_append (da_cons (de_var 5) da_nil))))) dss_nil)))) (dss_one (ds_augAdd 3 sc_Flow_reached.nd de_int)))) (dss_one (ds_ret (de_move 1)))))
abbrev N_Flow_widen : List Str := ["self", "found", "post", "tie", "ahead"]
abbrev c_Flow_widen : Cs := ⟨5, [], [], [0], []⟩
def lp_Flow_widen_1 : SF := (sQ (sSet 3 (f2 subSc (fAt 1 "ties" (fV 0)) (f2 subSc (fV 1) (fV 2)))) (sQ (sSet 4 (fC0 2 F_other_end [] (aC (fV 3) (aC (fV 2) aN)))) (sQ (sSetIxE (fCel 5 1 "gone" (fV 0)) (f2 subSc (fV 1) (fV 2)) (f2 addD (f2 subSc (fCel 5 1 "gone" (fV 0)) (f2 subSc (fV 1) (fV 2))) (fC0 2 F_side [] (aC (fV 3) (aC (fV 4) aN))))) (sSet 2 (fV 4)))))
def tl_Flow_widen_1 : SF := (sQ (whD (fTst (f2 isNotND (f2 subSc (fV 1) (fV 2)) (fC .non))) lp_Flow_widen_1 64) (sR (fC (.bl true))))
def b_Flow_widen : SF := (sQ (sSet 1 (fMeC 1 "reached" 1 5 F_Flow_reached (fV 0) aN)) (sQ (sIf (fTst (f2 notInD (fAt 1 "goal" (fV 0)) (fV 1))) (sR (fC (.bl false))) sN) (sQ (sSet 2 (fAt 1 "goal" (fV 0))) tl_Flow_widen_1)))
def F_Flow_widen : FF := runFc c_Flow_widen 1 b_Flow_widen
theorem sc_Flow_widen : FnScope N_Flow_widen ["self"] (defScope (topM 11 3)) := ⟨rfl, rfl, rfl, by decide +kernel, rfl, by decide +kernel, by decide +kernel⟩
theorem bi_Flow_widen (G : Gl K mg C.cls ad fd) : Binds K (fd 11) ["self"] [] := G.f_Flow_widen.bindsN fun _ _ _ _ _ _ us hl => match us, hl with | [_], _ => rfl
theorem ok_Flow_widen (G : Gl K mg C.cls ad fd) : FnOk P w K mg base CX0 4 (ad 11) (fd 11) ["self"] (spFc K C [] false 1 F_Flow_widen) :=
  fun_okC (N := N_Flow_widen) (ps := ["self"]) (m := false) c_Flow_widen G.f_Flow_widen sc_Flow_widen b_Flow_widen rfl (by decide) (by decide) (fun h => nomatch h) fun cdv A outer s H E hr => (dss_cons (ds_set 1 sc_Flow_widen.nd (de_meC0 1 (de_var 0) G.cl1 G.me1_reached (ok_Flow_reached G) (hr.mono (by decide)) (bi_Flow_reached G))) (dss_cons (ds_if (dt_cmp (od_notin hr.units) (de_attr 1 (de_var 0) G.cl1 G.na1_goal) (de_var 1)) (dss_one (ds_ret de_bl)) dss_nil) (dss_cons (ds_set 2 sc_Flow_widen.nd (de_attr 1 (de_var 0) G.cl1 G.na1_goal)) (dss_cons (ds_while 64 PassesOwn.never (dt_cmp od_isNotN (de_ix hr.units (de_var 1) (de_var 2)) de_non) (dss_cons (ds_set 3 sc_Flow_widen.nd (de_ix hr.units (de_attr 1 (de_var 0) G.cl1 G.na1_ties) (de_ix hr.units (de_var 1) (de_var 2)))) (dss_cons (ds_set 4 sc_Flow_widen.nd (de_call0 (ok_other_end G) (hr.mono (by decide)) G.g_other_end G.f_other_end.kp (bi_other_end G) .nil (fun _ => .nil) (da_cons (de_var 3) (da_cons (de_var 2) da_nil)))) (dss_cons (ds_setIxE (de_cel 1 (de_var 0) G.cl1 G.na1_gone) (de_ix hr.units (de_var 1) (de_var 2)) (de_op od_add (de_ix hr.units (de_cel 1 (de_var 0) G.cl1 G.na1_gone) (de_ix hr.units (de_var 1) (de_var 2))) (de_call0 (ok_side G) (hr.mono (by decide)) G.g_side G.f_side.kp (bi_side G) .nil (fun _ => .nil) (da_cons (de_var 3) (da_cons (de_var 4) da_nil))))) (dss_one (ds_set 2 sc_Flow_widen.nd (de_var 4))))))) (dss_one (ds_ret de_bl))))))
abbrev N_Flow_widest : List Str := ["self"]
abbrev c_Flow_widest : Cs := ⟨1, [], [], [0], []⟩
def lp_Flow_widest_1 : SF := sN
def tl_Flow_widest_1 : SF := (sQ (whD (fTst (fMeC 1 "widen" 1 1 F_Flow_widen (fV 0) aN)) lp_Flow_widest_1 64) (sR (fV 0)))
def b_Flow_widest : SF := tl_Flow_widest_1
def F_Flow_widest : FF := runFc c_Flow_widest 1 b_Flow_widest
theorem sc_Flow_widest : FnScope N_Flow_widest ["self"] (defScope (topM 11 4)) := ⟨rfl, rfl, rfl, by decide +kernel, rfl, by decide +kernel, by decide +kernel⟩
theorem bi_Flow_widest (G : Gl K mg C.cls ad fd) : Binds K (fd 12) ["self"] [] := G.f_Flow_widest.bindsN fun _ _ _ _ _ _ us hl => match us, hl with | [_], _ => rfl
theorem ok_Flow_widest (G : Gl K mg C.cls ad fd) : FnOk P w K mg base CX0 5 (ad 12) (fd 12) ["self"] (spFc K C [] false 1 F_Flow_widest) :=
  fun_okC (N := N_Flow_widest) (ps := ["self"]) (m := false) c_Flow_widest G.f_Flow_widest sc_Flow_widest b_Flow_widest rfl (by decide) (by decide) (fun h => nomatch h) fun cdv A outer s H E hr => (dss_cons (ds_while 64 PassesOwn.never (dt_val (de_meC0 1 (de_var 0) G.cl1 G.me1_widen (ok_Flow_widen G) (hr.mono (by decide)) (bi_Flow_widen G))) (dss_one ds_pass)) (dss_one (ds_ret (de_var 0))))
abbrev N_Flow_way_in : List Str := ["self", "left", "row", "post", "some", "at", "tie"]
abbrev c_Flow_way_in : Cs := ⟨7, [1, 2], [1], [], []⟩
def lp_Flow_way_in_1 : SF := (sQ (sSet 4 (fO (oLc (iEn (fAt 1 "ties" (fV 0))) (gT 2 (gC (gN 5) (gC (gN 6) gN0))) (fAnd (fTst (f2 inD (fV 3) (fV 6))) (fTst (f2 eqD (f2 subSc (fS 1) (fV 5)) (fC0 2 F_side [] (aC (fV 6) (aC (fV 3) aN)))))) (fV 5) [5, 6]))) (sQ (sIf (fTst (f2 eqD (fB lenD (aC (fV 4) aN)) (fC (.int 0)))) (sR (fO (oLst aN))) sN) (sQ (sSetIx 1 (f2 subSc (fV 4) (fC (.int 0))) (fC (.int 0))) (sQ (sX (fMt 2 appD (aC (f2 subSc (fV 4) (fC (.int 0))) aN))) (sSet 3 (fC0 2 F_other_end [] (aC (f2 subSc (fAt 1 "ties" (fV 0)) (f2 subSc (fV 4) (fC (.int 0)))) (aC (fV 3) aN))))))))
def tl_Flow_way_in_1 : SF := (sQ (whD (fTst (f2 neD (fV 3) (fAt 1 "goal" (fV 0)))) lp_Flow_way_in_1 64) (sR (fM 2)))
def b_Flow_way_in : SF := (sQ (sPar 2 3 (oLst aN) (oP (fAt 1 "begin" (fV 0)))) tl_Flow_way_in_1)
def F_Flow_way_in : FF := runF c_Flow_way_in b_Flow_way_in
theorem sc_Flow_way_in : FnScope N_Flow_way_in ["self", "left"] (defScope (topM 11 6)) := ⟨rfl, rfl, rfl, by decide +kernel, rfl, by decide +kernel, by decide +kernel⟩
theorem bi_Flow_way_in (G : Gl K mg C.cls ad fd) : Binds K (fd 14) ["self", "left"] [] := G.f_Flow_way_in.bindsN fun _ _ _ _ _ _ us hl => match us, hl with | [_, _], _ => rfl
theorem ok_Flow_way_in (G : Gl K mg C.cls ad fd) : FnOk P w K mg base CX0 2 (ad 14) (fd 14) ["self", "left"] (spF K C [1] false 2 F_Flow_way_in) :=
  fun_ok (N := N_Flow_way_in) (ps := ["self", "left"]) (m := false) c_Flow_way_in G.f_Flow_way_in sc_Flow_way_in b_Flow_way_in rfl (by decide) (by decide) (fun h => nomatch h) fun cdv A outer s H E hr => (dss_cons (ds_parC (oi := true) (oj := false) 2 3 sc_Flow_way_in.nd ⟨by decide, by decide⟩ (by decide) (DO.dx (do_lst da_nil)) (DE.dx (de_attr 1 (de_var 0) G.cl1 G.na1_begin))) (dss_cons (ds_while 64 PassesOwn.never (dt_cmp (od_ne hr.units) (de_var 3) (de_attr 1 (de_var 0) G.cl1 G.na1_goal)) (dss_cons (ds_setLcP 4 [("at", 5), ("tie", 6)] sc_Flow_way_in.nd (di_enum G.fr_enumerate (de_attr 1 (de_var 0) G.cl1 G.na1_ties)) (blkOk_by (by kernel_rfl)) (fun _ _ _ _ _ => (dg_tup 2 (dgs_cons (dg_name 5 sc_Flow_way_in.nd) (dgs_cons (dg_name 6 sc_Flow_way_in.nd) dgs_nil)))) (fun _ _ _ _ _ => (dts_one (DW.dt (dw_and (dt_cmp (od_in hr.units) (de_var 3) (de_var 6)) (dw_and1 (dt_cmp (od_eq hr.units) (de_ix hr.units (de_slot 1) (de_var 5)) (de_call0 (ok_side G) (hr.mono (by decide)) G.g_side G.f_side.kp (bi_side G) .nil (fun _ => .nil) (da_cons (de_var 6) (da_cons (de_var 3) da_nil))))))))) (fun _ _ _ _ _ => (de_var 5)) rfl) (dss_cons (ds_if (dt_cmp (od_eq hr.units) (de_bi cd_len G.fr_len bb_len (da_cons (de_var 4) da_nil)) de_int) (dss_one (ds_ret (DO.de (do_lst da_nil)))) dss_nil) (dss_cons (ds_setIx 1 hr.units (de_ix hr.units (de_var 4) de_int) de_int) (dss_cons (ds_expr (de_mt 2 md_append PySem.F.slot_list_append PySem.F.type_list_append (da_cons (de_ix hr.units (de_var 4) de_int) da_nil))) (dss_one (ds_set 3 sc_Flow_way_in.nd (de_call0 (ok_other_end G) (hr.mono (by decide)) G.g_other_end G.f_other_end.kp (bi_other_end G) .nil (fun _ => .nil) (da_cons (de_ix hr.units (de_attr 1 (de_var 0) G.cl1 G.na1_ties) (de_ix hr.units (de_var 4) de_int)) (da_cons (de_var 3) da_nil)))))))))) (dss_one (ds_ret (de_move 2)))))
abbrev N_Flow_ways : List Str := ["self", "row", "left", "found"]
abbrev c_Flow_ways : Cs := ⟨4, [2, 3], [], [0], []⟩
def lp_Flow_ways_1 : SF := (sQ (sX (fMt 3 appD (aC (fB tupleX (aC (fV 1) aN)) aN))) (sSet 1 (fMeI 1 "way_in" 2 F_Flow_way_in (fV 0) (aC (fS 2) aN))))
def tl_Flow_ways_1 : SF := (sQ (whD (fTst (f2 gtD (fB lenD (aC (fV 1) aN)) (fC (.int 0)))) lp_Flow_ways_1 64) (sR (fB tupleX (aC (fS 3) aN))))
def b_Flow_ways : SF := (sQ (sPar 2 3 (oB listX (aC (fCel 4 1 "gone" (fV 0)) aN)) (oLst aN)) (sQ (sSet 1 (fMeI 1 "way_in" 2 F_Flow_way_in (fV 0) (aC (fS 2) aN))) tl_Flow_ways_1))
def F_Flow_ways : FF := runFc c_Flow_ways 1 b_Flow_ways
theorem sc_Flow_ways : FnScope N_Flow_ways ["self"] (defScope (topM 11 5)) := ⟨rfl, rfl, rfl, by decide +kernel, rfl, by decide +kernel, by decide +kernel⟩
theorem bi_Flow_ways (G : Gl K mg C.cls ad fd) : Binds K (fd 13) ["self"] [] := G.f_Flow_ways.bindsN fun _ _ _ _ _ _ us hl => match us, hl with | [_], _ => rfl
theorem ok_Flow_ways (G : Gl K mg C.cls ad fd) : FnOk P w K mg base CX0 3 (ad 13) (fd 13) ["self"] (spFc K C [] false 1 F_Flow_ways) :=
  fun_okC (N := N_Flow_ways) (ps := ["self"]) (m := false) c_Flow_ways G.f_Flow_ways sc_Flow_ways b_Flow_ways rfl (by decide) (by decide) (fun h => nomatch h) fun cdv A outer s H E hr => (dss_cons (ds_par (oi := true) (oj := true) 2 3 sc_Flow_ways.nd ⟨by decide, by decide⟩ ⟨by decide, by decide⟩ (DO.dx (do_ty (co_listX rfl) G.fr_list bb_list (da_cons (de_cel 1 (de_var 0) G.cl1 G.na1_gone) da_nil))) (DO.dx (do_lst da_nil))) (dss_cons (ds_set 1 sc_Flow_ways.nd (de_meI 1 (de_var 0) G.cl1 G.me1_way_in (ok_Flow_way_in G) (hr.mono (by decide)) (bi_Flow_way_in G) (da_cons (de_slot 2) da_nil))) (dss_cons (ds_while 64 PassesOwn.never (dt_cmp od_gt (de_bi cd_len G.fr_len bb_len (da_cons (de_var 1) da_nil)) de_int) (dss_cons (ds_expr (de_mt 3 md_append PySem.F.slot_list_append PySem.F.type_list_append (da_cons (de_ty (cd_tupleX rfl) G.fr_tuple bb_tuple (da_cons (de_var 1) da_nil)) da_nil))) (dss_one (ds_set 1 sc_Flow_ways.nd (de_meI 1 (de_var 0) G.cl1 G.me1_way_in (ok_Flow_way_in G) (hr.mono (by decide)) (bi_Flow_way_in G) (da_cons (de_slot 2) da_nil)))))) (dss_one (ds_ret (de_ty (cd_tupleX rfl) G.fr_tuple bb_tuple (da_cons (de_slot 3) da_nil)))))))
abbrev N_ways : List Str := ["net", "a", "b"]
abbrev c_ways : Cs := ⟨3, [], [], [], []⟩
def b_ways : SF := (sR (fRunV 1 4 "gone" "widest" "ways" F_Flow___init__ F_Flow_widest F_Flow_ways (aC (fV 0) (aC (fV 1) (aC (fV 2) aN)))))
def F_ways : FF := runF c_ways b_ways
theorem sc_ways : FnScope N_ways ["net", "a", "b"] (defScope (top 12)) := ⟨rfl, rfl, rfl, by decide +kernel, rfl, by decide +kernel, by decide +kernel⟩
theorem bi_ways (G : Gl K mg C.cls ad fd) : Binds K (fd 15) ["net", "a", "b"] [] := G.f_ways.bindsN fun _ _ _ _ _ _ us hl => match us, hl with | [_, _, _], _ => rfl
theorem ok_ways (G : Gl K mg C.cls ad fd) (nc : C.cel 0 = none) : FnOk P w K mg base CX0 6 (ad 15) (fd 15) ["net", "a", "b"] (spF K C [] false 3 F_ways) :=
  fun_ok (N := N_ways) (ps := ["net", "a", "b"]) (m := false) c_ways G.f_ways sc_ways b_ways rfl (by decide) (by decide) (fun h => nomatch h) fun cdv A outer s H E hr => (dss_one (ds_ret (de_run 1 nc G.mk1 (ok_Flow___init__ G) (hr.mono (by decide)) G.gc1 (bi_Flow___init__ G) (da_cons (de_var 0) (da_cons (de_var 1) (da_cons (de_var 2) da_nil))) G.cl1 G.me1_widest (fun b => ok_Flow_widest (C := C.at b) G) (hr.mono (by decide)) (bi_Flow_widest G) G.me1_ways (fun b => ok_Flow_ways (C := C.at b) G) (hr.mono (by decide)) (bi_Flow_ways G))))
abbrev N_cut_between : List Str := ["net", "a", "b", "post"]
abbrev c_cut_between : Cs := ⟨4, [], [], [], []⟩
def b_cut_between : SF := (sR (fB tupleX (aC (fO (oB sortedD (aC (fO (oLc (iX (fRunV 1 4 "gone" "widest" "reached" F_Flow___init__ F_Flow_widest F_Flow_reached (aC (fV 0) (aC (fV 1) (aC (fV 2) aN))))) (gN 3) tYesF (fB intD (aC (fV 3) aN)) [3])) aN))) aN)))
def F_cut_between : FF := runF c_cut_between b_cut_between
theorem sc_cut_between : FnScope N_cut_between ["net", "a", "b"] (defScope (top 13)) := ⟨rfl, rfl, rfl, by decide +kernel, rfl, by decide +kernel, by decide +kernel⟩
theorem bi_cut_between (G : Gl K mg C.cls ad fd) : Binds K (fd 16) ["net", "a", "b"] [] := G.f_cut_between.bindsN fun _ _ _ _ _ _ us hl => match us, hl with | [_, _, _], _ => rfl
theorem ok_cut_between (G : Gl K mg C.cls ad fd) (nc : C.cel 0 = none) : FnOk P w K mg base CX0 6 (ad 16) (fd 16) ["net", "a", "b"] (spF K C [] false 3 F_cut_between) :=
  fun_ok (N := N_cut_between) (ps := ["net", "a", "b"]) (m := false) c_cut_between G.f_cut_between sc_cut_between b_cut_between rfl (by decide) (by decide) (fun h => nomatch h) fun cdv A outer s H E hr => (dss_one (ds_ret (de_ty (cd_tupleX rfl) G.fr_tuple bb_tuple (da_cons (DO.de (do_bi (co_sortedD hr.units) G.fr_sorted bb_sorted (da_cons (DO.de (do_lc [("post", 3)] sc_cut_between.nd (di_seq (de_run 1 nc G.mk1 (ok_Flow___init__ G) (hr.mono (by decide)) G.gc1 (bi_Flow___init__ G) (da_cons (de_var 0) (da_cons (de_var 1) (da_cons (de_var 2) da_nil))) G.cl1 G.me1_widest (fun b => ok_Flow_widest (C := C.at b) G) (hr.mono (by decide)) (bi_Flow_widest G) G.me1_reached (fun b => ok_Flow_reached (C := C.at b) G) (hr.mono (by decide)) (bi_Flow_reached G))) (blkOk_by (by kernel_rfl)) (fun _ _ _ _ _ => (dg_name 3 sc_cut_between.nd)) (fun _ _ _ _ _ => dts_nil) (fun _ _ _ _ _ => (de_ty cd_int G.fr_int bb_int (da_cons (de_var 3) da_nil))))) da_nil))) da_nil))))
abbrev N_paper : List Str := ["net", "k", "found", "post", "some"]
abbrev c_paper : Cs := ⟨5, [], [], [], []⟩
def b_paper : SF := (sQ (sSet 2 (fB tupleX (aC (fO (oLc (iR2 (aC (fC (.int 1)) (aC (fAt 0 "posts" (fV 0)) aN))) (gN 3) tYesF (fC0 3 F_ways [] (aC (fV 0) (aC (fC (.int 0)) (aC (fV 3) aN)))) [3])) aN))) (sR (fIf (fTst (fB allD (aC (fO (oLc (iX (fV 2)) (gN 4) tYesF (f2 gtD (fB lenD (aC (fV 4) aN)) (fV 1)) [4])) aN))) (fV 2) (fC .non))))
def F_paper : FF := runF c_paper b_paper
theorem sc_paper : FnScope N_paper ["net", "k"] (defScope (top 14)) := ⟨rfl, rfl, rfl, by decide +kernel, rfl, by decide +kernel, by decide +kernel⟩
theorem bi_paper (G : Gl K mg C.cls ad fd) : Binds K (fd 17) ["net", "k"] [] := G.f_paper.bindsN fun _ _ _ _ _ _ us hl => match us, hl with | [_, _], _ => rfl
theorem ok_paper (G : Gl K mg C.cls ad fd) (nc : C.cel 0 = none) : FnOk P w K mg base CX0 7 (ad 17) (fd 17) ["net", "k"] (spF K C [] false 2 F_paper) :=
  fun_ok (N := N_paper) (ps := ["net", "k"]) (m := false) c_paper G.f_paper sc_paper b_paper rfl (by decide) (by decide) (fun h => nomatch h) fun cdv A outer s H E hr => (dss_cons (ds_set 2 sc_paper.nd (de_ty (cd_tupleX rfl) G.fr_tuple bb_tuple (da_cons (DO.de (do_lc [("post", 3)] sc_paper.nd (di_range2 G.fr_range (da_cons de_int (da_cons (de_attr 0 (de_var 0) G.cl0 G.na0_posts) da_nil))) (blkOk_by (by kernel_rfl)) (fun _ _ _ _ _ => (dg_name 3 sc_paper.nd)) (fun _ _ _ _ _ => dts_nil) (fun _ _ _ _ _ => (de_call0 (ok_ways G nc) (hr.mono (by decide)) G.g_ways G.f_ways.kp (bi_ways G) .nil (fun _ => .nil) (da_cons (de_var 0) (da_cons de_int (da_cons (de_var 3) da_nil))))))) da_nil))) (dss_one (ds_ret (de_if (dt_val (de_bi (cd_all rfl) G.fr_all bb_all (da_cons (DO.de (do_lc [("some", 4)] sc_paper.nd (di_seq (de_var 2)) (blkOk_by (by kernel_rfl)) (fun _ _ _ _ _ => (dg_name 4 sc_paper.nd)) (fun _ _ _ _ _ => dts_nil) (fun _ _ _ _ _ => (de_cmp od_gt (de_bi cd_len G.fr_len bb_len (da_cons (de_var 4) da_nil)) (de_var 1))))) da_nil))) (de_var 2) de_non))))
abbrev N_Net___len__ : List Str := ["self"]
abbrev c_Net___len__ : Cs := ⟨1, [], [], [], []⟩
def b_Net___len__ : SF := (sR (fB lenD (aC (fAt 0 "ties" (fV 0)) aN)))
def F_Net___len__ : FF := runF c_Net___len__ b_Net___len__
theorem sc_Net___len__ : FnScope N_Net___len__ ["self"] (defScope (topM 62 9)) := ⟨rfl, rfl, rfl, by decide +kernel, rfl, by decide +kernel, by decide +kernel⟩
theorem bi_Net___len__ (G : Gl K mg C.cls ad fd) : Binds K (fd 68) ["self"] [] := G.f_Net___len__.bindsN fun _ _ _ _ _ _ us hl => match us, hl with | [_], _ => rfl
theorem ok_Net___len__ (G : Gl K mg C.cls ad fd) : FnOk P w K mg base CX0 1 (ad 68) (fd 68) ["self"] (spF K C [] false 1 F_Net___len__) :=
  fun_ok (N := N_Net___len__) (ps := ["self"]) (m := false) c_Net___len__ G.f_Net___len__ sc_Net___len__ b_Net___len__ rfl (by decide) (by decide) (fun h => nomatch h) fun cdv A outer s H E hr => (dss_one (ds_ret (de_bi cd_len G.fr_len bb_len (da_cons (de_attr 0 (de_var 0) G.cl0 G.na0_ties) da_nil))))
abbrev N_are_ties_papers : List Str := ["net", "value", "spot", "at"]
abbrev c_are_ties_papers : Cs := ⟨4, [], [], [], []⟩
def b_are_ties_papers : SF := (sQ (sIf (fOr (fNot (fTst (fIs "tuple" (fV 1)))) (fNot (fTst (fB allD (aC (fO (oLc (iX (fV 1)) (gN 3) tYesF (fAndV (fC0 1 F_is_integer [] (aC (fV 3) aN)) (fCh leD ltD (fC (.int 0)) (fV 3) (fLenO 0 F_Net___len__ (fV 0)))) [3])) aN))))) (sR (fC (.bl false))) sN) (sR (fB allD (aC (fO (oLc (iEn (fV 1)) (gT 2 (gC (gN 2) (gC (gN 3) gN0))) tYesF (f2 notInD (fV 3) (fSlc (fV 1) pN (pI (fV 2)))) [2, 3])) aN))))
def F_are_ties_papers : FF := runF c_are_ties_papers b_are_ties_papers
theorem sc_are_ties_papers : FnScope N_are_ties_papers ["net", "value"] (defScope (top 15)) := ⟨rfl, rfl, rfl, by decide +kernel, rfl, by decide +kernel, by decide +kernel⟩
theorem bi_are_ties_papers (G : Gl K mg C.cls ad fd) : Binds K (fd 19) ["net", "value"] [] := G.f_are_ties_papers.bindsN fun _ _ _ _ _ _ us hl => match us, hl with | [_, _], _ => rfl
theorem ok_are_ties_papers (G : Gl K mg C.cls ad fd) : FnOk P w K mg base CX0 3 (ad 19) (fd 19) ["net", "value"] (spF K C [] false 2 F_are_ties_papers) :=
  fun_ok (N := N_are_ties_papers) (ps := ["net", "value"]) (m := false) c_are_ties_papers G.f_are_ties_papers sc_are_ties_papers b_are_ties_papers rfl (by decide) (by decide) (fun h => nomatch h) fun cdv A outer s H E hr => (dss_cons (ds_if (DW.dt (dw_or (dt_not (dt_val (de_isinst "tuple" (by simp [isTN]) (de_var 1) G.fr_isinstance G.fr_tuple bb_tuple))) (dw_or1 (dt_not (dt_val (de_bi (cd_all rfl) G.fr_all bb_all (da_cons (DO.de (do_lc [("at", 3)] sc_are_ties_papers.nd (di_seq (de_var 1)) (blkOk_by (by kernel_rfl)) (fun _ _ _ _ _ => (dg_name 3 sc_are_ties_papers.nd)) (fun _ _ _ _ _ => dts_nil) (fun _ _ _ _ _ => (de_and (de_call0 (ok_is_integer G) (hr.mono (by decide)) G.g_is_integer G.f_is_integer.kp (bi_is_integer G) .nil (fun _ => .nil) (da_cons (de_var 3) da_nil)) (de_one (de_chain od_le od_lt de_int (de_var 3) (de_lenO 0 (de_var 0) G.me0___len__ (ok_Net___len__ G) (hr.mono (by decide)) (bi_Net___len__ G) G.fr_len bb_len))))))) da_nil))))))) (dss_one (ds_ret de_bl)) dss_nil) (dss_one (ds_ret (de_bi (cd_all rfl) G.fr_all bb_all (da_cons (DO.de (do_lc [("spot", 2), ("at", 3)] sc_are_ties_papers.nd (di_enum G.fr_enumerate (de_var 1)) (blkOk_by (by kernel_rfl)) (fun _ _ _ _ _ => (dg_tup 2 (dgs_cons (dg_name 2 sc_are_ties_papers.nd) (dgs_cons (dg_name 3 sc_are_ties_papers.nd) dgs_nil)))) (fun _ _ _ _ _ => dts_nil) (fun _ _ _ _ _ => (de_cmp (od_notin hr.units) (de_var 3) (de_slc (de_var 1) dp_none (dp_some (de_var 2))))))) da_nil)))))
abbrev N_Net_need_tie : List Str := ["self", "at"]
abbrev c_Net_need_tie : Cs := ⟨2, [], [], [], []⟩
def b_Net_need_tie : SF := (sIf (fOr (fNot (fTst (fC0 1 F_is_number [] (aC (fV 1) aN)))) (fTst (f2 geD (fV 1) (fB lenD (aC (fAt 0 "ties" (fV 0)) aN))))) (fun _ => none) sN)
def F_Net_need_tie : FF := runF c_Net_need_tie b_Net_need_tie
theorem sc_Net_need_tie : FnScope N_Net_need_tie ["self", "at"] (defScope (topM 62 2)) := ⟨rfl, rfl, rfl, by decide +kernel, rfl, by decide +kernel, by decide +kernel⟩
theorem bi_Net_need_tie (G : Gl K mg C.cls ad fd) : Binds K (fd 61) ["self", "at"] [] := G.f_Net_need_tie.bindsN fun _ _ _ _ _ _ us hl => match us, hl with | [_, _], _ => rfl
theorem ok_Net_need_tie (G : Gl K mg C.cls ad fd) : FnOk P w K mg base CX0 3 (ad 61) (fd 61) ["self", "at"] (spF K C [] false 2 F_Net_need_tie) :=
  fun_ok (N := N_Net_need_tie) (ps := ["self", "at"]) (m := false) c_Net_need_tie G.f_Net_need_tie sc_Net_need_tie b_Net_need_tie rfl (by decide) (by decide) (fun h => nomatch h) fun cdv A outer s H E hr => (dss_one (ds_if (DW.dt (dw_or (dt_not (dt_val (de_call0 (ok_is_number G) (hr.mono (by decide)) G.g_is_number G.f_is_number.kp (bi_is_number G) .nil (fun _ => .nil) (da_cons (de_var 1) da_nil)))) (dw_or1 (dt_cmp od_ge (de_var 1) (de_bi cd_len G.fr_len bb_len (da_cons (de_attr 0 (de_var 0) G.cl0 G.na0_ties) da_nil)))))) (dss_one ds_never) dss_nil))
abbrev N_Net___getitem__ : List Str := ["self", "at"]
abbrev c_Net___getitem__ : Cs := ⟨2, [], [], [], []⟩
def b_Net___getitem__ : SF := (sQ (sX (fMe 0 "need_tie" 2 F_Net_need_tie [] (fV 0) (aC (fV 1) aN))) (sR (f2 subSc (fAt 0 "ties" (fV 0)) (fV 1))))
def F_Net___getitem__ : FF := runF c_Net___getitem__ b_Net___getitem__
theorem sc_Net___getitem__ : FnScope N_Net___getitem__ ["self", "at"] (defScope (topM 62 10)) := ⟨rfl, rfl, rfl, by decide +kernel, rfl, by decide +kernel, by decide +kernel⟩
theorem bi_Net___getitem__ (G : Gl K mg C.cls ad fd) : Binds K (fd 69) ["self", "at"] [] := G.f_Net___getitem__.bindsN fun _ _ _ _ _ _ us hl => match us, hl with | [_, _], _ => rfl
theorem ok_Net___getitem__ (G : Gl K mg C.cls ad fd) : FnOk P w K mg base CX0 4 (ad 69) (fd 69) ["self", "at"] (spF K C [] false 2 F_Net___getitem__) :=
  fun_ok (N := N_Net___getitem__) (ps := ["self", "at"]) (m := false) c_Net___getitem__ G.f_Net___getitem__ sc_Net___getitem__ b_Net___getitem__ rfl (by decide) (by decide) (fun h => nomatch h) fun cdv A outer s H E hr => (dss_cons (ds_expr (de_meth 0 (de_var 0) G.cl0 G.me0_need_tie (ok_Net_need_tie G) (hr.mono (by decide)) (bi_Net_need_tie G) .nil (fun _ => .nil) (da_cons (de_var 1) da_nil))) (dss_one (ds_ret (de_ix hr.units (de_attr 0 (de_var 0) G.cl0 G.na0_ties) (de_var 1)))))
abbrev N_leads : List Str := ["net", "way", "goal", "post", "at"]
abbrev c_leads : Cs := ⟨5, [], [], [], []⟩
def lp_leads_1 : SF := (sQ (sIf (fTst (f2 notInD (fV 3) (fIxO 0 F_Net___getitem__ (fV 0) (fV 4)))) (sR (fC (.bl false))) sN) (sSet 3 (fC0 2 F_other_end [] (aC (fIxO 0 F_Net___getitem__ (fV 0) (fV 4)) (aC (fV 3) aN)))))
def tl_leads_1 : SF := (sQ (sFor (iX (fV 1)) (gN 4) lp_leads_1) (sR (f2 eqD (fV 3) (fV 2))))
def b_leads : SF := (sQ (sSet 3 (fC (.int 0))) tl_leads_1)
def F_leads : FF := runF c_leads b_leads
theorem sc_leads : FnScope N_leads ["net", "way", "goal"] (defScope (top 17)) := ⟨rfl, rfl, rfl, by decide +kernel, rfl, by decide +kernel, by decide +kernel⟩
theorem bi_leads (G : Gl K mg C.cls ad fd) : Binds K (fd 20) ["net", "way", "goal"] [] := G.f_leads.bindsN fun _ _ _ _ _ _ us hl => match us, hl with | [_, _, _], _ => rfl
theorem ok_leads (G : Gl K mg C.cls ad fd) : FnOk P w K mg base CX0 6 (ad 20) (fd 20) ["net", "way", "goal"] (spF K C [] false 3 F_leads) :=
  fun_ok (N := N_leads) (ps := ["net", "way", "goal"]) (m := false) c_leads G.f_leads sc_leads b_leads rfl (by decide) (by decide) (fun h => nomatch h) fun cdv A outer s H E hr => (dss_cons (ds_set 3 sc_leads.nd de_int) (dss_cons (ds_for PassesOwn.never (di_seq (de_var 1)) (dg_name 4 sc_leads.nd) (dss_cons (ds_if (dt_cmp (od_notin hr.units) (de_var 3) (de_ixO 0 (de_var 0) (de_var 4) G.me0___getitem__ (DL.FunD.fi G.f_Net___getitem__) (ok_Net___getitem__ G) (hr.mono (by decide)) (bi_Net___getitem__ G))) (dss_one (ds_ret de_bl)) dss_nil) (dss_one (ds_set 3 sc_leads.nd (de_call0 (ok_other_end G) (hr.mono (by decide)) G.g_other_end G.f_other_end.kp (bi_other_end G) .nil (fun _ => .nil) (da_cons (de_ixO 0 (de_var 0) (de_var 4) G.me0___getitem__ (DL.FunD.fi G.f_Net___getitem__) (ok_Net___getitem__ G) (hr.mono (by decide)) (bi_Net___getitem__ G)) (da_cons (de_var 3) da_nil))))))) (dss_one (ds_ret (de_cmp (od_eq hr.units) (de_var 3) (de_var 2))))))
abbrev N_are_apart : List Str := ["net", "k", "value", "goal", "every", "way", "at"]
abbrev c_are_apart : Cs := ⟨7, [], [], [], []⟩
def b_are_apart : SF := (sQ (sIf (fOr (fNot (fTst (fIs "tuple" (fV 2)))) (fOr (fTst (f2 leD (fB lenD (aC (fV 2) aN)) (fV 1))) (fNot (fTst (fB allD (aC (fO (oLc (iX (fV 2)) (gN 5) tYesF (fC0 2 F_are_ties_papers [] (aC (fV 0) (aC (fV 5) aN))) [5])) aN)))))) (sR (fC (.bl false))) sN) (sQ (sSet 4 (fB tupleX (aC (fO (oLc2 (iX (fV 2)) (gN 5) (iX (fV 5)) (gN 6) tYesF (fV 6) [5, 6] [6])) aN))) (sR (fAndV (fC0 2 F_are_ties_papers [] (aC (fV 0) (aC (fV 4) aN))) (fB allD (aC (fO (oLc (iX (fV 2)) (gN 5) tYesF (fC0 3 F_leads [] (aC (fV 0) (aC (fV 5) (aC (fV 3) aN)))) [5])) aN))))))
def F_are_apart : FF := runF c_are_apart b_are_apart
theorem sc_are_apart : FnScope N_are_apart ["net", "k", "value", "goal"] (defScope (top 18)) := ⟨rfl, rfl, rfl, by decide +kernel, rfl, by decide +kernel, by decide +kernel⟩
theorem bi_are_apart (G : Gl K mg C.cls ad fd) : Binds K (fd 21) ["net", "k", "value", "goal"] [] := G.f_are_apart.bindsN fun _ _ _ _ _ _ us hl => match us, hl with | [_, _, _, _], _ => rfl
theorem ok_are_apart (G : Gl K mg C.cls ad fd) : FnOk P w K mg base CX0 7 (ad 21) (fd 21) ["net", "k", "value", "goal"] (spF K C [] false 4 F_are_apart) :=
  fun_ok (N := N_are_apart) (ps := ["net", "k", "value", "goal"]) (m := false) c_are_apart G.f_are_apart sc_are_apart b_are_apart rfl (by decide) (by decide) (fun h => nomatch h) fun cdv A outer s H E hr => (dss_cons (ds_if (DW.dt (dw_or (dt_not (dt_val (de_isinst "tuple" (by simp [isTN]) (de_var 2) G.fr_isinstance G.fr_tuple bb_tuple))) (dw_or (dt_cmp od_le (de_bi cd_len G.fr_len bb_len (da_cons (de_var 2) da_nil)) (de_var 1)) (dw_or1 (dt_not (dt_val (de_bi (cd_all rfl) G.fr_all bb_all (da_cons (DO.de (do_lc [("way", 5)] sc_are_apart.nd (di_seq (de_var 2)) (blkOk_by (by kernel_rfl)) (fun _ _ _ _ _ => (dg_name 5 sc_are_apart.nd)) (fun _ _ _ _ _ => dts_nil) (fun _ _ _ _ _ => (de_call0 (ok_are_ties_papers G) (hr.mono (by decide)) G.g_are_ties_papers G.f_are_ties_papers.kp (bi_are_ties_papers G) .nil (fun _ => .nil) (da_cons (de_var 0) (da_cons (de_var 5) da_nil)))))) da_nil)))))))) (dss_one (ds_ret de_bl)) dss_nil) (dss_cons (ds_set 4 sc_are_apart.nd (de_ty (cd_tupleX rfl) G.fr_tuple bb_tuple (da_cons (DO.de (do_lc2 [("way", 5), ("at", 6)] [6] sc_are_apart.nd (di_seq (de_var 2)) (blkOk_by (by kernel_rfl)) (fun _ _ _ _ _ => (dg_name 5 sc_are_apart.nd)) (fun _ _ _ _ _ => (di_seq (de_var 5))) (fun _ _ _ _ _ => (dg_name 6 sc_are_apart.nd)) (fun _ _ _ _ _ => dts_nil) (fun _ _ _ _ _ => (de_var 6)))) da_nil))) (dss_one (ds_ret (de_and (de_call0 (ok_are_ties_papers G) (hr.mono (by decide)) G.g_are_ties_papers G.f_are_ties_papers.kp (bi_are_ties_papers G) .nil (fun _ => .nil) (da_cons (de_var 0) (da_cons (de_var 4) da_nil))) (de_one (de_bi (cd_all rfl) G.fr_all bb_all (da_cons (DO.de (do_lc [("way", 5)] sc_are_apart.nd (di_seq (de_var 2)) (blkOk_by (by kernel_rfl)) (fun _ _ _ _ _ => (dg_name 5 sc_are_apart.nd)) (fun _ _ _ _ _ => dts_nil) (fun _ _ _ _ _ => (de_call0 (ok_leads G) (hr.mono (by decide)) G.g_leads G.f_leads.kp (bi_leads G) .nil (fun _ => .nil) (da_cons (de_var 0) (da_cons (de_var 5) (da_cons (de_var 3) da_nil))))))) da_nil))))))))
abbrev N_paper_holds : List Str := ["net", "k", "value", "at", "some"]
abbrev c_paper_holds : Cs := ⟨5, [], [], [], []⟩
def b_paper_holds : SF := (sQ (sIf (fOr (fNot (fTst (fIs "tuple" (fV 2)))) (fTst (f2 neD (fB lenD (aC (fV 2) aN)) (f2 subD (fAt 0 "posts" (fV 0)) (fC (.int 1)))))) (sR (fC (.bl false))) sN) (sR (fB allD (aC (fO (oLc (iEn (fV 2)) (gT 2 (gC (gN 3) (gC (gN 4) gN0))) tYesF (fC0 4 F_are_apart [] (aC (fV 0) (aC (fV 1) (aC (fV 4) (aC (f2 addD (fV 3) (fC (.int 1))) aN))))) [3, 4])) aN))))
def F_paper_holds : FF := runF c_paper_holds b_paper_holds
theorem sc_paper_holds : FnScope N_paper_holds ["net", "k", "value"] (defScope (top 19)) := ⟨rfl, rfl, rfl, by decide +kernel, rfl, by decide +kernel, by decide +kernel⟩
theorem ok_paper_holds (G : Gl K mg C.cls ad fd) : FnOk P w K mg base CX0 8 (ad 22) (fd 22) ["net", "k", "value"] (spF K C [] false 3 F_paper_holds) :=
  fun_ok (N := N_paper_holds) (ps := ["net", "k", "value"]) (m := false) c_paper_holds G.f_paper_holds sc_paper_holds b_paper_holds rfl (by decide) (by decide) (fun h => nomatch h) fun cdv A outer s H E hr => (dss_cons (ds_if (DW.dt (dw_or (dt_not (dt_val (de_isinst "tuple" (by simp [isTN]) (de_var 2) G.fr_isinstance G.fr_tuple bb_tuple))) (dw_or1 (dt_cmp (od_ne hr.units) (de_bi cd_len G.fr_len bb_len (da_cons (de_var 2) da_nil)) (de_op od_sub (de_attr 0 (de_var 0) G.cl0 G.na0_posts) de_int))))) (dss_one (ds_ret de_bl)) dss_nil) (dss_one (ds_ret (de_bi (cd_all rfl) G.fr_all bb_all (da_cons (DO.de (do_lc [("at", 3), ("some", 4)] sc_paper_holds.nd (di_enum G.fr_enumerate (de_var 2)) (blkOk_by (by kernel_rfl)) (fun _ _ _ _ _ => (dg_tup 2 (dgs_cons (dg_name 3 sc_paper_holds.nd) (dgs_cons (dg_name 4 sc_paper_holds.nd) dgs_nil)))) (fun _ _ _ _ _ => dts_nil) (fun _ _ _ _ _ => (de_call0 (ok_are_apart G) (hr.mono (by decide)) G.g_are_apart G.f_are_apart.kp (bi_are_apart G) .nil (fun _ => .nil) (da_cons (de_var 0) (da_cons (de_var 1) (da_cons (de_var 4) (da_cons (de_op od_add (de_var 3) de_int) da_nil)))))))) da_nil)))))
abbrev N_need_groups : List Str := ["net", "groups", "at", "group"]
abbrev c_need_groups : Cs := ⟨4, [], [], [], []⟩
def lp_need_groups_1 : SF := (sIf (fNot (fTst (fC0 1 F_is_number [] (aC (fV 3) aN)))) (fun _ => none) sN)
def b_need_groups : SF := (sQ (sIf (fOr (fNot (fTst (fC0 1 F_is_sequence [] (aC (fV 1) aN)))) (fTst (f2 neD (fB lenD (aC (fV 1) aN)) (fLenO 0 F_Net___len__ (fV 0))))) (fun _ => none) sN) (sFor (iEn (fV 1)) (gT 2 (gC (gN 2) (gC (gN 3) gN0))) lp_need_groups_1))
def F_need_groups : FF := runF c_need_groups b_need_groups
theorem sc_need_groups : FnScope N_need_groups ["net", "groups"] (defScope (top 71)) := ⟨rfl, rfl, rfl, by decide +kernel, rfl, by decide +kernel, by decide +kernel⟩
theorem bi_need_groups (G : Gl K mg C.cls ad fd) : Binds K (fd 81) ["net", "groups"] [] := G.f_need_groups.bindsN fun _ _ _ _ _ _ us hl => match us, hl with | [_, _], _ => rfl
theorem ok_need_groups (G : Gl K mg C.cls ad fd) : FnOk P w K mg base CX0 3 (ad 81) (fd 81) ["net", "groups"] (spF K C [] false 2 F_need_groups) :=
  fun_ok (N := N_need_groups) (ps := ["net", "groups"]) (m := false) c_need_groups G.f_need_groups sc_need_groups b_need_groups rfl (by decide) (by decide) (fun h => nomatch h) fun cdv A outer s H E hr => (dss_cons (ds_if (DW.dt (dw_or (dt_not (dt_val (de_call0 (ok_is_sequence G) (hr.mono (by decide)) G.g_is_sequence G.f_is_sequence.kp (bi_is_sequence G) .nil (fun _ => .nil) (da_cons (de_var 1) da_nil)))) (dw_or1 (dt_cmp (od_ne hr.units) (de_bi cd_len G.fr_len bb_len (da_cons (de_var 1) da_nil)) (de_lenO 0 (de_var 0) G.me0___len__ (ok_Net___len__ G) (hr.mono (by decide)) (bi_Net___len__ G) G.fr_len bb_len))))) (dss_one ds_never) dss_nil) (dss_one (ds_for PassesOwn.never (di_enum G.fr_enumerate (de_var 1)) (dg_tup 2 (dgs_cons (dg_name 2 sc_need_groups.nd) (dgs_cons (dg_name 3 sc_need_groups.nd) dgs_nil))) (dss_one (ds_if (dt_not (dt_val (de_call0 (ok_is_number G) (hr.mono (by decide)) G.g_is_number G.f_is_number.kp (bi_is_number G) .nil (fun _ => .nil) (da_cons (de_var 3) da_nil)))) (dss_one ds_never) dss_nil)))))
abbrev N_all_lots : List Str := ["n", "found", "bits", "lot", "post"]
abbrev c_all_lots : Cs := ⟨5, [1], [], [], []⟩
def lp_all_lots_1 : SF := (sX (fMt 1 appD (aC (fO (oLc (iR1 (aC (fV 0) aN)) (gN 4) (fTst (f2 eqD (f2 andD (f2 shrD (fV 2) (fV 4)) (fC (.int 1))) (fC (.int 1)))) (fV 4) [4])) aN)))
def tl_all_lots_1 : SF := (sQ (sFor (iR2 (aC (fC (.int 1)) (aC (f2 subD (f2 shlD (fC (.int 1)) (fV 0)) (fC (.int 1))) aN))) (gN 2) lp_all_lots_1) (sR (fO (oLc (iX (fO (oB sortedD (aC (fS 1) aN)))) (gN 3) tYesF (fB tupleX (aC (fV 3) aN)) [3]))))
def b_all_lots : SF := (sQ (sSetO 1 (oLst aN)) tl_all_lots_1)
def F_all_lots : FF := runF c_all_lots b_all_lots
theorem sc_all_lots : FnScope N_all_lots ["n"] (defScope (top 21)) := ⟨rfl, rfl, rfl, by decide +kernel, rfl, by decide +kernel, by decide +kernel⟩
theorem bi_all_lots (G : Gl K mg C.cls ad fd) : Binds K (fd 23) ["n"] [] := G.f_all_lots.bindsN fun _ _ _ _ _ _ us hl => match us, hl with | [_], _ => rfl
theorem ok_all_lots (G : Gl K mg C.cls ad fd) : FnOk P w K mg base CX0 1 (ad 23) (fd 23) ["n"] (spF K C [] false 1 F_all_lots) :=
  fun_ok (N := N_all_lots) (ps := ["n"]) (m := false) c_all_lots G.f_all_lots sc_all_lots b_all_lots rfl (by decide) (by decide) (fun h => nomatch h) fun cdv A outer s H E hr => (dss_cons (ds_setO 1 sc_all_lots.nd (do_lst da_nil)) (dss_cons (ds_for PassesOwn.never (di_range2 G.fr_range (da_cons de_int (da_cons (de_op od_sub (de_op od_shl de_int (de_var 0)) de_int) da_nil))) (dg_name 2 sc_all_lots.nd) (dss_one (ds_expr (de_mt 1 md_append PySem.F.slot_list_append PySem.F.type_list_append (da_cons (DO.de (do_lc [("post", 4)] sc_all_lots.nd (di_range1 G.fr_range (da_cons (de_var 0) da_nil)) (blkOk_by (by kernel_rfl)) (fun _ _ _ _ _ => (dg_name 4 sc_all_lots.nd)) (fun _ _ _ _ _ => (dts_one (dt_cmp (od_eq hr.units) (de_op od_and (de_op od_shr (de_var 2) (de_var 4)) de_int) de_int))) (fun _ _ _ _ _ => (de_var 4)))) da_nil))))) (dss_one (ds_ret (DO.de (do_lc [("lot", 3)] sc_all_lots.nd (di_seq (DO.de (do_bi (co_sortedD hr.units) G.fr_sorted bb_sorted (da_cons (de_slot 1) da_nil)))) (blkOk_by (by kernel_rfl)) (fun _ _ _ _ _ => (dg_name 3 sc_all_lots.nd)) (fun _ _ _ _ _ => dts_nil) (fun _ _ _ _ _ => (de_ty (cd_tupleX rfl) G.fr_tuple bb_tuple (da_cons (de_var 3) da_nil)))))))))
abbrev N_lots_with_first : List Str := ["net", "lot"]
abbrev c_lots_with_first : Cs := ⟨2, [], [], [], []⟩
def b_lots_with_first : SF := (sR (fO (oLc (iX (fC0 1 F_all_lots [] (aC (fAt 0 "posts" (fV 0)) aN))) (gN 1) (fTst (f2 eqD (f2 subSc (fV 1) (fC (.int 0))) (fC (.int 0)))) (fV 1) [1])))
def F_lots_with_first : FF := runF c_lots_with_first b_lots_with_first
theorem sc_lots_with_first : FnScope N_lots_with_first ["net"] (defScope (top 22)) := ⟨rfl, rfl, rfl, by decide +kernel, rfl, by decide +kernel, by decide +kernel⟩
theorem bi_lots_with_first (G : Gl K mg C.cls ad fd) : Binds K (fd 24) ["net"] [] := G.f_lots_with_first.bindsN fun _ _ _ _ _ _ us hl => match us, hl with | [_], _ => rfl
theorem ok_lots_with_first (G : Gl K mg C.cls ad fd) : FnOk P w K mg base CX0 2 (ad 24) (fd 24) ["net"] (spF K C [] false 1 F_lots_with_first) :=
  fun_ok (N := N_lots_with_first) (ps := ["net"]) (m := false) c_lots_with_first G.f_lots_with_first sc_lots_with_first b_lots_with_first rfl (by decide) (by decide) (fun h => nomatch h) fun cdv A outer s H E hr => (dss_one (ds_ret (DO.de (do_lc [("lot", 1)] sc_lots_with_first.nd (di_seq (de_call0 (ok_all_lots G) (hr.mono (by decide)) G.g_all_lots G.f_all_lots.kp (bi_all_lots G) .nil (fun _ => .nil) (da_cons (de_attr 0 (de_var 0) G.cl0 G.na0_posts) da_nil))) (blkOk_by (by kernel_rfl)) (fun _ _ _ _ _ => (dg_name 1 sc_lots_with_first.nd)) (fun _ _ _ _ _ => (dts_one (dt_cmp (od_eq hr.units) (de_ix hr.units (de_var 1) de_int) de_int))) (fun _ _ _ _ _ => (de_var 1))))))
abbrev N_Net_across : List Str := ["self", "lot", "at", "one", "other"]
abbrev c_Net_across : Cs := ⟨5, [], [], [], []⟩
def b_Net_across : SF := (sR (fB tupleX (aC (fO (oLc (iEn (fAt 0 "ties" (fV 0))) (gT 2 (gC (gN 2) (gC (gT 2 (gC (gN 3) (gC (gN 4) gN0))) gN0))) (fTst (f2 neD (f2 inD (fV 3) (fV 1)) (f2 inD (fV 4) (fV 1)))) (fV 2) [2, 3, 4])) aN)))
def F_Net_across : FF := runF c_Net_across b_Net_across
theorem sc_Net_across : FnScope N_Net_across ["self", "lot"] (defScope (topM 62 6)) := ⟨rfl, rfl, rfl, by decide +kernel, rfl, by decide +kernel, by decide +kernel⟩
theorem bi_Net_across (G : Gl K mg C.cls ad fd) : Binds K (fd 65) ["self", "lot"] [] := G.f_Net_across.bindsN fun _ _ _ _ _ _ us hl => match us, hl with | [_, _], _ => rfl
theorem ok_Net_across (G : Gl K mg C.cls ad fd) : FnOk P w K mg base CX0 1 (ad 65) (fd 65) ["self", "lot"] (spF K C [] false 2 F_Net_across) :=
  fun_ok (N := N_Net_across) (ps := ["self", "lot"]) (m := false) c_Net_across G.f_Net_across sc_Net_across b_Net_across rfl (by decide) (by decide) (fun h => nomatch h) fun cdv A outer s H E hr => (dss_one (ds_ret (de_ty (cd_tupleX rfl) G.fr_tuple bb_tuple (da_cons (DO.de (do_lc [("at", 2), ("one", 3), ("other", 4)] sc_Net_across.nd (di_enum G.fr_enumerate (de_attr 0 (de_var 0) G.cl0 G.na0_ties)) (blkOk_by (by kernel_rfl)) (fun _ _ _ _ _ => (dg_tup 2 (dgs_cons (dg_name 2 sc_Net_across.nd) (dgs_cons (dg_tup 2 (dgs_cons (dg_name 3 sc_Net_across.nd) (dgs_cons (dg_name 4 sc_Net_across.nd) dgs_nil))) dgs_nil)))) (fun _ _ _ _ _ => (dts_one (dt_cmp (od_ne hr.units) (de_cmp (od_in hr.units) (de_var 3) (de_var 1)) (de_cmp (od_in hr.units) (de_var 4) (de_var 1))))) (fun _ _ _ _ _ => (de_var 2)))) da_nil))))
abbrev N_many_across : List Str := ["net", "groups", "lot", "at"]
abbrev c_many_across : Cs := ⟨4, [], [], [], []⟩
def b_many_across : SF := (sR (fB lenD (aC (fO (oDc (iX (fMe 0 "across" 2 F_Net_across [] (fV 0) (aC (fV 2) aN))) (gN 3) tYesF (f2 subSc (fV 1) (fV 3)) (fC (.bl true)) [3])) aN)))
def F_many_across : FF := runF c_many_across b_many_across
theorem sc_many_across : FnScope N_many_across ["net", "groups", "lot"] (defScope (top 72)) := ⟨rfl, rfl, rfl, by decide +kernel, rfl, by decide +kernel, by decide +kernel⟩
theorem bi_many_across (G : Gl K mg C.cls ad fd) : Binds K (fd 82) ["net", "groups", "lot"] [] := G.f_many_across.bindsN fun _ _ _ _ _ _ us hl => match us, hl with | [_, _, _], _ => rfl
theorem ok_many_across (G : Gl K mg C.cls ad fd) : FnOk P w K mg base CX0 2 (ad 82) (fd 82) ["net", "groups", "lot"] (spF K C [] false 3 F_many_across) :=
  fun_ok (N := N_many_across) (ps := ["net", "groups", "lot"]) (m := false) c_many_across G.f_many_across sc_many_across b_many_across rfl (by decide) (by decide) (fun h => nomatch h) fun cdv A outer s H E hr => (dss_one (ds_ret (de_bi cd_len G.fr_len bb_len (da_cons (DO.de (do_dc [("at", 3)] sc_many_across.nd (di_seq (de_meth 0 (de_var 0) G.cl0 G.me0_across (ok_Net_across G) (hr.mono (by decide)) (bi_Net_across G) .nil (fun _ => .nil) (da_cons (de_var 2) da_nil))) (blkOk_by (by kernel_rfl)) (fun _ _ _ _ _ => (dg_name 3 sc_many_across.nd)) (fun _ _ _ _ _ => dts_nil) (fun _ _ _ _ _ => (de_ix hr.units (de_var 1) (de_var 3))) (fun _ _ _ _ _ => de_bl))) da_nil))))
abbrev N_weak_lot : List Str := ["net", "groups", "found", "lot"]
abbrev c_weak_lot : Cs := ⟨4, [], [], [], []⟩
def lp_weak_lot_1 : SF := (sIf (fOr (fTst (f2 isND (fV 2) (fC .non))) (fTst (f2 ltD (fC0 3 F_many_across [] (aC (fV 0) (aC (fV 1) (aC (fV 3) aN)))) (fC0 3 F_many_across [] (aC (fV 0) (aC (fV 1) (aC (fV 2) aN))))))) (sSet 2 (fV 3)) sN)
def tl_weak_lot_1 : SF := (sQ (sFor (iX (fC0 1 F_lots_with_first [] (aC (fV 0) aN))) (gN 3) lp_weak_lot_1) (sR (fV 2)))
def b_weak_lot : SF := (sQ (sX (fC0 2 F_need_groups [] (aC (fV 0) (aC (fV 1) aN)))) (sQ (sSet 2 (fC .non)) tl_weak_lot_1))
def F_weak_lot : FF := runF c_weak_lot b_weak_lot
theorem sc_weak_lot : FnScope N_weak_lot ["net", "groups"] (defScope (top 73)) := ⟨rfl, rfl, rfl, by decide +kernel, rfl, by decide +kernel, by decide +kernel⟩
theorem bi_weak_lot (G : Gl K mg C.cls ad fd) : Binds K (fd 83) ["net", "groups"] [] := G.f_weak_lot.bindsN fun _ _ _ _ _ _ us hl => match us, hl with | [_, _], _ => rfl
theorem ok_weak_lot (G : Gl K mg C.cls ad fd) : FnOk P w K mg base CX0 4 (ad 83) (fd 83) ["net", "groups"] (spF K C [] false 2 F_weak_lot) :=
  fun_ok (N := N_weak_lot) (ps := ["net", "groups"]) (m := false) c_weak_lot G.f_weak_lot sc_weak_lot b_weak_lot rfl (by decide) (by decide) (fun h => nomatch h) fun cdv A outer s H E hr => (dss_cons (ds_expr (de_call0 (ok_need_groups G) (hr.mono (by decide)) G.g_need_groups G.f_need_groups.kp (bi_need_groups G) .nil (fun _ => .nil) (da_cons (de_var 0) (da_cons (de_var 1) da_nil)))) (dss_cons (ds_set 2 sc_weak_lot.nd de_non) (dss_cons (ds_for PassesOwn.never (di_seq (de_call0 (ok_lots_with_first G) (hr.mono (by decide)) G.g_lots_with_first G.f_lots_with_first.kp (bi_lots_with_first G) .nil (fun _ => .nil) (da_cons (de_var 0) da_nil))) (dg_name 3 sc_weak_lot.nd) (dss_one (ds_if (DW.dt (dw_or (dt_cmp od_isN (de_var 2) de_non) (dw_or1 (dt_cmp od_lt (de_call0 (ok_many_across G) (hr.mono (by decide)) G.g_many_across G.f_many_across.kp (bi_many_across G) .nil (fun _ => .nil) (da_cons (de_var 0) (da_cons (de_var 1) (da_cons (de_var 3) da_nil)))) (de_call0 (ok_many_across G) (hr.mono (by decide)) G.g_many_across G.f_many_across.kp (bi_many_across G) .nil (fun _ => .nil) (da_cons (de_var 0) (da_cons (de_var 1) (da_cons (de_var 2) da_nil)))))))) (dss_one (ds_set 2 sc_weak_lot.nd (de_var 3))) dss_nil))) (dss_one (ds_ret (de_var 2))))))
abbrev N_least_groups : List Str := ["net", "groups", "lot"]
abbrev c_least_groups : Cs := ⟨3, [], [], [], []⟩
def b_least_groups : SF := (sQ (sSet 2 (fC0 2 F_weak_lot [] (aC (fV 0) (aC (fV 1) aN)))) (sR (fIf (fTst (f2 isND (fV 2) (fC .non))) (fC .non) (fC0 3 F_many_across [] (aC (fV 0) (aC (fV 1) (aC (fV 2) aN)))))))
def F_least_groups : FF := runF c_least_groups b_least_groups
theorem sc_least_groups : FnScope N_least_groups ["net", "groups"] (defScope (top 74)) := ⟨rfl, rfl, rfl, by decide +kernel, rfl, by decide +kernel, by decide +kernel⟩
theorem bi_least_groups (G : Gl K mg C.cls ad fd) : Binds K (fd 84) ["net", "groups"] [] := G.f_least_groups.bindsN fun _ _ _ _ _ _ us hl => match us, hl with | [_, _], _ => rfl
theorem ok_least_groups (G : Gl K mg C.cls ad fd) : FnOk P w K mg base CX0 5 (ad 84) (fd 84) ["net", "groups"] (spF K C [] false 2 F_least_groups) :=
  fun_ok (N := N_least_groups) (ps := ["net", "groups"]) (m := false) c_least_groups G.f_least_groups sc_least_groups b_least_groups rfl (by decide) (by decide) (fun h => nomatch h) fun cdv A outer s H E hr => (dss_cons (ds_set 2 sc_least_groups.nd (de_call0 (ok_weak_lot G) (hr.mono (by decide)) G.g_weak_lot G.f_weak_lot.kp (bi_weak_lot G) .nil (fun _ => .nil) (da_cons (de_var 0) (da_cons (de_var 1) da_nil)))) (dss_one (ds_ret (de_if (dt_cmp od_isN (de_var 2) de_non) de_non (de_call0 (ok_many_across G) (hr.mono (by decide)) G.g_many_across G.f_many_across.kp (bi_many_across G) .nil (fun _ => .nil) (da_cons (de_var 0) (da_cons (de_var 1) (da_cons (de_var 2) da_nil))))))))
abbrev N_seen_groups : List Str := ["net", "groups", "few"]
abbrev c_seen_groups : Cs := ⟨3, [], [], [], []⟩
def b_seen_groups : SF := (sQ (sSet 2 (fC0 2 F_least_groups [] (aC (fV 0) (aC (fV 1) aN)))) (sR (fIf (fTst (f2 isND (fV 2) (fC .non))) (fC .non) (f2 subD (fV 2) (fC (.int 1))))))
def F_seen_groups : FF := runF c_seen_groups b_seen_groups
theorem sc_seen_groups : FnScope N_seen_groups ["net", "groups"] (defScope (top 75)) := ⟨rfl, rfl, rfl, by decide +kernel, rfl, by decide +kernel, by decide +kernel⟩
theorem bi_seen_groups (G : Gl K mg C.cls ad fd) : Binds K (fd 85) ["net", "groups"] [] := G.f_seen_groups.bindsN fun _ _ _ _ _ _ us hl => match us, hl with | [_, _], _ => rfl
theorem ok_seen_groups (G : Gl K mg C.cls ad fd) : FnOk P w K mg base CX0 6 (ad 85) (fd 85) ["net", "groups"] (spF K C [] false 2 F_seen_groups) :=
  fun_ok (N := N_seen_groups) (ps := ["net", "groups"]) (m := false) c_seen_groups G.f_seen_groups sc_seen_groups b_seen_groups rfl (by decide) (by decide) (fun h => nomatch h) fun cdv A outer s H E hr => (dss_cons (ds_set 2 sc_seen_groups.nd (de_call0 (ok_least_groups G) (hr.mono (by decide)) G.g_least_groups G.f_least_groups.kp (bi_least_groups G) .nil (fun _ => .nil) (da_cons (de_var 0) (da_cons (de_var 1) da_nil)))) (dss_one (ds_ret (de_if (dt_cmp od_isN (de_var 2) de_non) de_non (de_op od_sub (de_var 2) de_int)))))
abbrev N_told_groups : List Str := ["net", "groups", "few"]
abbrev c_told_groups : Cs := ⟨3, [], [], [], []⟩
def b_told_groups : SF := (sQ (sSet 2 (fC0 2 F_least_groups [] (aC (fV 0) (aC (fV 1) aN)))) (sR (fIf (fTst (f2 isND (fV 2) (fC .non))) (fC .non) (f2 fdivD (f2 subD (fV 2) (fC (.int 1))) (fC (.int 2))))))
def F_told_groups : FF := runF c_told_groups b_told_groups
theorem sc_told_groups : FnScope N_told_groups ["net", "groups"] (defScope (top 76)) := ⟨rfl, rfl, rfl, by decide +kernel, rfl, by decide +kernel, by decide +kernel⟩
theorem bi_told_groups (G : Gl K mg C.cls ad fd) : Binds K (fd 86) ["net", "groups"] [] := G.f_told_groups.bindsN fun _ _ _ _ _ _ us hl => match us, hl with | [_, _], _ => rfl
theorem ok_told_groups (G : Gl K mg C.cls ad fd) : FnOk P w K mg base CX0 6 (ad 86) (fd 86) ["net", "groups"] (spF K C [] false 2 F_told_groups) :=
  fun_ok (N := N_told_groups) (ps := ["net", "groups"]) (m := false) c_told_groups G.f_told_groups sc_told_groups b_told_groups rfl (by decide) (by decide) (fun h => nomatch h) fun cdv A outer s H E hr => (dss_cons (ds_set 2 sc_told_groups.nd (de_call0 (ok_least_groups G) (hr.mono (by decide)) G.g_least_groups G.f_least_groups.kp (bi_least_groups G) .nil (fun _ => .nil) (da_cons (de_var 0) (da_cons (de_var 1) da_nil)))) (dss_one (ds_ret (de_if (dt_cmp od_isN (de_var 2) de_non) de_non (de_op od_fdiv (de_op od_sub (de_var 2) de_int) de_int)))))
abbrev N_weaker : List Str := ["p", "q", "lot"]
abbrev c_weaker : Cs := ⟨3, [], [], [], []⟩
def lp_weaker_1 : SF := (sIf (fTst (f2 ltD (fB lenD (aC (fMe 0 "across" 2 F_Net_across [] (fV 0) (aC (fV 2) aN)) aN)) (fB lenD (aC (fMe 0 "across" 2 F_Net_across [] (fV 1) (aC (fV 2) aN)) aN)))) (sR (fV 2)) sN)
def tl_weaker_1 : SF := (sQ (sFor (iX (fC0 1 F_lots_with_first [] (aC (fV 0) aN))) (gN 2) lp_weaker_1) (sR (fC .non)))
def b_weaker : SF := tl_weaker_1
def F_weaker : FF := runF c_weaker b_weaker
theorem sc_weaker : FnScope N_weaker ["p", "q"] (defScope (top 28)) := ⟨rfl, rfl, rfl, by decide +kernel, rfl, by decide +kernel, by decide +kernel⟩
theorem bi_weaker (G : Gl K mg C.cls ad fd) : Binds K (fd 28) ["p", "q"] [] := G.f_weaker.bindsN fun _ _ _ _ _ _ us hl => match us, hl with | [_, _], _ => rfl
theorem ok_weaker (G : Gl K mg C.cls ad fd) : FnOk P w K mg base CX0 3 (ad 28) (fd 28) ["p", "q"] (spF K C [] false 2 F_weaker) :=
  fun_ok (N := N_weaker) (ps := ["p", "q"]) (m := false) c_weaker G.f_weaker sc_weaker b_weaker rfl (by decide) (by decide) (fun h => nomatch h) fun cdv A outer s H E hr => (dss_cons (ds_for PassesOwn.never (di_seq (de_call0 (ok_lots_with_first G) (hr.mono (by decide)) G.g_lots_with_first G.f_lots_with_first.kp (bi_lots_with_first G) .nil (fun _ => .nil) (da_cons (de_var 0) da_nil))) (dg_name 2 sc_weaker.nd) (dss_one (ds_if (dt_cmp od_lt (de_bi cd_len G.fr_len bb_len (da_cons (de_meth 0 (de_var 0) G.cl0 G.me0_across (ok_Net_across G) (hr.mono (by decide)) (bi_Net_across G) .nil (fun _ => .nil) (da_cons (de_var 2) da_nil)) da_nil)) (de_bi cd_len G.fr_len bb_len (da_cons (de_meth 0 (de_var 1) G.cl0 G.me0_across (ok_Net_across G) (hr.mono (by decide)) (bi_Net_across G) .nil (fun _ => .nil) (da_cons (de_var 2) da_nil)) da_nil))) (dss_one (ds_ret (de_var 2))) dss_nil))) (dss_one (ds_ret de_non)))
abbrev N_no_worse : List Str := ["p", "q"]
abbrev c_no_worse : Cs := ⟨2, [], [], [], []⟩
def b_no_worse : SF := (sR (f2 isND (fC0 2 F_weaker [] (aC (fV 0) (aC (fV 1) aN))) (fC .non)))
def F_no_worse : FF := runF c_no_worse b_no_worse
theorem sc_no_worse : FnScope N_no_worse ["p", "q"] (defScope (top 29)) := ⟨rfl, rfl, rfl, by decide +kernel, rfl, by decide +kernel, by decide +kernel⟩
theorem bi_no_worse (G : Gl K mg C.cls ad fd) : Binds K (fd 29) ["p", "q"] [] := G.f_no_worse.bindsN fun _ _ _ _ _ _ us hl => match us, hl with | [_, _], _ => rfl
theorem ok_no_worse (G : Gl K mg C.cls ad fd) : FnOk P w K mg base CX0 4 (ad 29) (fd 29) ["p", "q"] (spF K C [] false 2 F_no_worse) :=
  fun_ok (N := N_no_worse) (ps := ["p", "q"]) (m := false) c_no_worse G.f_no_worse sc_no_worse b_no_worse rfl (by decide) (by decide) (fun h => nomatch h) fun cdv A outer s H E hr => (dss_one (ds_ret (de_cmp od_isN (de_call0 (ok_weaker G) (hr.mono (by decide)) G.g_weaker G.f_weaker.kp (bi_weaker G) .nil (fun _ => .nil) (da_cons (de_var 0) (da_cons (de_var 1) da_nil))) de_non)))
abbrev N_alike : List Str := ["p", "q"]
abbrev c_alike : Cs := ⟨2, [], [], [], []⟩
def b_alike : SF := (sR (fAndV (fC0 2 F_no_worse [] (aC (fV 0) (aC (fV 1) aN))) (fC0 2 F_no_worse [] (aC (fV 1) (aC (fV 0) aN)))))
def F_alike : FF := runF c_alike b_alike
theorem sc_alike : FnScope N_alike ["p", "q"] (defScope (top 30)) := ⟨rfl, rfl, rfl, by decide +kernel, rfl, by decide +kernel, by decide +kernel⟩
theorem ok_alike (G : Gl K mg C.cls ad fd) : FnOk P w K mg base CX0 5 (ad 30) (fd 30) ["p", "q"] (spF K C [] false 2 F_alike) :=
  fun_ok (N := N_alike) (ps := ["p", "q"]) (m := false) c_alike G.f_alike sc_alike b_alike rfl (by decide) (by decide) (fun h => nomatch h) fun cdv A outer s H E hr => (dss_one (ds_ret (de_and (de_call0 (ok_no_worse G) (hr.mono (by decide)) G.g_no_worse G.f_no_worse.kp (bi_no_worse G) .nil (fun _ => .nil) (da_cons (de_var 0) (da_cons (de_var 1) da_nil))) (de_one (de_call0 (ok_no_worse G) (hr.mono (by decide)) G.g_no_worse G.f_no_worse.kp (bi_no_worse G) .nil (fun _ => .nil) (da_cons (de_var 1) (da_cons (de_var 0) da_nil)))))))
abbrev N_Net_further : List Str := ["self", "ties"]
abbrev c_Net_further : Cs := ⟨2, [], [], [], []⟩
def b_Net_further : SF := (sQ (sIf (fNot (fTst (fC0 2 F_are_ties_nets [] (aC (fV 1) (aC (fAt 0 "posts" (fV 0)) aN))))) (fun _ => none) sN) (sR (fO (oMk 0 3 F_Net___init__ [] (aC (fAt 0 "posts" (fV 0)) (aC (fO (oLst (aS (fAt 0 "ties" (fV 0)) (aS (fV 1) aN)))) aN))))))
def F_Net_further : FF := runF c_Net_further b_Net_further
theorem sc_Net_further : FnScope N_Net_further ["self", "ties"] (defScope (topM 62 5)) := ⟨rfl, rfl, rfl, by decide +kernel, rfl, by decide +kernel, by decide +kernel⟩
theorem bi_Net_further (G : Gl K mg C.cls ad fd) : Binds K (fd 64) ["self", "ties"] [] := G.f_Net_further.bindsN fun _ _ _ _ _ _ us hl => match us, hl with | [_, _], _ => rfl
theorem ok_Net_further (G : Gl K mg C.cls ad fd) : FnOk P w K mg base CX0 7 (ad 64) (fd 64) ["self", "ties"] (spF K C [] false 2 F_Net_further) :=
  fun_ok (N := N_Net_further) (ps := ["self", "ties"]) (m := false) c_Net_further G.f_Net_further sc_Net_further b_Net_further rfl (by decide) (by decide) (fun h => nomatch h) fun cdv A outer s H E hr => (dss_cons (ds_if (dt_not (dt_val (de_call0 (ok_are_ties_nets G) (hr.mono (by decide)) G.g_are_ties_nets G.f_are_ties_nets.kp (bi_are_ties_nets G) .nil (fun _ => .nil) (da_cons (de_var 1) (da_cons (de_attr 0 (de_var 0) G.cl0 G.na0_posts) da_nil))))) (dss_one ds_never) dss_nil) (dss_one (ds_ret (DO.de (do_make 0 G.mk0 (ok_Net___init__ G) (hr.mono (by decide)) G.gc0 (bi_Net___init__ G) .nil (fun _ => .nil) (da_cons (de_attr 0 (de_var 0) G.cl0 G.na0_posts) (da_cons (DO.de (do_lst (da_star (de_attr 0 (de_var 0) G.cl0 G.na0_ties) (da_star (de_var 1) da_nil)))) da_nil)))))))
abbrev N_least_cut : List Str := ["net", "sizes", "lot", "size"]
abbrev c_least_cut : Cs := ⟨4, [], [], [], []⟩
def b_least_cut : SF := (sQ (sSet 1 (fO (oLc (iX (fC0 1 F_lots_with_first [] (aC (fV 0) aN))) (gN 2) tYesF (fB lenD (aC (fMe 0 "across" 2 F_Net_across [] (fV 0) (aC (fV 2) aN)) aN)) [2]))) (sR (fIf (fTst (f2 gtD (fB lenD (aC (fV 1) aN)) (fC (.int 0)))) (fB minD (aC (fO (oLc (iX (fV 1)) (gN 3) tYesF (fB intD (aC (fV 3) aN)) [3])) aN)) (fC .non))))
def F_least_cut : FF := runF c_least_cut b_least_cut
theorem sc_least_cut : FnScope N_least_cut ["net"] (defScope (top 24)) := ⟨rfl, rfl, rfl, by decide +kernel, rfl, by decide +kernel, by decide +kernel⟩
theorem bi_least_cut (G : Gl K mg C.cls ad fd) : Binds K (fd 25) ["net"] [] := G.f_least_cut.bindsN fun _ _ _ _ _ _ us hl => match us, hl with | [_], _ => rfl
theorem ok_least_cut (G : Gl K mg C.cls ad fd) : FnOk P w K mg base CX0 3 (ad 25) (fd 25) ["net"] (spF K C [] false 1 F_least_cut) :=
  fun_ok (N := N_least_cut) (ps := ["net"]) (m := false) c_least_cut G.f_least_cut sc_least_cut b_least_cut rfl (by decide) (by decide) (fun h => nomatch h) fun cdv A outer s H E hr => (dss_cons (ds_setLcP 1 [("lot", 2)] sc_least_cut.nd (di_seq (de_call0 (ok_lots_with_first G) (hr.mono (by decide)) G.g_lots_with_first G.f_lots_with_first.kp (bi_lots_with_first G) .nil (fun _ => .nil) (da_cons (de_var 0) da_nil))) (blkOk_by (by kernel_rfl)) (fun _ _ _ _ _ => (dg_name 2 sc_least_cut.nd)) (fun _ _ _ _ _ => dts_nil) (fun _ _ _ _ _ => (de_bi cd_len G.fr_len bb_len (da_cons (de_meth 0 (de_var 0) G.cl0 G.me0_across (ok_Net_across G) (hr.mono (by decide)) (bi_Net_across G) .nil (fun _ => .nil) (da_cons (de_var 2) da_nil)) da_nil))) rfl) (dss_one (ds_ret (de_if (dt_cmp od_gt (de_bi cd_len G.fr_len bb_len (da_cons (de_var 1) da_nil)) de_int) (de_bi (cd_min rfl) G.fr_min bb_min (da_cons (DO.de (do_lc [("size", 3)] sc_least_cut.nd (di_seq (de_var 1)) (blkOk_by (by kernel_rfl)) (fun _ _ _ _ _ => (dg_name 3 sc_least_cut.nd)) (fun _ _ _ _ _ => dts_nil) (fun _ _ _ _ _ => (de_ty cd_int G.fr_int bb_int (da_cons (de_var 3) da_nil))))) da_nil)) de_non))))
abbrev N_seen : List Str := ["net", "least"]
abbrev c_seen : Cs := ⟨2, [], [], [], []⟩
def b_seen : SF := (sQ (sSet 1 (fC0 1 F_least_cut [] (aC (fV 0) aN))) (sR (fIf (fTst (f2 isND (fV 1) (fC .non))) (fC .non) (f2 subD (fV 1) (fC (.int 1))))))
def F_seen : FF := runF c_seen b_seen
theorem sc_seen : FnScope N_seen ["net"] (defScope (top 25)) := ⟨rfl, rfl, rfl, by decide +kernel, rfl, by decide +kernel, by decide +kernel⟩
theorem bi_seen (G : Gl K mg C.cls ad fd) : Binds K (fd 26) ["net"] [] := G.f_seen.bindsN fun _ _ _ _ _ _ us hl => match us, hl with | [_], _ => rfl
theorem ok_seen (G : Gl K mg C.cls ad fd) : FnOk P w K mg base CX0 4 (ad 26) (fd 26) ["net"] (spF K C [] false 1 F_seen) :=
  fun_ok (N := N_seen) (ps := ["net"]) (m := false) c_seen G.f_seen sc_seen b_seen rfl (by decide) (by decide) (fun h => nomatch h) fun cdv A outer s H E hr => (dss_cons (ds_set 1 sc_seen.nd (de_call0 (ok_least_cut G) (hr.mono (by decide)) G.g_least_cut G.f_least_cut.kp (bi_least_cut G) .nil (fun _ => .nil) (da_cons (de_var 0) da_nil))) (dss_one (ds_ret (de_if (dt_cmp od_isN (de_var 1) de_non) de_non (de_op od_sub (de_var 1) de_int)))))
abbrev N_told : List Str := ["net", "least"]
abbrev c_told : Cs := ⟨2, [], [], [], []⟩
def b_told : SF := (sQ (sSet 1 (fC0 1 F_least_cut [] (aC (fV 0) aN))) (sR (fIf (fTst (f2 isND (fV 1) (fC .non))) (fC .non) (f2 fdivD (f2 subD (fV 1) (fC (.int 1))) (fC (.int 2))))))
def F_told : FF := runF c_told b_told
theorem sc_told : FnScope N_told ["net"] (defScope (top 26)) := ⟨rfl, rfl, rfl, by decide +kernel, rfl, by decide +kernel, by decide +kernel⟩
theorem bi_told (G : Gl K mg C.cls ad fd) : Binds K (fd 27) ["net"] [] := G.f_told.bindsN fun _ _ _ _ _ _ us hl => match us, hl with | [_], _ => rfl
theorem ok_told (G : Gl K mg C.cls ad fd) : FnOk P w K mg base CX0 4 (ad 27) (fd 27) ["net"] (spF K C [] false 1 F_told) :=
  fun_ok (N := N_told) (ps := ["net"]) (m := false) c_told G.f_told sc_told b_told rfl (by decide) (by decide) (fun h => nomatch h) fun cdv A outer s H E hr => (dss_cons (ds_set 1 sc_told.nd (de_call0 (ok_least_cut G) (hr.mono (by decide)) G.g_least_cut G.f_least_cut.kp (bi_least_cut G) .nil (fun _ => .nil) (da_cons (de_var 0) da_nil))) (dss_one (ds_ret (de_if (dt_cmp od_isN (de_var 1) de_non) de_non (de_op od_fdiv (de_op od_sub (de_var 1) de_int) de_int)))))
abbrev N_worth : List Str := ["net", "a", "b", "wide"]
abbrev c_worth : Cs := ⟨4, [], [], [], []⟩
def b_worth : SF := (sQ (sSet 3 (fMe 0 "further" 2 F_Net_further [] (fV 0) (aC (fO (oLst (aC (fTup (aC (fV 1) (aC (fV 2) aN))) aN))) aN))) (sR (fTup (aC (fC0 1 F_seen [] (aC (fV 3) aN)) (aC (fC0 1 F_told [] (aC (fV 3) aN)) aN)))))
def F_worth : FF := runF c_worth b_worth
theorem sc_worth : FnScope N_worth ["net", "a", "b"] (defScope (top 31)) := ⟨rfl, rfl, rfl, by decide +kernel, rfl, by decide +kernel, by decide +kernel⟩
theorem bi_worth (G : Gl K mg C.cls ad fd) : Binds K (fd 31) ["net", "a", "b"] [] := G.f_worth.bindsN fun _ _ _ _ _ _ us hl => match us, hl with | [_, _, _], _ => rfl
theorem ok_worth (G : Gl K mg C.cls ad fd) : FnOk P w K mg base CX0 8 (ad 31) (fd 31) ["net", "a", "b"] (spF K C [] false 3 F_worth) :=
  fun_ok (N := N_worth) (ps := ["net", "a", "b"]) (m := false) c_worth G.f_worth sc_worth b_worth rfl (by decide) (by decide) (fun h => nomatch h) fun cdv A outer s H E hr => (dss_cons (ds_set 3 sc_worth.nd (de_meth 0 (de_var 0) G.cl0 G.me0_further (ok_Net_further G) (hr.mono (by decide)) (bi_Net_further G) .nil (fun _ => .nil) (da_cons (DO.de (do_lst (da_cons (de_tup (da_cons (de_var 1) (da_cons (de_var 2) da_nil))) da_nil))) da_nil))) (dss_one (ds_ret (de_tup (da_cons (de_call0 (ok_seen G) (hr.mono (by decide)) G.g_seen G.f_seen.kp (bi_seen G) .nil (fun _ => .nil) (da_cons (de_var 3) da_nil)) (da_cons (de_call0 (ok_told G) (hr.mono (by decide)) G.g_told G.f_told.kp (bi_told G) .nil (fun _ => .nil) (da_cons (de_var 3) da_nil)) da_nil))))))
abbrev N_best_ties : List Str := ["net", "pairs", "pair", "found", "most", "value", "b", "a"]
abbrev c_best_ties : Cs := ⟨8, [3], [], [], []⟩
def lp_best_ties_1 : SF := (sQ (sSet 5 (fC0 3 F_worth [] (aC (fV 0) (aC (f2 subSc (fV 2) (fC (.int 0))) (aC (f2 subSc (fV 2) (fC (.int 1))) aN))))) (sQ (sIf (fTst (f2 gtTD (fV 5) (fV 4))) (sPar 3 4 (oLst aN) (oP (fV 5))) sN) (sX (fExt 3 (fIf (fTst (f2 eqD (fV 5) (fV 4))) (fO (oLst (aC (fV 2) aN))) (fO (oLst aN)))))))
def tl_best_ties_1 : SF := (sQ (sFor (iX (fO (oB sortedD (aC (fV 1) aN)))) (gN 2) lp_best_ties_1) (sR (fB tupleX (aC (fS 3) aN))))
def b_best_ties : SF := (sQ (sSet 1 (fO (oLc2 (iR1 (aC (fAt 0 "posts" (fV 0)) aN)) (gN 6) (iR1 (aC (fV 6) aN)) (gN 7) tYesF (fTup (aC (fV 7) (aC (fV 6) aN))) [6, 7] [7]))) (sQ (sPar 3 4 (oLst aN) (oP (fTup (aC (fNeg (fC (.int 1))) (aC (fNeg (fC (.int 1))) aN))))) tl_best_ties_1))
def F_best_ties : FF := runF c_best_ties b_best_ties
theorem sc_best_ties : FnScope N_best_ties ["net"] (defScope (top 32)) := ⟨rfl, rfl, rfl, by decide +kernel, rfl, by decide +kernel, by decide +kernel⟩
theorem bi_best_ties (G : Gl K mg C.cls ad fd) : Binds K (fd 32) ["net"] [] := G.f_best_ties.bindsN fun _ _ _ _ _ _ us hl => match us, hl with | [_], _ => rfl
theorem ok_best_ties (G : Gl K mg C.cls ad fd) : FnOk P w K mg base CX0 9 (ad 32) (fd 32) ["net"] (spF K C [] false 1 F_best_ties) :=
  fun_ok (N := N_best_ties) (ps := ["net"]) (m := false) c_best_ties G.f_best_ties sc_best_ties b_best_ties rfl (by decide) (by decide) (fun h => nomatch h) fun cdv A outer s H E hr => (dss_cons (ds_setLcP2 1 [("b", 6), ("a", 7)] [7] sc_best_ties.nd (di_range1 G.fr_range (da_cons (de_attr 0 (de_var 0) G.cl0 G.na0_posts) da_nil)) (blkOk_by (by kernel_rfl)) (fun _ _ _ _ _ => (dg_name 6 sc_best_ties.nd)) (fun _ _ _ _ _ => (di_range1 G.fr_range (da_cons (de_var 6) da_nil))) (fun _ _ _ _ _ => (dg_name 7 sc_best_ties.nd)) (fun _ _ _ _ _ => dts_nil) (fun _ _ _ _ _ => (de_tup (da_cons (de_var 7) (da_cons (de_var 6) da_nil)))) rfl) (dss_cons (ds_par (oi := true) (oj := false) 3 4 sc_best_ties.nd ⟨by decide, by decide⟩ (by decide) (DO.dx (do_lst da_nil)) (DE.dx (de_tup (da_cons (de_neg de_int) (da_cons (de_neg de_int) da_nil))))) (dss_cons (ds_for PassesOwn.never (di_seq (DO.de (do_bi (co_sortedD hr.units) G.fr_sorted bb_sorted (da_cons (de_var 1) da_nil)))) (dg_name 2 sc_best_ties.nd) (dss_cons (ds_set 5 sc_best_ties.nd (de_call0 (ok_worth G) (hr.mono (by decide)) G.g_worth G.f_worth.kp (bi_worth G) .nil (fun _ => .nil) (da_cons (de_var 0) (da_cons (de_ix hr.units (de_var 2) de_int) (da_cons (de_ix hr.units (de_var 2) de_int) da_nil))))) (dss_cons (ds_if (dt_cmp (od_gtT hr.units) (de_var 5) (de_var 4)) (dss_one (ds_par (oi := true) (oj := false) 3 4 sc_best_ties.nd ⟨by decide, by decide⟩ (by decide) (DO.dx (do_lst da_nil)) (DE.dx (de_var 5)))) dss_nil) (dss_one (ds_expr (de_extend 3 (de_if (dt_cmp (od_eq hr.units) (de_var 5) (de_var 4)) (DO.de (do_lst (da_cons (de_var 2) da_nil))) (DO.de (do_lst da_nil))))))))) (dss_one (ds_ret (de_ty (cd_tupleX rfl) G.fr_tuple bb_tuple (da_cons (de_slot 3) da_nil)))))))
abbrev N_Desk___init__ : List Str := ["self"]
abbrev c_Desk___init__ : Cs := ⟨1, [0], [0], [], []⟩
def b_Desk___init__ : SF := (sFldD 0 3 "live" (fC .non))
def F_Desk___init__ : FF := runF c_Desk___init__ b_Desk___init__
theorem sc_Desk___init__ : FnScope N_Desk___init__ ["self"] (defScope (topM 69 0)) := ⟨rfl, rfl, rfl, by decide +kernel, rfl, by decide +kernel, by decide +kernel⟩
theorem bi_Desk___init__ (G : Gl K mg C.cls ad fd) : Binds K (fd 76) ["self"] [] := G.f_Desk___init__.bindsN fun _ _ _ _ _ _ us hl => match us, hl with | [_], _ => rfl
theorem ok_Desk___init__ (G : Gl K mg C.cls ad fd) : FnOk P w K mg base CX0 1 (ad 76) (fd 76) ["self"] (spF K C [0] false 1 F_Desk___init__) :=
  fun_ok (N := N_Desk___init__) (ps := ["self"]) (m := false) c_Desk___init__ G.f_Desk___init__ sc_Desk___init__ b_Desk___init__ rfl (by decide) (by decide) (fun h => nomatch h) fun cdv A outer s H E hr => (dss_one (ds_fld 0 3 G.cl3 G.na3_live de_non))
abbrev N_words_of : List Str := ["command", "words"]
abbrev c_words_of : Cs := ⟨2, [], [], [], []⟩
def b_words_of : SF := (sQ (sIf (fOr (fNot (fTst (fIs "str" (fV 0)))) (fTst (f2 inD (fC (.str "\n")) (fV 0)))) (fun _ => none) sN) (sQ (sSet 1 (fO (oSplit (fV 0) (fC (.str " "))))) (sQ (sIf (fTst (f2 inD (fC (.str "")) (fV 1))) (fun _ => none) sN) (sR (fV 1)))))
def F_words_of : FF := runF c_words_of b_words_of
theorem sc_words_of : FnScope N_words_of ["command"] (defScope (top 66)) := ⟨rfl, rfl, rfl, by decide +kernel, rfl, by decide +kernel, by decide +kernel⟩
theorem bi_words_of (G : Gl K mg C.cls ad fd) : Binds K (fd 73) ["command"] [] := G.f_words_of.bindsN fun _ _ _ _ _ _ us hl => match us, hl with | [_], _ => rfl
theorem ok_words_of (G : Gl K mg C.cls ad fd) : FnOk P w K mg base CX0 1 (ad 73) (fd 73) ["command"] (spF K C [] false 1 F_words_of) :=
  fun_ok (N := N_words_of) (ps := ["command"]) (m := false) c_words_of G.f_words_of sc_words_of b_words_of rfl (by decide) (by decide) (fun h => nomatch h) fun cdv A outer s H E hr => (dss_cons (ds_if (DW.dt (dw_or (dt_not (dt_val (de_isinst "str" (by simp [isTN]) (de_var 0) G.fr_isinstance G.fr_str bb_str))) (dw_or1 (dt_cmp (od_in hr.units) de_str (de_var 0))))) (dss_one ds_never) dss_nil) (dss_cons (ds_set 1 sc_words_of.nd (DO.de (do_split (de_var 0) de_str))) (dss_cons (ds_if (dt_cmp (od_in hr.units) de_str (de_var 1)) (dss_one ds_never) dss_nil) (dss_one (ds_ret (de_var 1))))))
abbrev N_Live___init__ : List Str := ["self", "net"]
abbrev c_Live___init__ : Cs := ⟨2, [0], [0], [], []⟩
def b_Live___init__ : SF := (sQ (sFldD 0 2 "net" (fV 1)) (sFldD 0 2 "kept" (fO (oLst (aC (fTupB aN) aN)))))
def F_Live___init__ : FF := runF c_Live___init__ b_Live___init__
theorem sc_Live___init__ : FnScope N_Live___init__ ["self", "net"] (defScope (topM 53 0)) := ⟨rfl, rfl, rfl, by decide +kernel, rfl, by decide +kernel, by decide +kernel⟩
theorem bi_Live___init__ (G : Gl K mg C.cls ad fd) : Binds K (fd 42) ["self", "net"] [] := G.f_Live___init__.bindsN fun _ _ _ _ _ _ us hl => match us, hl with | [_, _], _ => rfl
theorem ok_Live___init__ (G : Gl K mg C.cls ad fd) : FnOk P w K mg base CX0 1 (ad 42) (fd 42) ["self", "net"] (spF K C [0] false 2 F_Live___init__) :=
  fun_ok (N := N_Live___init__) (ps := ["self", "net"]) (m := false) c_Live___init__ G.f_Live___init__ sc_Live___init__ b_Live___init__ rfl (by decide) (by decide) (fun h => nomatch h) fun cdv A outer s H E hr => (dss_cons (ds_fld 0 2 G.cl2 G.na2_net (de_var 1)) (dss_one (ds_fld 0 2 G.cl2 G.na2_kept (DO.de (do_lst (da_cons (de_tupB da_nil) da_nil))))))
abbrev N_number_in : List Str := ["word", "most", "sign"]
abbrev c_number_in : Cs := ⟨3, [], [], [], []⟩
def b_number_in : SF := (sQ (sIf (fOr (fNot (fTst (fCh leD leD (fC (.int 1)) (fB lenD (aC (fV 0) aN)) (fV 1)))) (fNot (fTst (fB allD (aC (fO (oLc (iS (fV 0)) (gN 2) tYesF (f2 inD (fV 2) (fC (.str "0123456789"))) [2])) aN))))) (sR (fC .non)) sN) (sR (fIf (fAnd (fTst (f2 eqD (f2 subSc (fV 0) (fC (.int 0))) (fC (.str "0")))) (fTst (f2 neD (fV 0) (fC (.str "0"))))) (fC .non) (fB intTD (aC (fV 0) aN)))))
def F_number_in : FF := runF c_number_in b_number_in
theorem sc_number_in : FnScope N_number_in ["word", "most"] (defScope (top 6)) := ⟨rfl, rfl, rfl, by decide +kernel, rfl, by decide +kernel, by decide +kernel⟩
theorem bi_number_in (G : Gl K mg C.cls ad fd) : Binds K (fd 4) ["word", "most"] [] := G.f_number_in.bindsN fun _ _ _ _ _ _ us hl => match us, hl with | [_, _], _ => rfl
theorem ok_number_in (G : Gl K mg C.cls ad fd) : FnOk P w K mg base CX0 1 (ad 4) (fd 4) ["word", "most"] (spF K C [] false 2 F_number_in) :=
  fun_ok (N := N_number_in) (ps := ["word", "most"]) (m := false) c_number_in G.f_number_in sc_number_in b_number_in rfl (by decide) (by decide) (fun h => nomatch h) fun cdv A outer s H E hr => (dss_cons (ds_if (DW.dt (dw_or (dt_not (dt_chain od_le od_le de_int (de_bi cd_len G.fr_len bb_len (da_cons (de_var 0) da_nil)) (de_var 1))) (dw_or1 (dt_not (dt_val (de_bi (cd_all rfl) G.fr_all bb_all (da_cons (DO.de (do_lc [("sign", 2)] sc_number_in.nd (di_str (de_var 0)) (blkOk_by (by kernel_rfl)) (fun _ _ _ _ _ => (dg_name 2 sc_number_in.nd)) (fun _ _ _ _ _ => dts_nil) (fun _ _ _ _ _ => (de_cmp (od_in hr.units) (de_var 2) (de_glob (v := .str "0123456789") G.k_DIGITS.choose_spec ⟨_, rfl⟩ (fun F => .str _)))))) da_nil))))))) (dss_one (ds_ret de_non)) dss_nil) (dss_one (ds_ret (de_if (DW.dt (dw_and (dt_cmp (od_eq hr.units) (de_ix hr.units (de_var 0) de_int) de_str) (dw_and1 (dt_cmp (od_ne hr.units) (de_var 0) de_str)))) de_non (de_ty cd_intT G.fr_int bb_int (da_cons (de_var 0) da_nil))))))
abbrev N_numbers_of : List Str := ["line", "word", "many", "words", "found", "one"]
abbrev c_numbers_of : Cs := ⟨6, [], [], [], []⟩
def b_numbers_of : SF := (sQ (sSet 3 (fO (oSplit (fV 0) (fC (.str " "))))) (sQ (sSet 4 (fO (oLc (iX (fSlc (fV 3) (pI (fC (.int 1))) pN)) (gN 5) tYesF (fC0 2 F_number_in [] (aC (fV 5) (aC (fC (.int 2)) aN))) [5]))) (sR (fIf (fAnd (fTst (f2 eqD (f2 subSc (fV 3) (fC (.int 0))) (fV 1))) (fAnd (fTst (f2 eqD (fB lenD (aC (fV 4) aN)) (fV 2))) (fTst (f2 notInD (fC .non) (fV 4))))) (fV 4) (fC .non)))))
def F_numbers_of : FF := runF c_numbers_of b_numbers_of
theorem sc_numbers_of : FnScope N_numbers_of ["line", "word", "many"] (defScope (top 61)) := ⟨rfl, rfl, rfl, by decide +kernel, rfl, by decide +kernel, by decide +kernel⟩
theorem bi_numbers_of (G : Gl K mg C.cls ad fd) : Binds K (fd 58) ["line", "word", "many"] [] := G.f_numbers_of.bindsN fun _ _ _ _ _ _ us hl => match us, hl with | [_, _, _], _ => rfl
theorem ok_numbers_of (G : Gl K mg C.cls ad fd) : FnOk P w K mg base CX0 2 (ad 58) (fd 58) ["line", "word", "many"] (spF K C [] false 3 F_numbers_of) :=
  fun_ok (N := N_numbers_of) (ps := ["line", "word", "many"]) (m := false) c_numbers_of G.f_numbers_of sc_numbers_of b_numbers_of rfl (by decide) (by decide) (fun h => nomatch h) fun cdv A outer s H E hr => (dss_cons (ds_set 3 sc_numbers_of.nd (DO.de (do_split (de_var 0) de_str))) (dss_cons (ds_setLcP 4 [("one", 5)] sc_numbers_of.nd (di_seq (de_slc (de_var 3) (dp_some de_int) dp_none)) (blkOk_by (by kernel_rfl)) (fun _ _ _ _ _ => (dg_name 5 sc_numbers_of.nd)) (fun _ _ _ _ _ => dts_nil) (fun _ _ _ _ _ => (de_call0 (ok_number_in G) (hr.mono (by decide)) G.g_number_in G.f_number_in.kp (bi_number_in G) .nil (fun _ => .nil) (da_cons (de_var 5) (da_cons (de_glob (v := .int 2) G.k_MOST_DIGITS.choose_spec ⟨_, rfl⟩ (fun F => .int _)) da_nil)))) rfl) (dss_one (ds_ret (de_if (DW.dt (dw_and (dt_cmp (od_eq hr.units) (de_ix hr.units (de_var 3) de_int) (de_var 1)) (dw_and (dt_cmp (od_eq hr.units) (de_bi cd_len G.fr_len bb_len (da_cons (de_var 4) da_nil)) (de_var 2)) (dw_and1 (dt_cmp (od_notin hr.units) de_non (de_var 4)))))) (de_var 4) de_non)))))
abbrev N_Net_read : List Str := ["cls", "text", "found", "ties", "at", "line", "numbers"]
abbrev c_Net_read : Cs := ⟨7, [3], [], [], []⟩
def lp_Net_read_1 : SF := (sQ (sSet 6 (fIf (fTst (f2 gtD (fV 4) (fC (.int 0)))) (fC0 3 F_numbers_of [] (aC (fV 5) (aC (fC (.str "tie")) (aC (fC (.int 2)) aN)))) (fC0 3 F_numbers_of [] (aC (fV 5) (aC (fC (.str "posts")) (aC (fC (.int 1)) aN)))))) (sQ (sIf (fTst (f2 isND (fV 6) (fC .non))) (fun _ => none) sN) (sIf (fTst (f2 eqD (fV 4) (fC (.int 0)))) (sSet 2 (f2 subSc (fV 6) (fC (.int 0)))) (sX (fMt 3 appD (aC (fTup (aC (f2 subSc (fV 6) (fC (.int 0))) (aC (f2 subSc (fV 6) (fC (.int 1))) aN))) aN))))))
def tl_Net_read_1 : SF := (sQ (sFor (iEn (fO (oSplit (fV 1) (fC (.str "\n"))))) (gT 2 (gC (gN 4) (gC (gN 5) gN0))) lp_Net_read_1) (sFrz 3 (sR (fO (oMkL 0 99 0 3 F_Net___init__ [] (aC (fV 2) (aC (fV 3) aN)))))))
def b_Net_read : SF := (sQ (sPar 2 3 (oP (fC .non)) (oLst aN)) tl_Net_read_1)
def F_Net_read : FF := runF c_Net_read b_Net_read
theorem sc_Net_read : FnScope N_Net_read ["cls", "text"] (defScope (topM 62 1)) := ⟨rfl, rfl, rfl, by decide +kernel, rfl, by decide +kernel, by decide +kernel⟩
theorem bi_Net_read (G : Gl K mg C.cls ad fd) : Binds K (fd 60) ["cls", "text"] [] := G.f_Net_read.bindsN fun _ _ _ _ _ _ us hl => match us, hl with | [_, _], _ => rfl
theorem ok_Net_read (G : Gl K mg C.cls ad fd) (nk : C.cel 99 = some (C.cls 0)) : FnOk P w K mg base CX0 7 (ad 60) (fd 60) ["cls", "text"] (spF K C [] false 2 F_Net_read) :=
  fun_ok (N := N_Net_read) (ps := ["cls", "text"]) (m := false) c_Net_read G.f_Net_read sc_Net_read b_Net_read rfl (by decide) (by decide) (fun h => nomatch h) fun cdv A outer s H E hr => (dss_cons (ds_par (oi := false) (oj := true) 2 3 sc_Net_read.nd (by decide) ⟨by decide, by decide⟩ (DE.dx de_non) (DO.dx (do_lst da_nil))) (dss_cons (ds_for PassesOwn.never (di_enum G.fr_enumerate (DO.de (do_split (de_var 1) de_str))) (dg_tup 2 (dgs_cons (dg_name 4 sc_Net_read.nd) (dgs_cons (dg_name 5 sc_Net_read.nd) dgs_nil))) (dss_cons (ds_set 6 sc_Net_read.nd (de_if (dt_cmp od_gt (de_var 4) de_int) (de_call0 (ok_numbers_of G) (hr.mono (by decide)) G.g_numbers_of G.f_numbers_of.kp (bi_numbers_of G) .nil (fun _ => .nil) (da_cons (de_var 5) (da_cons de_str (da_cons de_int da_nil)))) (de_call0 (ok_numbers_of G) (hr.mono (by decide)) G.g_numbers_of G.f_numbers_of.kp (bi_numbers_of G) .nil (fun _ => .nil) (da_cons (de_var 5) (da_cons de_str (da_cons de_int da_nil)))))) (dss_cons (ds_if (dt_cmp od_isN (de_var 6) de_non) (dss_one ds_never) dss_nil) (dss_one (ds_if (dt_cmp (od_eq hr.units) (de_var 4) de_int) (dss_one (ds_set 2 sc_Net_read.nd (de_ix hr.units (de_var 6) de_int))) (dss_one (ds_expr (de_mt 3 md_append PySem.F.slot_list_append PySem.F.type_list_append (da_cons (de_tup (da_cons (de_ix hr.units (de_var 6) de_int) (da_cons (de_ix hr.units (de_var 6) de_int) da_nil))) da_nil))))))))) (dss_frz 3 (dss_one (ds_ret (DO.de (do_makeL 0 99 0 nk G.mk0 (ok_Net___init__ G) (hr.mono (by decide)) (bi_Net___init__ G) .nil (fun _ => .nil) (da_cons (de_var 2) (da_cons (de_var 3) da_nil)))))))))
abbrev N_Desk_say : List Str := ["self", "command", "first", "words"]
abbrev c_Desk_say : Cs := ⟨4, [0], [0], [], []⟩
def b_Desk_say : SF := (sQ (sAsg (fC0 1 F_words_of [] (aC (fV 1) aN)) (gSt (gN 2) (gN 3))) (sQ (sIf (fAnd (fTst (f2 eqD (fV 2) (fC (.str "net")))) (fTst (f2 gtD (fB lenD (aC (fV 3) aN)) (fC (.int 0))))) (sQ (sFldD 0 3 "live" (fO (oMk 2 2 F_Live___init__ [] (aC (fCm 99 2 F_Net_read (aC (fRpl " ; " "\n" (f2 joinD (fC (.str " ")) (fV 3))) aN)) aN)))) (sR (fB strI (aC (fLenO 0 F_Net___len__ (fAt 2 "net" (fAt 3 "live" (fS 0)))) aN)))) sN) (sQ (sIf (fTst (f2 isND (fAt 3 "live" (fS 0)) (fC .non))) (fun _ => none) sN) sNo)))
def F_Desk_say : FF := runF c_Desk_say b_Desk_say
theorem sc_Desk_say : FnScope N_Desk_say ["self", "command"] (defScope (topM 69 1)) := ⟨rfl, rfl, rfl, by decide +kernel, rfl, by decide +kernel, by decide +kernel⟩
theorem ok_Desk_say (G : Gl K mg C.cls ad fd) (nk : C.cel 99 = some (C.cls 0)) : FnOk P w K mg base CX0 8 (ad 77) (fd 77) ["self", "command"] (spF K C [0] false 2 F_Desk_say) :=
  fun_ok (N := N_Desk_say) (ps := ["self", "command"]) (m := false) c_Desk_say G.f_Desk_say sc_Desk_say b_Desk_say rfl (by decide) (by decide) (fun h => nomatch h) fun cdv A outer s H E hr => (dss_cons (ds_asg (de_call0 (ok_words_of G) (hr.mono (by decide)) G.g_words_of G.f_words_of.kp (bi_words_of G) .nil (fun _ => .nil) (da_cons (de_var 1) da_nil)) (dg_star (dg_name 2 sc_Desk_say.nd) (dg_name 3 sc_Desk_say.nd))) (dss_cons (ds_if (DW.dt (dw_and (dt_cmp (od_eq hr.units) (de_var 2) de_str) (dw_and1 (dt_cmp od_gt (de_bi cd_len G.fr_len bb_len (da_cons (de_var 3) da_nil)) de_int)))) (dss_cons (ds_fld 0 3 G.cl3 G.na3_live (DO.de (do_make 2 G.mk2 (ok_Live___init__ G) (hr.mono (by decide)) G.gc2 (bi_Live___init__ G) .nil (fun _ => .nil) (da_cons (de_cm 99 0 nk G.cr0 G.cm0_read.choose_spec (ok_Net_read G nk) (hr.mono (by decide)) G.gc0 (bi_Net_read G) (da_cons (de_repl (de_join (de_var 3)) tokUp_lit) da_nil)) da_nil)))) (dss_one (ds_ret (de_ty cd_strI G.fr_str bb_str (da_cons (de_lenO 0 (de_attr 2 (de_attr 3 (de_slot 0) G.cl3 G.na3_live) G.cl2 G.na2_net) G.me0___len__ (ok_Net___len__ G) (hr.mono (by decide)) (bi_Net___len__ G) G.fr_len bb_len) da_nil))))) dss_nil) (dss_cons (ds_if (dt_cmp od_isN (de_attr 3 (de_slot 0) G.cl3 G.na3_live) de_non) (dss_one ds_never) dss_nil) dss_no)))
abbrev N_law : List Str := ["_law_script", "_law_zone", "_law_zmade", "_law_zother", "_law_zpairs", "_law_zgroups", "_law_zhalf", "_law_zlast"]
abbrev c_law : Cs := ⟨8, [4], [], [], []⟩
theorem kb_ways_2_1_0 (G : Gl K mg C.cls ad fd) : KBn K (fd 15) ["net", "a", "b"] 0 ["b", "a", "net"] (fun us ws => us ++ permL [2, 1, 0] ws) (fun vs zs => vs ++ permL [2, 1, 0] zs) := FunD.kbindsP (ps := ["net", "a", "b"]) G.f_ways 0 ["b", "a", "net"] [2, 1, 0] fun _ _ _ _ _ _ us ws h1 h2 => match us, h1, ws, h2 with | [], _, [_, _, _], _ => rfl
theorem kb_cut_between_2_1_0 (G : Gl K mg C.cls ad fd) : KBn K (fd 16) ["net", "a", "b"] 0 ["b", "a", "net"] (fun us ws => us ++ permL [2, 1, 0] ws) (fun vs zs => vs ++ permL [2, 1, 0] zs) := FunD.kbindsP (ps := ["net", "a", "b"]) G.f_cut_between 0 ["b", "a", "net"] [2, 1, 0] fun _ _ _ _ _ _ us ws h1 h2 => match us, h1, ws, h2 with | [], _, [_, _, _], _ => rfl
theorem kb_paper_1_0 (G : Gl K mg C.cls ad fd) : KBn K (fd 17) ["net", "k"] 0 ["k", "net"] (fun us ws => us ++ permL [1, 0] ws) (fun vs zs => vs ++ permL [1, 0] zs) := FunD.kbindsP (ps := ["net", "k"]) G.f_paper 0 ["k", "net"] [1, 0] fun _ _ _ _ _ _ us ws h1 h2 => match us, h1, ws, h2 with | [], _, [_, _], _ => rfl
theorem kb_paper_holds_2_1_0 (G : Gl K mg C.cls ad fd) : KBn K (fd 22) ["net", "k", "value"] 0 ["value", "k", "net"] (fun us ws => us ++ permL [2, 1, 0] ws) (fun vs zs => vs ++ permL [2, 1, 0] zs) := FunD.kbindsP (ps := ["net", "k", "value"]) G.f_paper_holds 0 ["value", "k", "net"] [2, 1, 0] fun _ _ _ _ _ _ us ws h1 h2 => match us, h1, ws, h2 with | [], _, [_, _, _], _ => rfl
theorem kb_seen_groups_1_0 (G : Gl K mg C.cls ad fd) : KBn K (fd 85) ["net", "groups"] 0 ["groups", "net"] (fun us ws => us ++ permL [1, 0] ws) (fun vs zs => vs ++ permL [1, 0] zs) := FunD.kbindsP (ps := ["net", "groups"]) G.f_seen_groups 0 ["groups", "net"] [1, 0] fun _ _ _ _ _ _ us ws h1 h2 => match us, h1, ws, h2 with | [], _, [_, _], _ => rfl
theorem kb_told_groups_1_0 (G : Gl K mg C.cls ad fd) : KBn K (fd 86) ["net", "groups"] 0 ["groups", "net"] (fun us ws => us ++ permL [1, 0] ws) (fun vs zs => vs ++ permL [1, 0] zs) := FunD.kbindsP (ps := ["net", "groups"]) G.f_told_groups 0 ["groups", "net"] [1, 0] fun _ _ _ _ _ _ us ws h1 h2 => match us, h1, ws, h2 with | [], _, [_, _], _ => rfl
theorem kb_weak_lot_1_0 (G : Gl K mg C.cls ad fd) : KBn K (fd 83) ["net", "groups"] 0 ["groups", "net"] (fun us ws => us ++ permL [1, 0] ws) (fun vs zs => vs ++ permL [1, 0] zs) := FunD.kbindsP (ps := ["net", "groups"]) G.f_weak_lot 0 ["groups", "net"] [1, 0] fun _ _ _ _ _ _ us ws h1 h2 => match us, h1, ws, h2 with | [], _, [_, _], _ => rfl
theorem kb_no_worse_1_0 (G : Gl K mg C.cls ad fd) : KBn K (fd 29) ["p", "q"] 0 ["q", "p"] (fun us ws => us ++ permL [1, 0] ws) (fun vs zs => vs ++ permL [1, 0] zs) := FunD.kbindsP (ps := ["p", "q"]) G.f_no_worse 0 ["q", "p"] [1, 0] fun _ _ _ _ _ _ us ws h1 h2 => match us, h1, ws, h2 with | [], _, [_, _], _ => rfl
theorem kb_alike_1_0 (G : Gl K mg C.cls ad fd) : KBn K (fd 30) ["p", "q"] 0 ["q", "p"] (fun us ws => us ++ permL [1, 0] ws) (fun vs zs => vs ++ permL [1, 0] zs) := FunD.kbindsP (ps := ["p", "q"]) G.f_alike 0 ["q", "p"] [1, 0] fun _ _ _ _ _ _ us ws h1 h2 => match us, h1, ws, h2 with | [], _, [_, _], _ => rfl
theorem kb_weaker_1_0 (G : Gl K mg C.cls ad fd) : KBn K (fd 28) ["p", "q"] 0 ["q", "p"] (fun us ws => us ++ permL [1, 0] ws) (fun vs zs => vs ++ permL [1, 0] zs) := FunD.kbindsP (ps := ["p", "q"]) G.f_weaker 0 ["q", "p"] [1, 0] fun _ _ _ _ _ _ us ws h1 h2 => match us, h1, ws, h2 with | [], _, [_, _], _ => rfl
theorem kb_worth_2_1_0 (G : Gl K mg C.cls ad fd) : KBn K (fd 31) ["net", "a", "b"] 0 ["b", "a", "net"] (fun us ws => us ++ permL [2, 1, 0] ws) (fun vs zs => vs ++ permL [2, 1, 0] zs) := FunD.kbindsP (ps := ["net", "a", "b"]) G.f_worth 0 ["b", "a", "net"] [2, 1, 0] fun _ _ _ _ _ _ us ws h1 h2 => match us, h1, ws, h2 with | [], _, [_, _, _], _ => rfl
theorem kb_best_ties_0 (G : Gl K mg C.cls ad fd) : KBn K (fd 32) ["net"] 0 ["net"] (fun us ws => us ++ permL [0] ws) (fun vs zs => vs ++ permL [0] zs) := FunD.kbindsP (ps := ["net"]) G.f_best_ties 0 ["net"] [0] fun _ _ _ _ _ _ us ws h1 h2 => match us, h1, ws, h2 with | [], _, [_], _ => rfl
theorem kb_Desk_say_0 (G : Gl K mg C.cls ad fd) : KBn K (fd 77) ["self", "command"] 1 ["command"] (fun us ws => us ++ permL [0] ws) (fun vs zs => vs ++ permL [0] zs) := FunD.kbindsP (ps := ["self", "command"]) G.f_Desk_say 1 ["command"] [0] fun _ _ _ _ _ _ us ws h1 h2 => match us, h1, ws, h2 with | [_], _, [_], _ => rfl
def b_law : SF := (sQ (sSet 1 (fC0 1 F__law_value [] (aC (fV 0) aN))) (sQ (sSet 2 (fO (oMk 0 3 F_Net___init__ [] (aC (fC (.int 3)) (aC (fO (oLst (aC (fTup (aC (fC (.int 0)) (aC (fC (.int 1)) aN))) (aC (fTup (aC (fC (.int 1)) (aC (fC (.int 2)) aN))) (aC (fTup (aC (fC (.int 2)) (aC (fC (.int 0)) aN))) aN))))) aN))))) (sQ (sSet 3 (fO (oMk 0 3 F_Net___init__ [] (aC (fC (.int 3)) (aC (fO (oLst (aC (fTup (aC (fC (.int 0)) (aC (fC (.int 1)) aN))) (aC (fTup (aC (fC (.int 1)) (aC (fC (.int 2)) aN))) (aC (fTup (aC (fV 1) (aC (f2 modD (f2 addD (fV 1) (fC (.int 1))) (fC (.int 3))) aN))) aN))))) aN))))) (sQ (sSetO 4 (oLst (aC (fTup (aC (fB lenD (aC (fKw [2, 1, 0] 3 3 F_ways (aC (fC (.int 2)) (aC (fC (.int 0)) (aC (fV 2) aN)))) aN)) (aC (fC (.int 2)) aN))) aN))) (sQ (sX (fMt 4 appD (aC (fTup (aC (f2 isND (fKw [2, 1, 0] 3 3 F_cut_between (aC (fC (.int 2)) (aC (fC (.int 0)) (aC (fV 3) aN)))) (fC .non)) (aC (f2 isND (fC0 3 F_cut_between [] (aC (fV 3) (aC (fC (.int 0)) (aC (fC (.int 2)) aN)))) (fC .non)) aN))) aN))) (sQ (sX (fMt 4 appD (aC (fTup (aC (f2 isND (fKw [1, 0] 2 2 F_paper (aC (fC (.int 1)) (aC (fV 2) aN))) (fC .non)) (aC (f2 isND (fC0 2 F_paper [] (aC (fV 2) (aC (fC (.int 1)) aN))) (fC .non)) aN))) aN))) (sQ (sX (fMt 4 appD (aC (fTup (aC (fKw [2, 1, 0] 3 3 F_paper_holds (aC (fC0 2 F_paper [] (aC (fV 2) (aC (fC (.int 1)) aN))) (aC (fC (.int 1)) (aC (fV 2) aN)))) (aC (fC (.bl true)) aN))) aN))) (sQ (sSetO 4 (oCat (fS 4) (fO (oLst (aC (fTup (aC (fKw [1, 0] 2 2 F_seen_groups (aC (fO (oLst (aC (fC (.int 0)) (aC (fV 1) (aC (fC (.int 2)) aN))))) (aC (fV 2) aN))) (aC (fC0 2 F_seen_groups [] (aC (fV 2) (aC (fO (oLst (aC (fC (.int 0)) (aC (fV 1) (aC (fC (.int 2)) aN))))) aN))) aN))) aN))))) (sQ (sX (fMt 4 appD (aC (fTup (aC (fKw [1, 0] 2 2 F_told_groups (aC (fO (oLst (aC (fC (.int 0)) (aC (fV 1) (aC (fC (.int 2)) aN))))) (aC (fV 2) aN))) (aC (fC0 2 F_told_groups [] (aC (fV 2) (aC (fO (oLst (aC (fC (.int 0)) (aC (fV 1) (aC (fC (.int 2)) aN))))) aN))) aN))) aN))) (sQ (sSet 5 (fO (oLst (aC (fC (.int 0)) (aC (fV 1) (aC (fC (.int 2)) aN)))))) (sQ (sX (fMt 4 appD (aC (fTup (aC (f2 isND (fKw [1, 0] 2 2 F_weak_lot (aC (fV 5) (aC (fV 2) aN))) (fC .non)) (aC (f2 isND (fC0 2 F_weak_lot [] (aC (fV 2) (aC (fV 5) aN))) (fC .non)) aN))) aN))) (sQ (sSetO 4 (oCat (fS 4) (fO (oLst (aC (fTup (aC (fKw [1, 0] 2 2 F_no_worse (aC (fV 3) (aC (fV 2) aN))) (aC (fC0 2 F_no_worse [] (aC (fV 2) (aC (fV 3) aN))) aN))) (aC (fTup (aC (fKw [1, 0] 2 2 F_alike (aC (fV 3) (aC (fV 2) aN))) (aC (f2 eqD (fV 1) (fC (.int 2))) aN))) aN)))))) (sQ (sX (fMt 4 appD (aC (fTup (aC (f2 isND (fKw [1, 0] 2 2 F_weaker (aC (fV 2) (aC (fV 3) aN))) (fC .non)) (aC (f2 isND (fC0 2 F_weaker [] (aC (fV 3) (aC (fV 2) aN))) (fC .non)) aN))) aN))) (sQ (sSetO 4 (oCat (fS 4) (fO (oLst (aC (fTup (aC (fKw [2, 1, 0] 3 3 F_worth (aC (fC (.int 2)) (aC (fC (.int 0)) (aC (fV 3) aN)))) (aC (fC0 3 F_worth [] (aC (fV 3) (aC (fC (.int 0)) (aC (fC (.int 2)) aN)))) aN))) (aC (fTup (aC (fKw [0] 1 1 F_best_ties (aC (fV 2) aN)) (aC (fC0 1 F_best_ties [] (aC (fV 2) aN)) aN))) aN)))))) (sQ (sX (fMt 4 appD (aC (fTup (aC (fTkw 3 "say" [0] 1 2 F_Desk___init__ F_Desk_say (aC (fC (.str "net posts 2 ; tie 0 1")) aN)) (aC (fC (.str "1")) aN))) aN))) (sFrz 4 (sR (f2 eqD (fO (oLc (iX (fV 4)) (gT 2 (gC (gN 6) (gC (gN 7) gN0))) (fTst (f2 neD (fV 6) (fV 7))) (fC (.int 1)) [6, 7])) (fO (oLst aN))))))))))))))))))))
def F_law : FF := runF c_law b_law
theorem sc_law : FnScope N_law ["_law_script"] (defScope (top 79)) := ⟨rfl, rfl, rfl, by decide +kernel, rfl, by decide +kernel, by decide +kernel⟩
theorem ok_law (G : Gl K mg C.cls ad fd) (nk : C.cel 99 = some (C.cls 0)) (nc : C.cel 0 = none) : FnG P w K mg base 10 (ad 88) (fd 88) ["_law_script"] (spF K C [] false 1 F_law) :=
  fun_okG (N := N_law) (ps := ["_law_script"]) (m := false) c_law G.f_law sc_law b_law rfl (by decide) (by decide) (fun h => nomatch h) fun cdv A outer s H E hr hgd => (dss_cons (ds_set 1 sc_law.nd (de_call0 (ok__law_value G) (hr.mono (by decide)) G.g__law_value G.f__law_value.kp (bi__law_value G) .nil (fun _ => .nil) (da_cons (de_var 0) da_nil))) (dss_cons (ds_set 2 sc_law.nd (DO.de (do_make 0 G.mk0 (ok_Net___init__ G) (hr.mono (by decide)) G.gc0 (bi_Net___init__ G) .nil (fun _ => .nil) (da_cons de_int (da_cons (DO.de (do_lst (da_cons (de_tup (da_cons de_int (da_cons de_int da_nil))) (da_cons (de_tup (da_cons de_int (da_cons de_int da_nil))) (da_cons (de_tup (da_cons de_int (da_cons de_int da_nil))) da_nil))))) da_nil))))) (dss_cons (ds_set 3 sc_law.nd (DO.de (do_make 0 G.mk0 (ok_Net___init__ G) (hr.mono (by decide)) G.gc0 (bi_Net___init__ G) .nil (fun _ => .nil) (da_cons de_int (da_cons (DO.de (do_lst (da_cons (de_tup (da_cons de_int (da_cons de_int da_nil))) (da_cons (de_tup (da_cons de_int (da_cons de_int da_nil))) (da_cons (de_tup (da_cons (de_var 1) (da_cons (de_op od_mod (de_op od_add (de_var 1) de_int) de_int) da_nil))) da_nil))))) da_nil))))) (dss_cons (ds_setO 4 sc_law.nd (do_lst (da_cons (de_tup (da_cons (de_bi cd_len G.fr_len bb_len (da_cons (de_kw (ok_ways G nc) (hr.mono (by decide)) G.g_ways G.f_ways.kp (kb_ways_2_1_0 G) (dk_cons de_int (dk_cons de_int (dk_cons (de_var 2) dk_nil)))) da_nil)) (da_cons de_int da_nil))) da_nil))) (dss_cons (ds_expr (de_mt 4 md_append PySem.F.slot_list_append PySem.F.type_list_append (da_cons (de_tup (da_cons (de_cmp od_isN (de_kw (ok_cut_between G nc) (hr.mono (by decide)) G.g_cut_between G.f_cut_between.kp (kb_cut_between_2_1_0 G) (dk_cons de_int (dk_cons de_int (dk_cons (de_var 3) dk_nil)))) de_non) (da_cons (de_cmp od_isN (de_call0 (ok_cut_between G nc) (hr.mono (by decide)) G.g_cut_between G.f_cut_between.kp (bi_cut_between G) .nil (fun _ => .nil) (da_cons (de_var 3) (da_cons de_int (da_cons de_int da_nil)))) de_non) da_nil))) da_nil))) (dss_cons (ds_expr (de_mt 4 md_append PySem.F.slot_list_append PySem.F.type_list_append (da_cons (de_tup (da_cons (de_cmp od_isN (de_kw (ok_paper G nc) (hr.mono (by decide)) G.g_paper G.f_paper.kp (kb_paper_1_0 G) (dk_cons de_int (dk_cons (de_var 2) dk_nil))) de_non) (da_cons (de_cmp od_isN (de_call0 (ok_paper G nc) (hr.mono (by decide)) G.g_paper G.f_paper.kp (bi_paper G) .nil (fun _ => .nil) (da_cons (de_var 2) (da_cons de_int da_nil))) de_non) da_nil))) da_nil))) (dss_cons (ds_expr (de_mt 4 md_append PySem.F.slot_list_append PySem.F.type_list_append (da_cons (de_tup (da_cons (de_kw (ok_paper_holds G) (hr.mono (by decide)) G.g_paper_holds G.f_paper_holds.kp (kb_paper_holds_2_1_0 G) (dk_cons (de_call0 (ok_paper G nc) (hr.mono (by decide)) G.g_paper G.f_paper.kp (bi_paper G) .nil (fun _ => .nil) (da_cons (de_var 2) (da_cons de_int da_nil))) (dk_cons de_int (dk_cons (de_var 2) dk_nil)))) (da_cons de_bl da_nil))) da_nil))) (dss_cons (ds_setO 4 sc_law.nd (do_cat (de_slot 4) (DO.de (do_lst (da_cons (de_tup (da_cons (de_kw (ok_seen_groups G) (hr.mono (by decide)) G.g_seen_groups G.f_seen_groups.kp (kb_seen_groups_1_0 G) (dk_cons (DO.de (do_lst (da_cons de_int (da_cons (de_var 1) (da_cons de_int da_nil))))) (dk_cons (de_var 2) dk_nil))) (da_cons (de_call0 (ok_seen_groups G) (hr.mono (by decide)) G.g_seen_groups G.f_seen_groups.kp (bi_seen_groups G) .nil (fun _ => .nil) (da_cons (de_var 2) (da_cons (DO.de (do_lst (da_cons de_int (da_cons (de_var 1) (da_cons de_int da_nil))))) da_nil))) da_nil))) da_nil))))) (dss_cons (ds_expr (de_mt 4 md_append PySem.F.slot_list_append PySem.F.type_list_append (da_cons (de_tup (da_cons (de_kw (ok_told_groups G) (hr.mono (by decide)) G.g_told_groups G.f_told_groups.kp (kb_told_groups_1_0 G) (dk_cons (DO.de (do_lst (da_cons de_int (da_cons (de_var 1) (da_cons de_int da_nil))))) (dk_cons (de_var 2) dk_nil))) (da_cons (de_call0 (ok_told_groups G) (hr.mono (by decide)) G.g_told_groups G.f_told_groups.kp (bi_told_groups G) .nil (fun _ => .nil) (da_cons (de_var 2) (da_cons (DO.de (do_lst (da_cons de_int (da_cons (de_var 1) (da_cons de_int da_nil))))) da_nil))) da_nil))) da_nil))) (dss_cons (ds_set 5 sc_law.nd (DO.de (do_lst (da_cons de_int (da_cons (de_var 1) (da_cons de_int da_nil)))))) (dss_cons (ds_expr (de_mt 4 md_append PySem.F.slot_list_append PySem.F.type_list_append (da_cons (de_tup (da_cons (de_cmp od_isN (de_kw (ok_weak_lot G) (hr.mono (by decide)) G.g_weak_lot G.f_weak_lot.kp (kb_weak_lot_1_0 G) (dk_cons (de_var 5) (dk_cons (de_var 2) dk_nil))) de_non) (da_cons (de_cmp od_isN (de_call0 (ok_weak_lot G) (hr.mono (by decide)) G.g_weak_lot G.f_weak_lot.kp (bi_weak_lot G) .nil (fun _ => .nil) (da_cons (de_var 2) (da_cons (de_var 5) da_nil))) de_non) da_nil))) da_nil))) (dss_cons (ds_setO 4 sc_law.nd (do_cat (de_slot 4) (DO.de (do_lst (da_cons (de_tup (da_cons (de_kw (ok_no_worse G) (hr.mono (by decide)) G.g_no_worse G.f_no_worse.kp (kb_no_worse_1_0 G) (dk_cons (de_var 3) (dk_cons (de_var 2) dk_nil))) (da_cons (de_call0 (ok_no_worse G) (hr.mono (by decide)) G.g_no_worse G.f_no_worse.kp (bi_no_worse G) .nil (fun _ => .nil) (da_cons (de_var 2) (da_cons (de_var 3) da_nil))) da_nil))) (da_cons (de_tup (da_cons (de_kw (ok_alike G) (hr.mono (by decide)) G.g_alike G.f_alike.kp (kb_alike_1_0 G) (dk_cons (de_var 3) (dk_cons (de_var 2) dk_nil))) (da_cons (de_cmp (od_eq hr.units) (de_var 1) de_int) da_nil))) da_nil)))))) (dss_cons (ds_expr (de_mt 4 md_append PySem.F.slot_list_append PySem.F.type_list_append (da_cons (de_tup (da_cons (de_cmp od_isN (de_kw (ok_weaker G) (hr.mono (by decide)) G.g_weaker G.f_weaker.kp (kb_weaker_1_0 G) (dk_cons (de_var 2) (dk_cons (de_var 3) dk_nil))) de_non) (da_cons (de_cmp od_isN (de_call0 (ok_weaker G) (hr.mono (by decide)) G.g_weaker G.f_weaker.kp (bi_weaker G) .nil (fun _ => .nil) (da_cons (de_var 3) (da_cons (de_var 2) da_nil))) de_non) da_nil))) da_nil))) (dss_cons (ds_setO 4 sc_law.nd (do_cat (de_slot 4) (DO.de (do_lst (da_cons (de_tup (da_cons (de_kw (ok_worth G) (hr.mono (by decide)) G.g_worth G.f_worth.kp (kb_worth_2_1_0 G) (dk_cons de_int (dk_cons de_int (dk_cons (de_var 3) dk_nil)))) (da_cons (de_call0 (ok_worth G) (hr.mono (by decide)) G.g_worth G.f_worth.kp (bi_worth G) .nil (fun _ => .nil) (da_cons (de_var 3) (da_cons de_int (da_cons de_int da_nil)))) da_nil))) (da_cons (de_tup (da_cons (de_kw (ok_best_ties G) (hr.mono (by decide)) G.g_best_ties G.f_best_ties.kp (kb_best_ties_0 G) (dk_cons (de_var 2) dk_nil)) (da_cons (de_call0 (ok_best_ties G) (hr.mono (by decide)) G.g_best_ties G.f_best_ties.kp (bi_best_ties G) .nil (fun _ => .nil) (da_cons (de_var 2) da_nil)) da_nil))) da_nil)))))) (dss_cons (ds_expr (de_mt 4 md_append PySem.F.slot_list_append PySem.F.type_list_append (da_cons (de_tup (da_cons (de_tkw 3 G.mk3 (ok_Desk___init__ G) (hr.mono (by decide)) G.gc3 (bi_Desk___init__ G) G.cl3 G.me3_say (ok_Desk_say G nk) (hr.mono (by decide)) (kb_Desk_say_0 G) (dk_cons de_str dk_nil)) (da_cons de_str da_nil))) da_nil))) (dss_frz 4 (dss_one (ds_ret (de_cmp (od_eq hr.units) (DO.de (do_lc [("_law_zhalf", 6), ("_law_zlast", 7)] sc_law.nd (di_seq (de_var 4)) (blkOk_by (by kernel_rfl)) (fun _ _ _ _ _ => (dg_tup 2 (dgs_cons (dg_name 6 sc_law.nd) (dgs_cons (dg_name 7 sc_law.nd) dgs_nil)))) (fun _ _ _ _ _ => (dts_one (dt_cmp (od_ne hr.units) (de_var 6) (de_var 7)))) (fun _ _ _ _ _ => de_int))) (DO.de (do_lst da_nil)))))))))))))))))))))
end
end LW


namespace LW
open PySem PySem.Spec L2 DL
def d_is_integer : He.DefD := ⟨("is_integer", none), "is_integer", "is_integer", defArgs (top 3), defBody (top 3), defScope (top 3), [], []⟩
def d_is_number : He.DefD := ⟨("is_number", none), "is_number", "is_number", defArgs (top 4), defBody (top 4), defScope (top 4), [], []⟩
def d_is_sequence : He.DefD := ⟨("is_sequence", none), "is_sequence", "is_sequence", defArgs (top 5), defBody (top 5), defScope (top 5), [], []⟩
def d_number_in : He.DefD := ⟨("number_in", none), "number_in", "number_in", defArgs (top 6), defBody (top 6), defScope (top 6), [], []⟩
def d_other_end : He.DefD := ⟨("other_end", none), "other_end", "other_end", defArgs (top 9), defBody (top 9), defScope (top 9), [], []⟩
def d_side : He.DefD := ⟨("side", none), "side", "side", defArgs (top 10), defBody (top 10), defScope (top 10), [], []⟩
def d_Flow___init__ : He.DefD := ⟨("Flow", some "__init__"), "__init__", "Flow.__init__", defArgs (topM 11 0), defBody (topM 11 0), defScope (topM 11 0), [], []⟩
def d_Flow_steps_from : He.DefD := ⟨("Flow", some "steps_from"), "steps_from", "Flow.steps_from", defArgs (topM 11 1), defBody (topM 11 1), defScope (topM 11 1), [], []⟩
def d_Flow_reached : He.DefD := ⟨("Flow", some "reached"), "reached", "Flow.reached", defArgs (topM 11 2), defBody (topM 11 2), defScope (topM 11 2), [], []⟩
def d_Flow_widen : He.DefD := ⟨("Flow", some "widen"), "widen", "Flow.widen", defArgs (topM 11 3), defBody (topM 11 3), defScope (topM 11 3), [], []⟩
def d_Flow_widest : He.DefD := ⟨("Flow", some "widest"), "widest", "Flow.widest", defArgs (topM 11 4), defBody (topM 11 4), defScope (topM 11 4), [], []⟩
def d_Flow_ways : He.DefD := ⟨("Flow", some "ways"), "ways", "Flow.ways", defArgs (topM 11 5), defBody (topM 11 5), defScope (topM 11 5), [], []⟩
def d_Flow_way_in : He.DefD := ⟨("Flow", some "way_in"), "way_in", "Flow.way_in", defArgs (topM 11 6), defBody (topM 11 6), defScope (topM 11 6), [], []⟩
def d_ways : He.DefD := ⟨("ways", none), "ways", "ways", defArgs (top 12), defBody (top 12), defScope (top 12), [], []⟩
def d_cut_between : He.DefD := ⟨("cut_between", none), "cut_between", "cut_between", defArgs (top 13), defBody (top 13), defScope (top 13), [], []⟩
def d_paper : He.DefD := ⟨("paper", none), "paper", "paper", defArgs (top 14), defBody (top 14), defScope (top 14), [], []⟩
def d_are_ties_papers : He.DefD := ⟨("are_ties_papers", none), "are_ties", "are_ties", defArgs (top 15), defBody (top 15), defScope (top 15), [], []⟩
def d_leads : He.DefD := ⟨("leads", none), "leads", "leads", defArgs (top 17), defBody (top 17), defScope (top 17), [], []⟩
def d_are_apart : He.DefD := ⟨("are_apart", none), "are_apart", "are_apart", defArgs (top 18), defBody (top 18), defScope (top 18), [], []⟩
def d_paper_holds : He.DefD := ⟨("paper_holds", none), "paper_holds", "paper_holds", defArgs (top 19), defBody (top 19), defScope (top 19), [], []⟩
def d_all_lots : He.DefD := ⟨("all_lots", none), "all_lots", "all_lots", defArgs (top 21), defBody (top 21), defScope (top 21), [], []⟩
def d_lots_with_first : He.DefD := ⟨("lots_with_first", none), "lots_with_first", "lots_with_first", defArgs (top 22), defBody (top 22), defScope (top 22), [], []⟩
def d_least_cut : He.DefD := ⟨("least_cut", none), "least_cut", "least_cut", defArgs (top 24), defBody (top 24), defScope (top 24), [], []⟩
def d_seen : He.DefD := ⟨("seen", none), "seen", "seen", defArgs (top 25), defBody (top 25), defScope (top 25), [], []⟩
def d_told : He.DefD := ⟨("told", none), "told", "told", defArgs (top 26), defBody (top 26), defScope (top 26), [], []⟩
def d_weaker : He.DefD := ⟨("weaker", none), "weaker", "weaker", defArgs (top 28), defBody (top 28), defScope (top 28), [], []⟩
def d_no_worse : He.DefD := ⟨("no_worse", none), "no_worse", "no_worse", defArgs (top 29), defBody (top 29), defScope (top 29), [], []⟩
def d_alike : He.DefD := ⟨("alike", none), "alike", "alike", defArgs (top 30), defBody (top 30), defScope (top 30), [], []⟩
def d_worth : He.DefD := ⟨("worth", none), "worth", "worth", defArgs (top 31), defBody (top 31), defScope (top 31), [], []⟩
def d_best_ties : He.DefD := ⟨("best_ties", none), "best_ties", "best_ties", defArgs (top 32), defBody (top 32), defScope (top 32), [], []⟩
def d_Live___init__ : He.DefD := ⟨("Live", some "__init__"), "__init__", "Live.__init__", defArgs (topM 53 0), defBody (topM 53 0), defScope (topM 53 0), [], []⟩
def d_is_pair : He.DefD := ⟨("is_pair", none), "is_pair", "is_pair", defArgs (top 56), defBody (top 56), defScope (top 56), [], []⟩
def d_are_ties_nets : He.DefD := ⟨("are_ties_nets", none), "are_ties", "are_ties", defArgs (top 57), defBody (top 57), defScope (top 57), [], []⟩
def d_are_joined : He.DefD := ⟨("are_joined", none), "are_joined", "are_joined", defArgs (top 59), defBody (top 59), defScope (top 59), [], []⟩
def d_numbers_of : He.DefD := ⟨("numbers_of", none), "numbers_of", "numbers_of", defArgs (top 61), defBody (top 61), defScope (top 61), [], []⟩
def d_Net___init__ : He.DefD := ⟨("Net", some "__init__"), "__init__", "Net.__init__", defArgs (topM 62 0), defBody (topM 62 0), defScope (topM 62 0), [.adr (He.dflAt ("Net", some "__init__") 0)], []⟩
def d_Net_read : He.DefD := ⟨("Net", some "read"), "read", "Net.read", defArgs (topM 62 1), defBody (topM 62 1), defScope (topM 62 1), [], []⟩
def d_Net_need_tie : He.DefD := ⟨("Net", some "need_tie"), "need_tie", "Net.need_tie", defArgs (topM 62 2), defBody (topM 62 2), defScope (topM 62 2), [], []⟩
def d_Net_further : He.DefD := ⟨("Net", some "further"), "further", "Net.further", defArgs (topM 62 5), defBody (topM 62 5), defScope (topM 62 5), [], []⟩
def d_Net_across : He.DefD := ⟨("Net", some "across"), "across", "Net.across", defArgs (topM 62 6), defBody (topM 62 6), defScope (topM 62 6), [], []⟩
def d_Net___len__ : He.DefD := ⟨("Net", some "__len__"), "__len__", "Net.__len__", defArgs (topM 62 9), defBody (topM 62 9), defScope (topM 62 9), [], []⟩
def d_Net___getitem__ : He.DefD := ⟨("Net", some "__getitem__"), "__getitem__", "Net.__getitem__", defArgs (topM 62 10), defBody (topM 62 10), defScope (topM 62 10), [], []⟩
def d_words_of : He.DefD := ⟨("words_of", none), "words_of", "words_of", defArgs (top 66), defBody (top 66), defScope (top 66), [], []⟩
def d_Desk___init__ : He.DefD := ⟨("Desk", some "__init__"), "__init__", "Desk.__init__", defArgs (topM 69 0), defBody (topM 69 0), defScope (topM 69 0), [], []⟩
def d_Desk_say : He.DefD := ⟨("Desk", some "say"), "say", "Desk.say", defArgs (topM 69 1), defBody (topM 69 1), defScope (topM 69 1), [], []⟩
def d_need_groups : He.DefD := ⟨("need_groups", none), "need_groups", "need_groups", defArgs (top 71), defBody (top 71), defScope (top 71), [], []⟩
def d_many_across : He.DefD := ⟨("many_across", none), "many_across", "many_across", defArgs (top 72), defBody (top 72), defScope (top 72), [], []⟩
def d_weak_lot : He.DefD := ⟨("weak_lot", none), "weak_lot", "weak_lot", defArgs (top 73), defBody (top 73), defScope (top 73), [], []⟩
def d_least_groups : He.DefD := ⟨("least_groups", none), "least_groups", "least_groups", defArgs (top 74), defBody (top 74), defScope (top 74), [], []⟩
def d_seen_groups : He.DefD := ⟨("seen_groups", none), "seen_groups", "seen_groups", defArgs (top 75), defBody (top 75), defScope (top 75), [], []⟩
def d_told_groups : He.DefD := ⟨("told_groups", none), "told_groups", "told_groups", defArgs (top 76), defBody (top 76), defScope (top 76), [], []⟩
def d__law_value : He.DefD := ⟨("_law_value", none), "_law_value", "_law_value", defArgs (top 78), defBody (top 78), defScope (top 78), [], []⟩
def d_law : He.DefD := ⟨("law", none), "law", "law", defArgs (top 79), defBody (top 79), defScope (top 79), [], []⟩
def fn0 : List He.DefD := [d_is_integer, d_is_number, d_is_sequence, d_number_in, d_other_end, d_side, d_Flow___init__, d_Flow_steps_from, d_Flow_reached, d_Flow_widen, d_Flow_widest, d_Flow_ways, d_Flow_way_in, d_ways, d_cut_between, d_paper, d_are_ties_papers, d_leads, d_are_apart, d_paper_holds, d_all_lots, d_lots_with_first, d_least_cut, d_seen, d_told, d_weaker, d_no_worse, d_alike, d_worth, d_best_ties]
def fn1 : List He.DefD := [d_Live___init__, d_is_pair, d_are_ties_nets, d_are_joined, d_numbers_of, d_Net___init__, d_Net_need_tie, d_Net_further, d_Net_across, d_Net___len__, d_Net___getitem__, d_words_of, d_Desk___init__, d_Desk_say, d_need_groups, d_many_across, d_weak_lot, d_least_groups, d_seen_groups, d_told_groups, d__law_value, d_law]
def fn : List He.DefD := fn0 ++ fn1
def fa0 : List He.Fa := [.str "DIGITS" "0123456789", .int "MOST_DIGITS" 2, .glo "_law_value", .glo "alike", .glo "all_lots", .glo "are_apart", .glo "are_joined", .glo "are_ties_nets", .glo "are_ties_papers", .glo "best_ties", .glo "cut_between", .glo "is_integer", .glo "is_number", .glo "is_pair", .glo "is_sequence", .glo "law", .glo "leads", .glo "least_cut", .glo "least_groups", .glo "lots_with_first", .glo "many_across", .glo "need_groups", .glo "no_worse", .glo "number_in", .glo "numbers_of", .glo "other_end", .glo "paper", .glo "paper_holds", .glo "seen", .glo "seen_groups"]
def fa1 : List He.Fa := [.glo "side", .glo "told", .glo "told_groups", .glo "ways", .glo "weak_lot", .glo "weaker", .glo "words_of", .glo "worth", .glo "Desk", .glo "Flow", .glo "Live", .glo "Net", .free "abs", .free "all", .free "bool", .free "enumerate", .free "int", .free "isinstance", .free "len", .free "list", .free "min", .free "range", .free "sorted", .free "str", .free "tuple", .cls "Desk", .cls "Flow", .cls "Live", .cls "Net", .noat "Desk" "live"]
def fa2 : List He.Fa := [.noat "Flow" "begin", .noat "Flow" "goal", .noat "Flow" "gone", .noat "Flow" "ties", .noat "Live" "kept", .noat "Live" "net", .noat "Net" "posts", .noat "Net" "ties", .meth "Desk" "say", .meth "Flow" "reached", .meth "Flow" "steps_from", .meth "Flow" "way_in", .meth "Flow" "ways", .meth "Flow" "widen", .meth "Flow" "widest", .meth "Net" "__getitem__", .meth "Net" "__len__", .meth "Net" "across", .meth "Net" "further", .meth "Net" "need_tie", .mkr "Desk", .mkr "Flow", .mkr "Live", .mkr "Net"]
def fa : List He.Fa := fa0 ++ fa1 ++ fa2
def pn0 : List He.DefD := [d_Net_read]
def pn : List He.DefD := pn0
def emB (a : Addr) (K : PySem.W.Frag) : Bool := match K.lookup a with | some ⟨.type c, _, .seq its _, _⟩ => decide (c = "tuple") && decide (its.toList = []) | _ => false
theorem emB_ok {a : Addr} {K : PySem.W.Frag} (h : emB a K = true) (H : Hp) : SqT K H a [] := by
  unfold emB at h
  split at h
  · next c _ its _ _ q =>
    simp only [Bool.and_eq_true, decide_eq_true_eq] at h
    refine .inr ⟨_, its, _, q, ?_, rfl, ?_, ?_⟩
    · rw [h.1]
    · rw [← Array.length_toList, h.2]; exact Nat.zero_le _
    · rw [h.2]; exact .nil
  · cases h
def exx0 (K : PySem.W.Frag) : Bool := clsmB K "Net" "read"
def ex1 (K : PySem.W.Frag) : Bool := emB (He.dflAt ("Net", some "__init__") 0 K) K
def ex2 (K : PySem.W.Frag) : Bool := (exx0 K && true)
def ex (K : PySem.W.Frag) : Bool := ex1 K && ex2 K
def loose0 : List Str := ["_wall", "DIGITS", "is_integer", "is_number", "is_sequence", "number_in", "integer_in", "other_end", "side", "Flow", "ways", "cut_between", "paper", "are_ties", "are_ties_papers", "leads", "are_apart", "paper_holds", "all_lots", "lots_with_first", "least_cut", "seen", "told", "weaker", "no_worse", "alike", "worth", "best_ties", "LevelError", "InvalidNet"]
def loose1 : List Str := ["InvalidText", "InvalidReadings", "InvalidGroups", "InvalidCommand", "NoTie", "need_readings", "steps_from", "levels", "rest_of", "is_explained", "subsets", "sets", "ascending", "fewest_wrong", "Live", "MOST_DIGITS", "is_pair", "are_ties_nets", "are_joined", "line_of", "numbers_of", "Net", "SHORT", "LONG", "words_of", "short_in", "told_text", "Desk", "need_groups", "many_across"]
def loose2 : List Str := ["weak_lot", "least_groups", "seen_groups", "told_groups", "_law_value"]
def loose : List Str := loose0 ++ loose1 ++ loose2
def asL0 : List Addr := [0, 2, 3, 4, 6, 15, 16, 17, 18, 19, 20, 21, 22, 23, 24, 25, 26, 27, 28, 29, 30, 31, 32, 33, 34, 35, 36, 37, 38, 39, 40, 41, 42, 43, 44, 45, 46, 47, 48, 49, 50, 51, 52, 53, 54, 55, 56, 57, 58, 59, 60, 61, 62, 63, 64, 65, 66, 67, 68, 76]
def asL1 : List Addr := [77, 78, 79, 80, 81, 82, 83, 84, 85, 86, 87, 88, 89, 90, 91, 92, 93, 94, 95, 96, 97, 98, 99, 100, 101, 102, 103, 104, 105, 106, 107, 108, 109, 110, 111, 112, 113, 114, 115, 116, 117, 118, 119, 120, 121, 122, 123, 124, 125, 128, 129, 130, 131, 132, 133, 134, 135, 136, 137, 138]
def asL2 : List Addr := [139, 140, 141, 142, 143, 144, 145, 146, 147, 148, 149, 150, 151, 152, 153, 154, 155, 156, 157, 158, 159, 160, 161, 162, 163, 164, 165, 166, 167, 168, 169, 170, 171, 172, 173, 174, 175, 176, 177, 178, 179, 180, 181, 182, 183, 184, 185, 186, 187, 188, 189, 190, 191, 192, 193, 194, 195, 196, 197, 198]
def asL3 : List Addr := [199, 200, 201, 202, 203, 204, 205, 206, 207, 208, 209, 210, 211, 212, 213, 214, 215, 216, 217, 218, 219, 220, 221, 222, 223, 224, 225, 226, 227, 228, 236, 237, 238, 239, 245, 251, 252, 253, 254, 255, 256, 257, 258, 259, 260, 266, 272, 273, 274, 275, 276, 277, 278, 279, 280, 281, 287, 293, 294, 295]
def asL4 : List Addr := [296, 297, 298, 299, 300, 301, 302, 308, 314, 315, 316, 317, 318, 319, 320, 321, 322, 323, 333, 334, 335, 341, 347, 348, 349, 350, 351, 352, 353, 354, 355, 356, 357, 360, 361, 362, 363, 364, 365, 366, 367, 368, 369, 370, 371, 372, 373, 374, 375, 376, 377, 378, 379, 380, 381, 382, 383, 384, 385, 386]
def asL5 : List Addr := [387, 388, 389, 390, 391, 392, 393, 394, 395, 396, 397, 398, 399, 400, 401, 402, 403, 404, 405, 406, 407, 408, 409, 410, 411, 412, 420, 421, 422, 423, 424, 425, 426, 432, 433, 434, 435, 436, 437, 438, 439, 440, 441, 442, 443, 444, 445, 446, 447, 448, 449, 450, 451, 452, 453, 454, 455, 456, 457, 458]
def asL6 : List Addr := [459, 460, 461, 462, 463, 464, 465, 466, 467, 468, 469, 470, 471, 472, 476, 477, 478, 479, 480, 481, 482, 483, 484, 485, 486, 487, 488, 489, 490, 491, 492, 493, 494, 495, 496, 497, 498, 499, 500, 501, 502, 503, 504, 507, 508, 509, 510, 511, 512, 513, 514, 515, 516, 517, 518, 519, 520, 521, 522, 523]
def asL7 : List Addr := [524, 525, 526, 527, 528, 529, 530, 531, 532, 533, 534, 535, 543, 544, 545, 546, 547, 548, 549, 550, 551, 557, 558, 559, 560, 561, 562, 563, 564, 565, 566, 567, 568, 569, 570, 571, 572, 573, 574, 575, 576, 577, 578, 579, 580, 581, 582, 583, 584, 585, 586, 587, 588, 589, 590, 591, 592, 593, 594, 595]
def asL8 : List Addr := [596, 597, 598, 599, 600, 601, 602, 603, 604, 605, 606, 607, 608, 609, 610, 611, 612, 613, 614, 615, 616, 617, 618, 619, 620, 621, 622, 623, 624, 625, 626, 627, 628, 629, 630, 631, 632, 633, 634, 635, 636, 637, 638, 639, 640, 641, 642, 643, 644, 647, 648, 649, 650, 651, 652, 653, 654, 655, 656, 657]
def asL9 : List Addr := [658, 659, 660, 661, 662, 663, 664, 665, 666, 667, 675, 676, 677, 678, 679, 680, 681, 682, 683, 684, 685, 686, 687, 688, 689, 690, 691, 692, 693, 694, 695, 696, 697, 698, 699, 700, 701, 702, 703, 704, 705, 706, 707, 708, 709, 710, 713, 714, 715, 716, 717, 718, 719, 720, 721, 722, 723, 724, 725, 726]
def asL10 : List Addr := [727, 728, 729, 730, 731, 732, 733, 734, 735, 736, 737, 738, 739, 740, 741, 742, 743, 744, 745, 746, 747, 748, 749, 750, 751, 752, 753, 754, 755, 756, 757, 758, 759, 760, 761, 762, 763, 764]
def asL : List Addr := asL0 ++ asL1 ++ asL2 ++ asL3 ++ asL4 ++ asL5 ++ asL6 ++ asL7 ++ asL8 ++ asL9 ++ asL10
abbrev R : PySem.W.OpenRow := PySem.W.OpenLaw.row PySem.Challenge.rw_levelties_k53_arguments_by_names
abbrev hk : PySem.W.Hook := DL.hookA asL fa fn pn ex
def ob (s : PySem.W.SharedT) : (He.AlD × Bool) × List He.FnW := DL.obsA asL fa fn pn ex (HandSHeadRun.getT s)
theorem ob_eq (s : PySem.W.SharedT) : ob s = hk.obs s.abs := DL.obsA_eq (HandSHeadRun.getT_eq s)
theorem joinRun {S A B D : Type} {e : Option S} {f : S → A} {g : S → B} {h : S → D} {a : A} {b : B} {d : D}
    (h1 : e.map (fun s => (f s, h s)) = some (a, d)) (h2 : e.map g = some b) : e.map (fun s => (f s, g s, h s)) = some (a, b, d) := by
  cases e with
  | none => cases h2
  | some s =>
    have q1 : (f s, h s) = (a, d) := Option.some.inj h1
    have q2 : g s = b := Option.some.inj h2
    have q3 : f s = a := congrArg Prod.fst q1
    have q4 : h s = d := congrArg Prod.snd q1
    show some (f s, g s, h s) = some (a, b, d)
    rw [q2, q3, q4]
section
open PySem PySem.W PySem.Calls PyProof.Rows HandSHeadRun
theorem runA (w : World) (os : OsState) : (endF (stepQ (denQ tabQ) R.prog w) 6000 R.prog w os).map (fun s => (looksF R.prog (boot_heap w.params) s.abs, ob s)) = some (true, hk.val w) := by kernel_rfl
theorem runS (w : World) (os : OsState) : (endF (stepQ (denQ tabQ) R.prog w) 6000 R.prog w os).map (fun s => seenQ (view R.prog [79]) loose (importedModules R.prog.main.body) (fun s => xlAt (view R.prog [79]) [] s && recOk R.toRowW.records s) s.abs) = some (openGood (view R.prog [79]) loose) := by kernel_rfl
theorem run (w : World) : HandSHeadRun.RunEq R (PySem.W.view R.prog [79]) hk ob 6000 loose w := by
  intro os
  exact joinRun (runA w os) (runS w os)
end
def adK (K : PySem.W.Frag) : Nat → Addr
  | 1 => He.fAd K ("is_integer", none)
  | 2 => He.fAd K ("is_number", none)
  | 3 => He.fAd K ("is_sequence", none)
  | 4 => He.fAd K ("number_in", none)
  | 6 => He.fAd K ("other_end", none)
  | 7 => He.fAd K ("side", none)
  | 8 => He.fAd K ("Flow", some "__init__")
  | 9 => He.fAd K ("Flow", some "steps_from")
  | 10 => He.fAd K ("Flow", some "reached")
  | 11 => He.fAd K ("Flow", some "widen")
  | 12 => He.fAd K ("Flow", some "widest")
  | 13 => He.fAd K ("Flow", some "ways")
  | 14 => He.fAd K ("Flow", some "way_in")
  | 15 => He.fAd K ("ways", none)
  | 16 => He.fAd K ("cut_between", none)
  | 17 => He.fAd K ("paper", none)
  | 19 => He.fAd K ("are_ties_papers", none)
  | 20 => He.fAd K ("leads", none)
  | 21 => He.fAd K ("are_apart", none)
  | 22 => He.fAd K ("paper_holds", none)
  | 23 => He.fAd K ("all_lots", none)
  | 24 => He.fAd K ("lots_with_first", none)
  | 25 => He.fAd K ("least_cut", none)
  | 26 => He.fAd K ("seen", none)
  | 27 => He.fAd K ("told", none)
  | 28 => He.fAd K ("weaker", none)
  | 29 => He.fAd K ("no_worse", none)
  | 30 => He.fAd K ("alike", none)
  | 31 => He.fAd K ("worth", none)
  | 32 => He.fAd K ("best_ties", none)
  | 42 => He.fAd K ("Live", some "__init__")
  | 54 => He.fAd K ("is_pair", none)
  | 55 => He.fAd K ("are_ties_nets", none)
  | 56 => He.fAd K ("are_joined", none)
  | 58 => He.fAd K ("numbers_of", none)
  | 59 => He.fAd K ("Net", some "__init__")
  | 60 => DL.cAd K ("Net", some "read")
  | 61 => He.fAd K ("Net", some "need_tie")
  | 64 => He.fAd K ("Net", some "further")
  | 65 => He.fAd K ("Net", some "across")
  | 68 => He.fAd K ("Net", some "__len__")
  | 69 => He.fAd K ("Net", some "__getitem__")
  | 73 => He.fAd K ("words_of", none)
  | 76 => He.fAd K ("Desk", some "__init__")
  | 77 => He.fAd K ("Desk", some "say")
  | 81 => He.fAd K ("need_groups", none)
  | 82 => He.fAd K ("many_across", none)
  | 83 => He.fAd K ("weak_lot", none)
  | 84 => He.fAd K ("least_groups", none)
  | 85 => He.fAd K ("seen_groups", none)
  | 86 => He.fAd K ("told_groups", none)
  | 87 => He.fAd K ("_law_value", none)
  | 88 => He.fAd K ("law", none)
  | 1590 => He.dflAt ("Net", some "__init__") 0 K
  | _ => 0
def cKc (K : PySem.W.Frag) : Nat → Addr
  | 3 => He.ga K "Desk"
  | 1 => He.ga K "Flow"
  | 2 => He.ga K "Live"
  | 0 => He.ga K "Net"
  | _ => 0
abbrev cK (K : PySem.W.Frag) : CA := ⟨cKc K, fun j => if j = 99 then some (cKc K 0) else none⟩
theorem facts {P : Program} {w : World} {K : PySem.W.Frag} {h : Heap} {mg : Str → Option Value} {f : Addr} (X : K.In h) (G : h.Ns mainGlobals mg) (hfa : mg ("law" : Str) = some (.ref f)) (c : He.SaysD fa fn K) (cx0 : ex K = true) (cp : DL.SaysC fa fn pn ex K) :
    ∃ fd : FuncData, (∀ (s : Shared) (v : Value), BindsTo s fd ⟨[v], []⟩ [("_law_script", v)]) ∧ ∀ base : Heap, K.In base → base.Ns mainGlobals mg → FnG P w K mg base 10 f fd ["_law_script"] (spF K (cK K) [] false 1 F_law) := by
  obtain ⟨cx, cy⟩ := Bool.and_eq_true_iff.mp (show (ex1 K && ex2 K) = true from cx0)
  obtain ⟨y0, cy⟩ := Bool.and_eq_true_iff.mp cy
  obtain ⟨fd1, F1⟩ := c.def_ 0 (d := d_is_integer) rfl
  obtain ⟨fd2, F2⟩ := c.def_ 1 (d := d_is_number) rfl
  obtain ⟨fd3, F3⟩ := c.def_ 2 (d := d_is_sequence) rfl
  obtain ⟨fd4, F4⟩ := c.def_ 3 (d := d_number_in) rfl
  obtain ⟨fd6, F6⟩ := c.def_ 4 (d := d_other_end) rfl
  obtain ⟨fd7, F7⟩ := c.def_ 5 (d := d_side) rfl
  obtain ⟨fd8, F8⟩ := c.def_ 6 (d := d_Flow___init__) rfl
  obtain ⟨fd9, F9⟩ := c.def_ 7 (d := d_Flow_steps_from) rfl
  obtain ⟨fd10, F10⟩ := c.def_ 8 (d := d_Flow_reached) rfl
  obtain ⟨fd11, F11⟩ := c.def_ 9 (d := d_Flow_widen) rfl
  obtain ⟨fd12, F12⟩ := c.def_ 10 (d := d_Flow_widest) rfl
  obtain ⟨fd13, F13⟩ := c.def_ 11 (d := d_Flow_ways) rfl
  obtain ⟨fd14, F14⟩ := c.def_ 12 (d := d_Flow_way_in) rfl
  obtain ⟨fd15, F15⟩ := c.def_ 13 (d := d_ways) rfl
  obtain ⟨fd16, F16⟩ := c.def_ 14 (d := d_cut_between) rfl
  obtain ⟨fd17, F17⟩ := c.def_ 15 (d := d_paper) rfl
  obtain ⟨fd19, F19⟩ := c.def_ 16 (d := d_are_ties_papers) rfl
  obtain ⟨fd20, F20⟩ := c.def_ 17 (d := d_leads) rfl
  obtain ⟨fd21, F21⟩ := c.def_ 18 (d := d_are_apart) rfl
  obtain ⟨fd22, F22⟩ := c.def_ 19 (d := d_paper_holds) rfl
  obtain ⟨fd23, F23⟩ := c.def_ 20 (d := d_all_lots) rfl
  obtain ⟨fd24, F24⟩ := c.def_ 21 (d := d_lots_with_first) rfl
  obtain ⟨fd25, F25⟩ := c.def_ 22 (d := d_least_cut) rfl
  obtain ⟨fd26, F26⟩ := c.def_ 23 (d := d_seen) rfl
  obtain ⟨fd27, F27⟩ := c.def_ 24 (d := d_told) rfl
  obtain ⟨fd28, F28⟩ := c.def_ 25 (d := d_weaker) rfl
  obtain ⟨fd29, F29⟩ := c.def_ 26 (d := d_no_worse) rfl
  obtain ⟨fd30, F30⟩ := c.def_ 27 (d := d_alike) rfl
  obtain ⟨fd31, F31⟩ := c.def_ 28 (d := d_worth) rfl
  obtain ⟨fd32, F32⟩ := c.def_ 29 (d := d_best_ties) rfl
  obtain ⟨fd42, F42⟩ := c.def_ 30 (d := d_Live___init__) rfl
  obtain ⟨fd54, F54⟩ := c.def_ 31 (d := d_is_pair) rfl
  obtain ⟨fd55, F55⟩ := c.def_ 32 (d := d_are_ties_nets) rfl
  obtain ⟨fd56, F56⟩ := c.def_ 33 (d := d_are_joined) rfl
  obtain ⟨fd58, F58⟩ := c.def_ 34 (d := d_numbers_of) rfl
  obtain ⟨fd59, F59⟩ := c.def_ 35 (d := d_Net___init__) rfl
  obtain ⟨fd61, F61⟩ := c.def_ 36 (d := d_Net_need_tie) rfl
  obtain ⟨fd64, F64⟩ := c.def_ 37 (d := d_Net_further) rfl
  obtain ⟨fd65, F65⟩ := c.def_ 38 (d := d_Net_across) rfl
  obtain ⟨fd68, F68⟩ := c.def_ 39 (d := d_Net___len__) rfl
  obtain ⟨fd69, F69⟩ := c.def_ 40 (d := d_Net___getitem__) rfl
  obtain ⟨fd73, F73⟩ := c.def_ 41 (d := d_words_of) rfl
  obtain ⟨fd76, F76⟩ := c.def_ 42 (d := d_Desk___init__) rfl
  obtain ⟨fd77, F77⟩ := c.def_ 43 (d := d_Desk_say) rfl
  obtain ⟨fd81, F81⟩ := c.def_ 44 (d := d_need_groups) rfl
  obtain ⟨fd82, F82⟩ := c.def_ 45 (d := d_many_across) rfl
  obtain ⟨fd83, F83⟩ := c.def_ 46 (d := d_weak_lot) rfl
  obtain ⟨fd84, F84⟩ := c.def_ 47 (d := d_least_groups) rfl
  obtain ⟨fd85, F85⟩ := c.def_ 48 (d := d_seen_groups) rfl
  obtain ⟨fd86, F86⟩ := c.def_ 49 (d := d_told_groups) rfl
  obtain ⟨fd87, F87⟩ := c.def_ 50 (d := d__law_value) rfl
  obtain ⟨fd88, F88⟩ := c.def_ 51 (d := d_law) rfl
  obtain ⟨fd60, F60⟩ := cp.prop 0 (d := d_Net_read) rfl
  have e := hfa.symm.trans (He.glo_ok X G (c.fact 15 (f := .glo "law") rfl))
  cases e
  let fdf : Nat → FuncData := fun n => match n with
    | 1 => fd1
    | 2 => fd2
    | 3 => fd3
    | 4 => fd4
    | 6 => fd6
    | 7 => fd7
    | 8 => fd8
    | 9 => fd9
    | 10 => fd10
    | 11 => fd11
    | 12 => fd12
    | 13 => fd13
    | 14 => fd14
    | 15 => fd15
    | 16 => fd16
    | 17 => fd17
    | 19 => fd19
    | 20 => fd20
    | 21 => fd21
    | 22 => fd22
    | 23 => fd23
    | 24 => fd24
    | 25 => fd25
    | 26 => fd26
    | 27 => fd27
    | 28 => fd28
    | 29 => fd29
    | 30 => fd30
    | 31 => fd31
    | 32 => fd32
    | 42 => fd42
    | 54 => fd54
    | 55 => fd55
    | 56 => fd56
    | 58 => fd58
    | 59 => fd59
    | 60 => fd60
    | 61 => fd61
    | 64 => fd64
    | 65 => fd65
    | 68 => fd68
    | 69 => fd69
    | 73 => fd73
    | 76 => fd76
    | 77 => fd77
    | 81 => fd81
    | 82 => fd82
    | 83 => fd83
    | 84 => fd84
    | 85 => fd85
    | 86 => fd86
    | 87 => fd87
    | 88 => fd88
    | _ => fd1
  have g : Gl K mg (cKc K) (adK K) fdf := {
    f_is_integer := F1
    f_is_number := F2
    f_is_sequence := F3
    f_number_in := F4
    f_other_end := F6
    f_side := F7
    f_Flow___init__ := F8
    f_Flow_steps_from := F9
    f_Flow_reached := F10
    f_Flow_widen := F11
    f_Flow_widest := F12
    f_Flow_ways := F13
    f_Flow_way_in := F14
    f_ways := F15
    f_cut_between := F16
    f_paper := F17
    f_are_ties_papers := F19
    f_leads := F20
    f_are_apart := F21
    f_paper_holds := F22
    f_all_lots := F23
    f_lots_with_first := F24
    f_least_cut := F25
    f_seen := F26
    f_told := F27
    f_weaker := F28
    f_no_worse := F29
    f_alike := F30
    f_worth := F31
    f_best_ties := F32
    f_Live___init__ := F42
    f_is_pair := F54
    f_are_ties_nets := F55
    f_are_joined := F56
    f_numbers_of := F58
    f_Net___init__ := F59
    f_Net_read := F60
    f_Net_need_tie := F61
    f_Net_further := F64
    f_Net_across := F65
    f_Net___len__ := F68
    f_Net___getitem__ := F69
    f_words_of := F73
    f_Desk___init__ := F76
    f_Desk_say := F77
    f_need_groups := F81
    f_many_across := F82
    f_weak_lot := F83
    f_least_groups := F84
    f_seen_groups := F85
    f_told_groups := F86
    f__law_value := F87
    f_law := F88
    g__law_value := He.glo_ok X G (c.fact 2 (f := .glo "_law_value") rfl)
    g_alike := He.glo_ok X G (c.fact 3 (f := .glo "alike") rfl)
    g_all_lots := He.glo_ok X G (c.fact 4 (f := .glo "all_lots") rfl)
    g_are_apart := He.glo_ok X G (c.fact 5 (f := .glo "are_apart") rfl)
    g_are_joined := He.glo_ok X G (c.fact 6 (f := .glo "are_joined") rfl)
    g_are_ties_nets := He.glo_ok X G (c.fact 7 (f := .glo "are_ties_nets") rfl)
    g_are_ties_papers := He.glo_ok X G (c.fact 8 (f := .glo "are_ties_papers") rfl)
    g_best_ties := He.glo_ok X G (c.fact 9 (f := .glo "best_ties") rfl)
    g_cut_between := He.glo_ok X G (c.fact 10 (f := .glo "cut_between") rfl)
    g_is_integer := He.glo_ok X G (c.fact 11 (f := .glo "is_integer") rfl)
    g_is_number := He.glo_ok X G (c.fact 12 (f := .glo "is_number") rfl)
    g_is_pair := He.glo_ok X G (c.fact 13 (f := .glo "is_pair") rfl)
    g_is_sequence := He.glo_ok X G (c.fact 14 (f := .glo "is_sequence") rfl)
    g_leads := He.glo_ok X G (c.fact 16 (f := .glo "leads") rfl)
    g_least_cut := He.glo_ok X G (c.fact 17 (f := .glo "least_cut") rfl)
    g_least_groups := He.glo_ok X G (c.fact 18 (f := .glo "least_groups") rfl)
    g_lots_with_first := He.glo_ok X G (c.fact 19 (f := .glo "lots_with_first") rfl)
    g_many_across := He.glo_ok X G (c.fact 20 (f := .glo "many_across") rfl)
    g_need_groups := He.glo_ok X G (c.fact 21 (f := .glo "need_groups") rfl)
    g_no_worse := He.glo_ok X G (c.fact 22 (f := .glo "no_worse") rfl)
    g_number_in := He.glo_ok X G (c.fact 23 (f := .glo "number_in") rfl)
    g_numbers_of := He.glo_ok X G (c.fact 24 (f := .glo "numbers_of") rfl)
    g_other_end := He.glo_ok X G (c.fact 25 (f := .glo "other_end") rfl)
    g_paper := He.glo_ok X G (c.fact 26 (f := .glo "paper") rfl)
    g_paper_holds := He.glo_ok X G (c.fact 27 (f := .glo "paper_holds") rfl)
    g_seen := He.glo_ok X G (c.fact 28 (f := .glo "seen") rfl)
    g_seen_groups := He.glo_ok X G (c.fact 29 (f := .glo "seen_groups") rfl)
    g_side := He.glo_ok X G (c.fact 30 (f := .glo "side") rfl)
    g_told := He.glo_ok X G (c.fact 31 (f := .glo "told") rfl)
    g_told_groups := He.glo_ok X G (c.fact 32 (f := .glo "told_groups") rfl)
    g_ways := He.glo_ok X G (c.fact 33 (f := .glo "ways") rfl)
    g_weak_lot := He.glo_ok X G (c.fact 34 (f := .glo "weak_lot") rfl)
    g_weaker := He.glo_ok X G (c.fact 35 (f := .glo "weaker") rfl)
    g_words_of := He.glo_ok X G (c.fact 36 (f := .glo "words_of") rfl)
    g_worth := He.glo_ok X G (c.fact 37 (f := .glo "worth") rfl)
    fr_abs := He.free_ok X G (c.fact 42 (f := .free "abs") rfl)
    fr_all := He.free_ok X G (c.fact 43 (f := .free "all") rfl)
    fr_bool := He.free_ok X G (c.fact 44 (f := .free "bool") rfl)
    fr_enumerate := He.free_ok X G (c.fact 45 (f := .free "enumerate") rfl)
    fr_int := He.free_ok X G (c.fact 46 (f := .free "int") rfl)
    fr_isinstance := He.free_ok X G (c.fact 47 (f := .free "isinstance") rfl)
    fr_len := He.free_ok X G (c.fact 48 (f := .free "len") rfl)
    fr_list := He.free_ok X G (c.fact 49 (f := .free "list") rfl)
    fr_min := He.free_ok X G (c.fact 50 (f := .free "min") rfl)
    fr_range := He.free_ok X G (c.fact 51 (f := .free "range") rfl)
    fr_sorted := He.free_ok X G (c.fact 52 (f := .free "sorted") rfl)
    fr_str := He.free_ok X G (c.fact 53 (f := .free "str") rfl)
    fr_tuple := He.free_ok X G (c.fact 54 (f := .free "tuple") rfl)
    cl3 := He.cls_ok (c.fact 55 (f := .cls "Desk") rfl)
    cl1 := He.cls_ok (c.fact 56 (f := .cls "Flow") rfl)
    cl2 := He.cls_ok (c.fact 57 (f := .cls "Live") rfl)
    cl0 := He.cls_ok (c.fact 58 (f := .cls "Net") rfl)
    na3_live := He.noat_ok (c.fact 59 (f := .noat "Desk" "live") rfl)
    na1_begin := He.noat_ok (c.fact 60 (f := .noat "Flow" "begin") rfl)
    na1_goal := He.noat_ok (c.fact 61 (f := .noat "Flow" "goal") rfl)
    na1_gone := He.noat_ok (c.fact 62 (f := .noat "Flow" "gone") rfl)
    na1_ties := He.noat_ok (c.fact 63 (f := .noat "Flow" "ties") rfl)
    na2_kept := He.noat_ok (c.fact 64 (f := .noat "Live" "kept") rfl)
    na2_net := He.noat_ok (c.fact 65 (f := .noat "Live" "net") rfl)
    na0_posts := He.noat_ok (c.fact 66 (f := .noat "Net" "posts") rfl)
    na0_ties := He.noat_ok (c.fact 67 (f := .noat "Net" "ties") rfl)
    me3_say := He.meth_ok (c.fact 68 (f := .meth "Desk" "say") rfl)
    me1_reached := He.meth_ok (c.fact 69 (f := .meth "Flow" "reached") rfl)
    me1_steps_from := He.meth_ok (c.fact 70 (f := .meth "Flow" "steps_from") rfl)
    me1_way_in := He.meth_ok (c.fact 71 (f := .meth "Flow" "way_in") rfl)
    me1_ways := He.meth_ok (c.fact 72 (f := .meth "Flow" "ways") rfl)
    me1_widen := He.meth_ok (c.fact 73 (f := .meth "Flow" "widen") rfl)
    me1_widest := He.meth_ok (c.fact 74 (f := .meth "Flow" "widest") rfl)
    me0___getitem__ := He.meth_ok (c.fact 75 (f := .meth "Net" "__getitem__") rfl)
    me0___len__ := He.meth_ok (c.fact 76 (f := .meth "Net" "__len__") rfl)
    me0_across := He.meth_ok (c.fact 77 (f := .meth "Net" "across") rfl)
    me0_further := He.meth_ok (c.fact 78 (f := .meth "Net" "further") rfl)
    me0_need_tie := He.meth_ok (c.fact 79 (f := .meth "Net" "need_tie") rfl)
    mk3 := He.mkr_ok (c.fact 80 (f := .mkr "Desk") rfl)
    gc3 := He.glo_ok X G (c.fact 38 (f := .glo "Desk") rfl)
    mk1 := He.mkr_ok (c.fact 81 (f := .mkr "Flow") rfl)
    gc1 := He.glo_ok X G (c.fact 39 (f := .glo "Flow") rfl)
    mk2 := He.mkr_ok (c.fact 82 (f := .mkr "Live") rfl)
    gc2 := He.glo_ok X G (c.fact 40 (f := .glo "Live") rfl)
    mk0 := He.mkr_ok (c.fact 83 (f := .mkr "Net") rfl)
    gc0 := He.glo_ok X G (c.fact 41 (f := .glo "Net") rfl)
    dt1590 := fun H => emB_ok cx H
    cr0 := (clsmB_ok y0).1
    cm0_read := (clsmB_ok y0).2
    k_DIGITS := He.str_ok X G (c.fact 0 (f := .str "DIGITS" "0123456789") rfl)
    k_MOST_DIGITS := He.int_ok X G (c.fact 1 (f := .int "MOST_DIGITS" 2) rfl) }
  have b := FunD.bindsA (ps := ["_law_script"]) F88 fun _ _ _ _ _ _ us hl => match us, hl with | [_], _ => rfl
  exact ⟨fd88, fun s v => b s [v] rfl, fun base _ _ => ok_law (C := cK K) g rfl rfl⟩
end LW
open PySem PySem.W PySem.Calls PyProof.Rows in
theorem LW.fin (pl : ∀ ns : List Int, ns.length ≤ 63 → LW.F_law [.scr ns] = some (.bl true, [])) : PySem.Challenge.rw_levelties_k53_arguments_by_names.Holds := by
  w_on; o_law
  refine HandSHeadRun.head_any (r := OpenLaw.row PySem.Challenge.rw_levelties_k53_arguments_by_names) (q := view (OpenLaw.row PySem.Challenge.rw_levelties_k53_arguments_by_names).prog [79]) (H := LW.hk) (ob := LW.ob) (M := 6000) (loose := LW.loose) (d := HandSHeadRun.topDef (OpenLaw.row PySem.Challenge.rw_levelties_k53_arguments_by_names).prog 79) (kwd := []) LW.ob_eq
    (by kernel_rfl) (fun s => by kernel_rfl) LW.run (by kernel_rfl) (by kernel_rfl) (by kernel_rfl) (by rfl) (by first | assumption | decide +kernel) (by decide +kernel) ⟨rfl, rfl, rfl, rfl, rfl, by decide +kernel⟩ ?hw ?hc
  case hw => w_witness2
  case hc =>
    refine L2.walkG (l := PySem.Challenge.rw_levelties_k53_arguments_by_names) (n := 63) (k := 10) (y := "_law_script") rfl (by decide) (by kernel_rfl) ⟨rfl, by decide, by decide⟩ ?F
    intro w mg fa h Y G hmg0
    obtain ⟨K, KX, c⟩ := Y
    have hmg : mg ("law" : PySem.Str) = some (.ref fa) := by
      have e : (HandSHeadRun.topDef (OpenLaw.row PySem.Challenge.rw_levelties_k53_arguments_by_names).prog 79).name = ("law" : PySem.Str) := by kernel_rfl
      rw [← e]
      exact hmg0
    have cD : He.SaysD LW.fa LW.fn K := c.d
    obtain ⟨fd, hb, hF⟩ := LW.facts (P := (PySem.Challenge.rw_levelties_k53_arguments_by_names).prog) (w := w) KX G hmg cD c.more c
    exact ⟨K, fd, DL.spF K (LW.cK K) [] false 1 LW.F_law, KX, hb, fun H a ns hl _ hS => DL.law_sp hS (pl ns hl), hF⟩

namespace DL
open PySem L2
section
variable {f g : EF} {fa : AF} {env e1 e2 : Env} {s t : Str} {d : D} {ds outs dd : List D} {ff : FF} {i j kk np : Nat}
theorem q_Split (h1 : f env = some (.val (.str s), e1)) (h2 : g e1 = some (.val (.str t), e2)) (h3 : splitD s t = some d) : oSplit f g env = some (d, e2) := by
  simp only [oSplit, h1, h2, h3, Option.bind_some]
theorem q_Cm (h1 : AV fa env ds e1) (h2 : ff (.cel j :: ds) = some (d, outs)) (hl : (D.cel j :: ds).length = np) : fCm j np ff fa env = some (.val d, e1) := by
  unfold AV at h1
  subst hl
  simp only [fCm, h1, vals_map, h2, Option.bind_some, if_true]
theorem q_MkL {r : D × Env} (h0 : gt env i = some (.cel j)) (h : oMk kk np ff dd fa env = some r) : oMkL i j kk np ff dd fa env = some r := by
  simp only [oMkL, h0, if_true, h]
theorem q_iS (h1 : f env = some (.val (.str s), e1)) (h2 : s.cps.size ≤ 16777216) : iS f env = some (s.cps.toList.map fun n => D.str ⟨#[n]⟩, e1) := by
  simp only [iS, h1, Option.bind_some]
  exact gd_of h2 rfl
end
end DL

namespace LW
open PySem L2 DL
abbrev E (ns : List Int) (x1 x2 x3 x4 x5 x6 x7 : Option D) : DL.Env := [some (.scr ns), x1, x2, x3, x4, x5, x6, x7]
local macro_rules | `(tactic| walk_at "rdi") => `(tactic| first | exact lt_T (by omega) | exact lt_F (by omega) | exact le_T (by omega) | exact le_F (by omega) | exact gt_T (by omega) | exact gt_F (by omega) | exact ge_T (by omega) | exact ge_F (by omega) | exact eq_T (by omega) | exact eq_F (by omega) | exact ne_T (by omega) | exact ne_F (by omega))
local macro_rules | `(tactic| walk_at "rd1") => `(tactic| first
  | (with_reducible first
    | (show @Eq (Option _) _ _; assumption)
    | exact q_fC | apply q_V | apply q_S | apply gtS | exact gt0 | apply stS | exact st0
    | exact av_N | apply av_C | exact as_N | apply as_C | exact rds_N | apply rds_C | exact rdb_v | apply rdb_s
    | apply q_Q | apply th_nx | exact th_rt | exact th_bk | exact th_ct | exact r_N
    | apply r_set | apply r_setO | apply q_sIf | apply q_setIx | apply q_LenO | apply sk_T | apply sk_F | apply q_2 | apply r_T | apply q_B | apply q_C0 | apply q_C1 | apply q_OC0 | apply q_OC1 | apply q_OB | apply r_O | apply q_P
    | apply r_R | apply r_RO | apply q_not | exact nt_T | exact nt_F | apply q_and | apply q_or | apply tk_T | apply tk_F | exact tfl_ok | exact ttr_ok
    | apply q_andV | apply q_orV | apply ek_T | apply ek_F | apply q_if | apply q_notV | apply q_tup | apply q_lst | apply q_Me | apply q_At | apply q_Is | apply q_Mk | apply q_Ch | exact q_thru
    | apply q_par | apply q_par3 | apply q_par3O | apply q_aug | apply q_neg | apply r_asg | apply r_sXL | apply q_MtL | apply q_Ext | apply q_M | apply q_oSl | apply q_frz | apply wp_nx | exact wp_rt | apply wp_bk | apply wp_ct
    | apply r_for | apply q_Xv | apply r_En | apply q_fT | apply q_gUT | apply q_gUL | apply q_gN | apply q_gC | exact q_gN0 | apply q_Lc | exact wp0 | apply wpS | exact bk0 | apply bkS
    | apply q_Cel | apply q_setIxE | apply q_MeC | apply q_MeI | apply q_ixO | apply q_C0d | apply q_C00 | exact q_pN | (show @Eq (Option Fl) (some _) _; exact rfl) | apply q_MulL | exact app_N | apply app_C | exact q_Di0 | exact q_YesF | apply q_pI | apply q_En | apply q_Z | exact len_L | exact len_T
    | ((first | show @Eq Bool _ _ | show @Eq (List _) _ _ | show @Eq D _ _ | show @Eq Nat _ _); assumption))
  | ((with_reducible (first | show @Eq (Option Fl) (forD _ _ _ _) _ | show @Eq (Option Fl) (whD _ _ _ _) _ | show @Eq (Option (List D × List (Option D))) (lcD _ _ _ _ _ _ _) _)); assumption)
  | ((with_reducible show @Eq (Option D) _ _); walk_at "rdi")
  | (with_reducible apply q_ap; omega)
  | ((with_reducible (first | show @Eq (Option D) _ _ | show @Eq (Option (List D)) _ _ | show @Eq (Option Bool) _ _ | show @Eq (Option (D × D)) _ _ | show @Eq (List D) _ _ | show @Eq D _ _ | show @Eq Bool _ _ | show @Eq Nat _ _ | show @Eq (Option Key) _ _ | show @Eq B _ _ | show @Eq (List (Option D)) _ _ | show @Eq (Option (List (Option D))) _ _ | show @Eq (Option Str) _ _)); exact rfl)
  | (with_reducible apply q_R1)
  | (show @LE.le Int _ _ _; omega)
  | (show @LE.le Nat _ _ _; first | exact Nat.zero_le _ | (with_reducible exact Nat.le_of_ble_eq_true rfl) | exact Nat.le_of_ble_eq_true rfl | omega | (simp only [List.length_map, List.length_append, List.length_range, List.length_cons, List.length_nil]; omega)))
local macro_rules | `(tactic| walk_at "rd") => `(tactic| repeat' (walk_at "rd1"))
local macro_rules | `(tactic| walk_at "rd1") => `(tactic| (with_reducible first | apply q_Split | apply q_Cm | apply q_MkL | apply q_iS))
/-! ### a value from 0 to 2 of all cells -/
theorem val_turn {d : D} {a c : Int} {x2 : Option D} (h0 : 0 ≤ a) (h1 : a < 1000003) : ∃ b : Int, 0 ≤ b ∧ b < 1000003 ∧ lp__law_value_1 [some d, some (.int a), some (.int c)] = some (.nx [some d, some (.int b), some (.int c)]) := by
  obtain ⟨k, hk⟩ : ∃ k : Int, absD [.int c] = some (.int k) := ⟨_, rfl⟩
  have m1 : mulD (.int a) (.int 31) = some (.int (a * 31)) := by
    show (if mulB a 31 then some (D.int (a * 31)) else none) = _
    have : mulB a 31 = true := by
      unfold mulB
      rw [Bool.or_eq_true]
      exact .inr rfl
    rw [if_pos this]
  have m2 : modD (.int k) (.int 1000003) = some (.int (k.fmod 1000003)) := rfl
  have m3 : addD (.int (a * 31)) (.int (k.fmod 1000003)) = some (.int (a * 31 + k.fmod 1000003)) := rfl
  have m4 : addD (.int (a * 31 + k.fmod 1000003)) (.int 1) = some (.int (a * 31 + k.fmod 1000003 + 1)) := rfl
  have m5 : modD (.int (a * 31 + k.fmod 1000003 + 1)) (.int 1000003) = some (.int ((a * 31 + k.fmod 1000003 + 1).fmod 1000003)) := rfl
  refine ⟨(a * 31 + k.fmod 1000003 + 1).fmod 1000003, Int.fmod_nonneg_of_pos _ (by decide), Int.fmod_lt_of_pos _ (by decide), ?_⟩
  exact r_set (r_2 (r_2 (r_2 (r_2 rfl rfl rfl rfl m1) (r_2 (r_B (r_aC rfl r_aN) rfl hk) rfl rfl rfl m2) rfl rfl m3) rfl rfl rfl m4) rfl rfl rfl m5) rfl
theorem val_loop {d : D} : ∀ (ns : List Int) (a : Int) (x2 : Option D), 0 ≤ a → a < 1000003 → ∃ (b : Int) (y2 : Option D), 0 ≤ b ∧ b < 1000003 ∧ forD (gN 2) lp__law_value_1 (ns.map D.int) [some d, some (.int a), x2] = some (.nx [some d, some (.int b), y2])
  | [], a, x2, h0, h1 => ⟨a, x2, h0, h1, rfl⟩
  | c :: ns, a, x2, h0, h1 => by
    obtain ⟨b, p0, p1, w⟩ := val_turn (d := d) (c := c) (x2 := x2) h0 h1
    obtain ⟨b2, y2, q0, q1, w2⟩ := val_loop ns b (some (.int c)) p0 p1
    exact ⟨b2, y2, q0, q1, r_forC (ds := ns.map D.int) rfl w w2⟩
theorem value_ok (ns : List Int) : ∃ z : Int, 0 ≤ z ∧ z < 3 ∧ F__law_value [.scr ns] = some (.int z, []) := by
  have cl : (cutD (ns.map D.int) none (some 50)).length ≤ 16777216 := by
    unfold cutD
    rw [List.length_take]
    refine Nat.le_trans (Nat.min_le_left _ _) (Nat.le_trans (Nat.sub_le _ _) (Nat.le_trans (m := 50) ?_ (by decide)))
    unfold HT.sIx
    simp
    omega
  have ec : ∃ ms : List Int, cutD (ns.map D.int) none (some 50) = ms.map D.int := ⟨_, by
    unfold cutD
    rw [← List.map_drop, ← List.map_take]⟩
  obtain ⟨ms, ec⟩ := ec
  obtain ⟨b, y2, p0, p1, w⟩ := val_loop (d := .scr ns) ms 73 none (by decide) (by decide)
  have f1 : fSlcN (fV 0) pN (pI (fC (.int 50))) [some (.scr ns), some (.int 73), none] = some (.val (.lst (ms.map D.int)), [some (.scr ns), some (.int 73), none]) := by
    rw [← ec]
    show gd (cutD (ns.map D.int) none (some 50)).length (some _) = _
    unfold gd
    rw [if_pos cl]
  have m1 : fdivD (.int b) (.int 7) = some (.int (b.fdiv 7)) := rfl
  have m2 : modD (.int (b.fdiv 7)) (.int 3) = some (.int ((b.fdiv 7).fmod 3)) := rfl
  refine ⟨(b.fdiv 7).fmod 3, Int.fmod_nonneg_of_pos _ (by decide), Int.fmod_lt_of_pos _ (by decide), ?_⟩
  exact r_run (r_Q (r_set rfl rfl) (r_Q (r_for (r_X f1 rfl) w) (r_R (r_2 (r_2 rfl rfl rfl rfl m1) rfl rfl rfl m2)))) rfl
/-! ### the rest is closed -/
def rest53 : SF := (sQ (sSet 2 (fO (oMk 0 3 F_Net___init__ [] (aC (fC (.int 3)) (aC (fO (oLst (aC (fTup (aC (fC (.int 0)) (aC (fC (.int 1)) aN))) (aC (fTup (aC (fC (.int 1)) (aC (fC (.int 2)) aN))) (aC (fTup (aC (fC (.int 2)) (aC (fC (.int 0)) aN))) aN))))) aN))))) (sQ (sSet 3 (fO (oMk 0 3 F_Net___init__ [] (aC (fC (.int 3)) (aC (fO (oLst (aC (fTup (aC (fC (.int 0)) (aC (fC (.int 1)) aN))) (aC (fTup (aC (fC (.int 1)) (aC (fC (.int 2)) aN))) (aC (fTup (aC (fV 1) (aC (f2 modD (f2 addD (fV 1) (fC (.int 1))) (fC (.int 3))) aN))) aN))))) aN))))) (sQ (sSetO 4 (oLst (aC (fTup (aC (fB lenD (aC (fKw [2, 1, 0] 3 3 F_ways (aC (fC (.int 2)) (aC (fC (.int 0)) (aC (fV 2) aN)))) aN)) (aC (fC (.int 2)) aN))) aN))) (sQ (sX (fMt 4 appD (aC (fTup (aC (f2 isND (fKw [2, 1, 0] 3 3 F_cut_between (aC (fC (.int 2)) (aC (fC (.int 0)) (aC (fV 3) aN)))) (fC .non)) (aC (f2 isND (fC0 3 F_cut_between [] (aC (fV 3) (aC (fC (.int 0)) (aC (fC (.int 2)) aN)))) (fC .non)) aN))) aN))) (sQ (sX (fMt 4 appD (aC (fTup (aC (f2 isND (fKw [1, 0] 2 2 F_paper (aC (fC (.int 1)) (aC (fV 2) aN))) (fC .non)) (aC (f2 isND (fC0 2 F_paper [] (aC (fV 2) (aC (fC (.int 1)) aN))) (fC .non)) aN))) aN))) (sQ (sX (fMt 4 appD (aC (fTup (aC (fKw [2, 1, 0] 3 3 F_paper_holds (aC (fC0 2 F_paper [] (aC (fV 2) (aC (fC (.int 1)) aN))) (aC (fC (.int 1)) (aC (fV 2) aN)))) (aC (fC (.bl true)) aN))) aN))) (sQ (sSetO 4 (oCat (fS 4) (fO (oLst (aC (fTup (aC (fKw [1, 0] 2 2 F_seen_groups (aC (fO (oLst (aC (fC (.int 0)) (aC (fV 1) (aC (fC (.int 2)) aN))))) (aC (fV 2) aN))) (aC (fC0 2 F_seen_groups [] (aC (fV 2) (aC (fO (oLst (aC (fC (.int 0)) (aC (fV 1) (aC (fC (.int 2)) aN))))) aN))) aN))) aN))))) (sQ (sX (fMt 4 appD (aC (fTup (aC (fKw [1, 0] 2 2 F_told_groups (aC (fO (oLst (aC (fC (.int 0)) (aC (fV 1) (aC (fC (.int 2)) aN))))) (aC (fV 2) aN))) (aC (fC0 2 F_told_groups [] (aC (fV 2) (aC (fO (oLst (aC (fC (.int 0)) (aC (fV 1) (aC (fC (.int 2)) aN))))) aN))) aN))) aN))) (sQ (sSet 5 (fO (oLst (aC (fC (.int 0)) (aC (fV 1) (aC (fC (.int 2)) aN)))))) (sQ (sX (fMt 4 appD (aC (fTup (aC (f2 isND (fKw [1, 0] 2 2 F_weak_lot (aC (fV 5) (aC (fV 2) aN))) (fC .non)) (aC (f2 isND (fC0 2 F_weak_lot [] (aC (fV 2) (aC (fV 5) aN))) (fC .non)) aN))) aN))) (sQ (sSetO 4 (oCat (fS 4) (fO (oLst (aC (fTup (aC (fKw [1, 0] 2 2 F_no_worse (aC (fV 3) (aC (fV 2) aN))) (aC (fC0 2 F_no_worse [] (aC (fV 2) (aC (fV 3) aN))) aN))) (aC (fTup (aC (fKw [1, 0] 2 2 F_alike (aC (fV 3) (aC (fV 2) aN))) (aC (f2 eqD (fV 1) (fC (.int 2))) aN))) aN)))))) (sQ (sX (fMt 4 appD (aC (fTup (aC (f2 isND (fKw [1, 0] 2 2 F_weaker (aC (fV 2) (aC (fV 3) aN))) (fC .non)) (aC (f2 isND (fC0 2 F_weaker [] (aC (fV 3) (aC (fV 2) aN))) (fC .non)) aN))) aN))) (sQ (sSetO 4 (oCat (fS 4) (fO (oLst (aC (fTup (aC (fKw [2, 1, 0] 3 3 F_worth (aC (fC (.int 2)) (aC (fC (.int 0)) (aC (fV 3) aN)))) (aC (fC0 3 F_worth [] (aC (fV 3) (aC (fC (.int 0)) (aC (fC (.int 2)) aN)))) aN))) (aC (fTup (aC (fKw [0] 1 1 F_best_ties (aC (fV 2) aN)) (aC (fC0 1 F_best_ties [] (aC (fV 2) aN)) aN))) aN)))))) (sQ (sX (fMt 4 appD (aC (fTup (aC (fTkw 3 "say" [0] 1 2 F_Desk___init__ F_Desk_say (aC (fC (.str "net posts 2 ; tie 0 1")) aN)) (aC (fC (.str "1")) aN))) aN))) (sFrz 4 (sR (f2 eqD (fO (oLc (iX (fV 4)) (gT 2 (gC (gN 6) (gC (gN 7) gN0))) (fTst (f2 neD (fV 6) (fV 7))) (fC (.int 1)) [6, 7])) (fO (oLst aN)))))))))))))))))))
theorem law_rest : b_law = sQ (sSet 1 (fC0 1 F__law_value [] (aC (fV 0) aN))) rest53 := rfl
theorem rest_0 {ns : List Int} : (rest53 (E ns (some (.int 0)) none none none none none none)).bind (endF []) = some (.bl true, []) := by kernel_rfl
theorem rest_1 {ns : List Int} : (rest53 (E ns (some (.int 1)) none none none none none none)).bind (endF []) = some (.bl true, []) := by kernel_rfl
theorem rest_2 {ns : List Int} : (rest53 (E ns (some (.int 2)) none none none none none none)).bind (endF []) = some (.bl true, []) := by kernel_rfl
theorem plain (ns : List Int) (hn : ns.length ≤ 63) : F_law [.scr ns] = some (.bl true, []) := by
  obtain ⟨z, z0, z3, v⟩ := value_ok ns
  have s1 : (sSet 1 (fC0 1 F__law_value [] (aC (fV 0) aN))) (E ns none none none none none none none) = some (.nx (E ns (some (.int z)) none none none none none none)) := r_set (r_C0 (r_aC rfl r_aN) rfl v rfl) rfl
  have hr : (rest53 (E ns (some (.int z)) none none none none none none)).bind (endF []) = some (.bl true, []) := by
    have : z = 0 ∨ z = 1 ∨ z = 2 := by omega
    rcases this with rfl | rfl | rfl
    · exact rest_0
    · exact rest_1
    · exact rest_2
  obtain ⟨fl, h1, h2⟩ := Option.bind_eq_some_iff.mp hr
  refine r_run (fl := fl) ?_ h2
  rw [law_rest]
  show sQ _ rest53 (E ns none none none none none none none) = some fl
  exact r_Q s1 h1
end LW
theorem PySem.Challenge.cw_levelties_k53_arguments_by_names_holds : PySem.Challenge.rw_levelties_k53_arguments_by_names.Holds :=
  LW.fin LW.plain

