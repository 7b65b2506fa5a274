import PyProof.Rows.All
import Wide.All
import OpenK.AllK
import Wide.FinOn
import PySem.Challenge.RW_xm0715_01
open PySem PySem.W PyProof.Rows
set_option Elab.async false
set_option maxRecDepth 100000
set_option linter.all false
namespace Mine

theorem two_of {α : Type} {l : List α} (h : l.length = 2) : ∃ a b, l = [a, b] := by
  match l, h with
  | [a, b], _ => exact ⟨a, b, rfl⟩
theorem two_at {α : Type} {P : Nat → α → Prop} {a b x : α} {i : Nat} (e : [a, b][i]? = some x) (h0 : P 0 a) (h1 : P 1 b) : P i x := by
  match i, e with
  | 0, e => cases e; exact h0
  | 1, e => cases e; exact h1
  | i + 2, e => simp at e

/-! ## the given program's defs, by their place -/
def defAt (i : Nat) : Stmt := (PySem.Challenge.pw_xm0715_01.main.body[i]?).getD (.Pass ⟨0, 0, 0, 0⟩)
def dParams : Stmt → Arguments
  | .FunctionDef (args := a) .. => a
  | _ => ⟨[], [], none, [], [], none, []⟩
def dBody : Stmt → List Stmt
  | .FunctionDef (body := b) .. => b
  | _ => []
def dScope : Stmt → Scope
  | .FunctionDef (scope := s) .. => s
  | _ => { kind := .module, names := [], isGenerator := false, isCoroutine := false, more := [] }

/-! ## sequences in a heap -/
def SeqAt (h : Heap) (c : String) (a : Addr) (items : Array Value) : Prop := ∃ o, h.get? a = some o ∧ o.cls = .type c ∧ ∃ n, o.data = .seq items n
theorem SeqAt.isList {h : Heap} {a : Addr} {items : Array Value} (x : SeqAt h "list" a items) : h.IsList a items := x
theorem SeqAt.isTup {h : Heap} {a : Addr} {items : Array Value} (x : SeqAt h "tuple" a items) : IsTup h a items := x
theorem SeqAt.isTuple {h : Heap} {a : Addr} {items : Array Value} (x : SeqAt h "tuple" a items) : h.IsTuple a items := x
theorem SeqAt.keeps {h h' : Heap} {c : String} {a : Addr} {items : Array Value} (x : SeqAt h c a items) (k : ∀ b o, h.get? b = some o → h'.get? b = some o) : SeqAt h' c a items :=
  let ⟨o, ho, r⟩ := x; ⟨o, k _ _ ho, r⟩
theorem SeqAt.keepX {h h' : Heap} {c : String} {a : Addr} {items : Array Value} (x : SeqAt h c a items) {l : List Addr} (k : ∀ b o, b ∉ l → h.get? b = some o → h'.get? b = some o) (hn : a ∉ l) : SeqAt h' c a items :=
  let ⟨o, ho, r⟩ := x; ⟨o, k _ _ hn ho, r⟩
theorem SeqAt.get {h : Heap} {c : String} {a : Addr} {items : Array Value} (x : SeqAt h c a items) : ∃ o, h.get? a = some o := let ⟨o, ho, _⟩ := x; ⟨o, ho⟩

theorem ns_ne {h : Heap} {L a : Addr} {m : Str → Option Value} {c : String} {items : Array Value} (n : h.Ns L m) (x : SeqAt h c a items) : a ≠ L := by
  rintro rfl
  obtain ⟨o, es, ep, ho, hd, _⟩ := n
  obtain ⟨o', ho', _, k, hd'⟩ := x
  rw [ho] at ho'; cases ho'; rw [hd] at hd'; cases hd'

abbrev Led := List (Addr × String × Array Value)
abbrev Mut := List (Addr × Array Value)

/-- a frame at L over what is laid for good (B), the lists that may turn (Mu), and what was made on the way (X) -/
structure Wx (B : Heap) (L : Addr) (Mu : Mut) (X : Led) (h : Heap) (m : Str → Option Value) : Prop where
  ns : h.Ns L m
  keep : ∀ b o, B.get? b = some o → h.get? b = some o
  nL : B.get? L = none
  mu : ∀ p ∈ Mu, SeqAt h "list" p.1 p.2 ∧ B.get? p.1 = none
  nd : (Mu.map (·.1)).Nodup
  led : ∀ p ∈ X, SeqAt h p.2.1 p.1 p.2.2 ∧ p.1 ∉ Mu.map (·.1) ∧ B.get? p.1 = none

section
variable {B h h' : Heap} {L : Addr} {Mu : Mut} {X : Led} {m m' : Str → Option Value}

theorem Wx.muL (W : Wx B L Mu X h m) : L ∉ Mu.map (·.1) := fun q => by
  obtain ⟨p, hp, e⟩ := List.mem_map.mp q
  exact ns_ne W.ns (W.mu p hp).1 e

theorem Wx.grow (W : Wx B L Mu X h m) (k : ∀ b o, h.get? b = some o → h'.get? b = some o) : Wx B L Mu X h' m :=
  ⟨W.ns.keeps k, fun b o e => k _ _ (W.keep b o e), W.nL, fun p hp => ⟨(W.mu p hp).1.keeps k, (W.mu p hp).2⟩, W.nd, fun p hp => ⟨(W.led p hp).1.keeps k, (W.led p hp).2⟩⟩

theorem Wx.add {r : Addr} {c : String} {items : Array Value} (W : Wx B L Mu X h m) (k : ∀ b o, h.get? b = some o → h'.get? b = some o) (hr : h.get? r = none) (x : SeqAt h' c r items) :
    Wx B L Mu ((r, c, items) :: X) h' m := by
  have W' := W.grow k
  refine ⟨W'.ns, W'.keep, W'.nL, W'.mu, W'.nd, fun p hp => ?_⟩
  rcases List.mem_cons.mp hp with rfl | hp
  · refine ⟨x, fun q => ?_, ?_⟩
    rotate_left
    · cases q : B.get? r with
      | none => rfl
      | some o => rw [W.keep _ _ q] at hr; cases hr
    obtain ⟨p, hp, e⟩ := List.mem_map.mp q
    obtain ⟨o, ho⟩ := (W.mu p hp).1.get
    rw [e] at ho
    exact absurd (hr.symm.trans ho) (by simp)
  · exact W'.led p hp

theorem Wx.set (W : Wx B L Mu X h m) (n : h'.Ns L m') (hs : Heap.SameBut L h h') : Wx B L Mu X h' m' := by
  refine ⟨n, fun b o e => (hs.2 b fun q => ?_).trans (W.keep b o e), W.nL, fun p hp => ⟨?_, (W.mu p hp).2⟩, W.nd, fun p hp => ⟨?_, (W.led p hp).2⟩⟩
  · rw [q, W.nL] at e; cases e
  · obtain ⟨o, ho, r⟩ := (W.mu p hp).1
    exact ⟨o, (hs.2 _ (ns_ne W.ns (W.mu p hp).1)).trans ho, r⟩
  · obtain ⟨o, ho, r⟩ := (W.led p hp).1
    exact ⟨o, (hs.2 _ (ns_ne W.ns (W.led p hp).1)).trans ho, r⟩

theorem Wx.turn {a : Addr} {it it' : Array Value} (W : Wx B L ((a, it) :: Mu) X h m) (k : ∀ b o, b ≠ a → h.get? b = some o → h'.get? b = some o) (x : SeqAt h' "list" a it') : Wx B L ((a, it') :: Mu) X h' m := by
  have haL : L ≠ a := fun e => W.muL (by rw [e]; exact List.mem_map_of_mem (List.mem_cons_self))
  have hBa := (W.mu _ List.mem_cons_self).2
  have nd := W.nd
  simp only [List.map_cons, List.nodup_cons] at nd
  refine ⟨?_, fun b o e => k _ _ (fun q => ?_) (W.keep b o e), W.nL, fun p hp => ?_, by simpa using nd, fun p hp => ?_⟩
  · obtain ⟨o, es, ep, ho, r⟩ := W.ns
    exact ⟨o, es, ep, k _ _ haL ho, r⟩
  · rw [q] at e; exact absurd (hBa.symm.trans e) (by simp)
  · rcases List.mem_cons.mp hp with rfl | hp'
    · exact ⟨x, hBa⟩
    · have hw := W.mu p (List.mem_cons_of_mem _ hp')
      obtain ⟨o, ho, r⟩ := hw.1
      refine ⟨⟨o, k _ _ (fun q => nd.1 ?_) ho, r⟩, hw.2⟩
      rw [← q]; exact List.mem_map_of_mem hp'
  · have hw := W.led p hp
    obtain ⟨o, ho, r⟩ := hw.1
    refine ⟨⟨o, k _ _ (fun q => hw.2.1 ?_) ho, r⟩, by simpa using hw.2⟩
    rw [q]; simp

theorem Wx.swap {p q : Addr × Array Value} (W : Wx B L (p :: q :: Mu) X h m) : Wx B L (q :: p :: Mu) X h m := by
  refine ⟨W.ns, W.keep, W.nL, fun r hr => W.mu r ?_, ?_, fun r hr => ⟨(W.led r hr).1, fun t => (W.led r hr).2.1 ?_, (W.led r hr).2.2⟩⟩
  · simp only [List.mem_cons] at hr ⊢; rcases hr with rfl | rfl | hr <;> simp_all
  · have nd := W.nd
    simp only [List.map_cons, List.nodup_cons, List.mem_cons, not_or] at nd ⊢
    exact ⟨⟨fun e => nd.1.1 e.symm, nd.2.1⟩, nd.1.2, nd.2.2⟩
  · simp only [List.map_cons, List.mem_cons] at t ⊢; rcases t with e | e | e <;> simp_all

/-- what was made becomes a part of what is laid for good -/
theorem Wx.rebase (W : Wx B L Mu X h m) : ∃ B', (∀ b o, B.get? b = some o → B'.get? b = some o) ∧ Wx B' L Mu [] h m ∧ (∀ b o, h.get? b = some o → b ≠ L → b ∉ Mu.map (·.1) → B'.get? b = some o) := by
  refine ⟨hideAll h (L :: Mu.map (·.1)), fun b o e => hideAll_get _ (W.keep b o e) fun q => ?_, ⟨W.ns, fun b o e => of_hideAll _ e, hideAll_none _ (by simp), fun p hp => ⟨(W.mu p hp).1, hideAll_none _ ?_⟩, W.nd, fun p hp => nomatch hp⟩,
    fun b o e h1 h2 => hideAll_get _ e ?_⟩
  · rcases List.mem_cons.mp q with rfl | q
    · rw [W.nL] at e; cases e
    · obtain ⟨p, hp, rfl⟩ := List.mem_map.mp q
      rw [(W.mu p hp).2] at e; cases e
  · exact List.mem_cons_of_mem _ (List.mem_map_of_mem hp)
  · simp only [List.mem_cons, not_or]; exact ⟨h1, h2⟩

/-- a list made on the way begins to turn -/
theorem Wx.openMut {a : Addr} {it : Array Value} (W : Wx B L Mu X h m) (x : SeqAt h "list" a it) (hM : a ∉ Mu.map (·.1)) (hB : B.get? a = none) :
    ∃ B', (∀ b o, B.get? b = some o → B'.get? b = some o) ∧ Wx B' L ((a, it) :: Mu) [] h m ∧ (∀ b o, h.get? b = some o → b ≠ L → b ≠ a → b ∉ Mu.map (·.1) → B'.get? b = some o) := by
  refine ⟨hideAll h (L :: a :: Mu.map (·.1)), fun b o e => hideAll_get _ (W.keep b o e) fun q => ?_, ⟨W.ns, fun b o e => of_hideAll _ e, hideAll_none _ (by simp), fun p hp => ?_, ?_, fun p hp => nomatch hp⟩,
    fun b o e h1 h2 h3 => hideAll_get _ e ?_⟩
  · simp only [List.mem_cons] at q
    rcases q with rfl | rfl | q
    · rw [W.nL] at e; cases e
    · rw [hB] at e; cases e
    · obtain ⟨p, hp, rfl⟩ := List.mem_map.mp q
      rw [(W.mu p hp).2] at e; cases e
  · rcases List.mem_cons.mp hp with rfl | hp
    · exact ⟨x, hideAll_none _ (by simp)⟩
    · exact ⟨(W.mu p hp).1, hideAll_none _ (List.mem_cons_of_mem _ (List.mem_cons_of_mem _ (List.mem_map_of_mem hp)))⟩
  · simp only [List.map_cons, List.nodup_cons]; exact ⟨hM, W.nd⟩
  · simp only [List.mem_cons, not_or]; exact ⟨h1, h2, h3⟩

theorem Wx.new {r : Addr} {c : String} {items : Array Value} (W : Wx B L Mu X h m) (hm : (r, c, items) ∈ X) : B.get? r = none := (W.led _ hm).2.2
theorem Wx.seq {r : Addr} {c : String} {items : Array Value} (W : Wx B L Mu X h m) (hm : (r, c, items) ∈ X) : SeqAt h c r items := (W.led _ hm).1
theorem Wx.old {r : Addr} {c : String} {items : Array Value} (W : Wx B L Mu X h m) (x : SeqAt B c r items) : SeqAt h c r items := x.keeps W.keep
theorem Wx.src {r : Addr} {items : Array Value} (W : Wx B L ((r, items) :: Mu) X h m) : SeqAt h "list" r items := (W.mu _ List.mem_cons_self).1
theorem Wx.drop {X' : Led} (W : Wx B L Mu X h m) (hs : ∀ p ∈ X', p ∈ X) : Wx B L Mu X' h m := ⟨W.ns, W.keep, W.nL, W.mu, W.nd, fun p hp => W.led p (hs p hp)⟩
end

/-! ## the globals -/
def FnAt (mg : Str → Option Value) (h : Heap) (name : Str) (params : Arguments) (body : List Stmt) (scope : Scope) : Prop :=
  ∃ a o doc pm an cdv ct, mg name = some (.ref a) ∧ h.get? a = some o ∧ o.data = .func (fnX name name params body scope [] .none .none doc pm an cdv ct) ∧ h.CodeRec cdv name
/-- a def with one default -/
def FnAt1 (mg : Str → Option Value) (h : Heap) (name : Str) (params : Arguments) (body : List Stmt) (scope : Scope) : Prop :=
  ∃ a o T x doc pm an cdv ct, mg name = some (.ref a) ∧ h.get? a = some o ∧ SeqAt h "tuple" T #[x] ∧ o.data = .func (fnX name name params body scope [] (.ref T) .none doc pm an cdv ct) ∧ h.CodeRec cdv name
theorem FnAt.keeps {mg : Str → Option Value} {h h' : Heap} {name : Str} {params : Arguments} {body : List Stmt} {scope : Scope} (x : FnAt mg h name params body scope) (k : ∀ b o, h.get? b = some o → h'.get? b = some o) :
    FnAt mg h' name params body scope := by
  obtain ⟨a, o, doc, pm, an, cdv, ct, h1, h2, h3, h4⟩ := x
  exact ⟨a, o, doc, pm, an, cdv, ct, h1, k _ _ h2, h3, h4.keeps k⟩
theorem FnAt1.keeps {mg : Str → Option Value} {h h' : Heap} {name : Str} {params : Arguments} {body : List Stmt} {scope : Scope} (x : FnAt1 mg h name params body scope) (k : ∀ b o, h.get? b = some o → h'.get? b = some o) :
    FnAt1 mg h' name params body scope := by
  obtain ⟨a, o, T, y, doc, pm, an, cdv, ct, h1, h2, h3, h4, h5⟩ := x
  exact ⟨a, o, T, y, doc, pm, an, cdv, ct, h1, k _ _ h2, h3.keeps k, h4, h5.keeps k⟩

structure Gl (mg mb : Str → Option Value) (h : Heap) : Prop where
  g : h.Ns mainGlobals mg
  b : h.Ns builtinsNs mb
  nolimit : h.NoLimit
  bi : ∀ x : Str, x ≠ "__name__" → mb x = bootBuiltins x
  no : mg "len" = none ∧ mg "abs" = none ∧ mg "max" = none ∧ mg "min" = none ∧ mg "int" = none ∧ mg "range" = none ∧ mg "tuple" = none
  grain : ∃ t, mg "BOX_GRAIN" = some (.int 64 t)
  leasts : ∃ a t u, mg "LEAST_GRAINS" = some (.ref a) ∧ SeqAt h "tuple" a #[.int 1024 t, .int 1 u]
  common_divisor : FnAt mg h "common_divisor" (dParams (defAt 4)) (dBody (defAt 4)) (dScope (defAt 4))
  fraction : FnAt1 mg h "fraction" (dParams (defAt 5)) (dBody (defAt 5)) (dScope (defAt 5))
  minus : FnAt mg h "minus" (dParams (defAt 6)) (dBody (defAt 6)) (dScope (defAt 6))
  times : FnAt mg h "times" (dParams (defAt 7)) (dBody (defAt 7)) (dScope (defAt 7))
  sign_of : FnAt mg h "sign_of" (dParams (defAt 8)) (dBody (defAt 8)) (dScope (defAt 8))
  compare : FnAt mg h "compare" (dParams (defAt 9)) (dBody (defAt 9)) (dScope (defAt 9))
  least : FnAt mg h "least" (dParams (defAt 10)) (dBody (defAt 10)) (dScope (defAt 10))
  greatest : FnAt mg h "greatest" (dParams (defAt 11)) (dBody (defAt 11)) (dScope (defAt 11))
  point_box : FnAt mg h "point_box" (dParams (defAt 13)) (dBody (defAt 13)) (dScope (defAt 13))
  segment_points : FnAt mg h "segment_points" (dParams (defAt 17)) (dBody (defAt 17)) (dScope (defAt 17))
  box_grain : FnAt mg h "box_grain" (dParams (defAt 18)) (dBody (defAt 18)) (dScope (defAt 18))
  pool : FnAt mg h "_law_pool" (dParams (defAt 20)) (dBody (defAt 20)) (dScope (defAt 20))
  take : FnAt mg h "_law_take" (dParams (defAt 21)) (dBody (defAt 21)) (dScope (defAt 21))
  one : FnAt mg h "_law_one" (dParams (defAt 22)) (dBody (defAt 22)) (dScope (defAt 22))
  lowest : FnAt mg h "_law_lowest" (dParams (defAt 23)) (dBody (defAt 23)) (dScope (defAt 23))
  side : FnAt mg h "_law_side" (dParams (defAt 24)) (dBody (defAt 24)) (dScope (defAt 24))
  place : FnAt mg h "_law_place" (dParams (defAt 25)) (dBody (defAt 25)) (dScope (defAt 25))
  points : FnAt mg h "_law_points" (dParams (defAt 26)) (dBody (defAt 26)) (dScope (defAt 26))
  segments : FnAt mg h "_law_segments" (dParams (defAt 27)) (dBody (defAt 27)) (dScope (defAt 27))

theorem Gl.keeps {mg mb : Str → Option Value} {h h' : Heap} (G : Gl mg mb h) (k : ∀ b o, h.get? b = some o → h'.get? b = some o) : Gl mg mb h' :=
  ⟨G.g.keeps k, G.b.keeps k, G.nolimit.keeps k, G.bi, G.no, G.grain, (let ⟨a, t, u, h1, h2⟩ := G.leasts; ⟨a, t, u, h1, h2.keeps k⟩), G.common_divisor.keeps k, G.fraction.keeps k, G.minus.keeps k, G.times.keeps k,
    G.sign_of.keeps k, G.compare.keeps k, G.least.keeps k, G.greatest.keeps k, G.point_box.keeps k, G.segment_points.keeps k, G.box_grain.keeps k, G.pool.keeps k, G.take.keeps k, G.one.keeps k, G.lowest.keeps k, G.side.keeps k,
    G.place.keeps k, G.points.keeps k, G.segments.keeps k⟩

/-- room for n more calls -/
def AOk (n : Nat) (A : Around) : Prop := A.handled = none ∧ A.depth + n ≤ 900 ∧ A.units + 8 * n ≤ 5000
theorem AOk.deeper {n : Nat} {A : Around} (x : AOk (n + 1) A) (env : Env) : AOk n (A.deeper env) := ⟨x.1, by have := x.2.1; show A.depth + 1 + n ≤ 900; omega, by have := x.2.2; show A.units + 3 + 8 * n ≤ 5000; omega⟩
theorem AOk.less {n k : Nat} {A : Around} (x : AOk n A) (h : k ≤ n := by omega) : AOk k A := ⟨x.1, by have := x.2.1; omega, by have := x.2.2; omega⟩
theorem AOk.room {n : Nat} {A : Around} (x : AOk n A) : A.depth < recursionLimit := by have := x.2.1; show A.depth < 1000; omega

/-! ## the steps -/
section
variable {prog : Program} {w : World} {A : Around} {E : Value → Shared → Prop} {s : Shared} {env : Env} {B : Heap} {L : Addr} {Mu : Mut} {X : Led} {m mg mb : Str → Option Value}

theorem x_local {x : Str} {pos : Pos} {v : Value} {Q : Value → Shared → Prop} (W : Wx B L Mu X s.heap m) (hv : m x = some v) (h : Q v s)
    (hL : env.locals = L) (hk : env.scope.kind = .function) (hl : env.kindOf x = some .local) (hd : (x == ("__debug__" : Str)) = false := by decide) :
    wpAny (model prog w) A (eval (.Name x pos) env) Q E s := wpAny_Name (wpAny_loadName_local hk hl (hL ▸ W.ns) hv h) hd

theorem x_global {x : Str} {pos : Pos} {v : Value} {Q : Value → Shared → Prop} (W : Wx B L Mu X s.heap m) (G : Gl mg mb B) (hv : mg x = some v) (h : Q v s)
    (hg : env.globals = mainGlobals) (hk : env.scope.kind = .function) (hx : env.kindOf x = some .globalImplicit) (hd : (x == ("__debug__" : Str)) = false := by decide) :
    wpAny (model prog w) A (eval (.Name x pos) env) Q E s := Calls.Name_function_global hk hx (Calls.loadGlobal_global (by rw [hg]; exact G.g.keeps W.keep) hv h) hd

theorem x_builtin {x : Str} {pos : Pos} {v : Value} {Q : Value → Shared → Prop} (W : Wx B L Mu X s.heap m) (G : Gl mg mb B) (hv : mg x = none) (hb : bootBuiltins x = some v) (hn : x ≠ "__name__") (h : Q v s)
    (hg : env.globals = mainGlobals) (hbn : env.builtins = builtinsNs) (hk : env.scope.kind = .function) (hx : env.kindOf x = some .globalImplicit) (hd : (x == ("__debug__" : Str)) = false := by decide) :
    wpAny (model prog w) A (eval (.Name x pos) env) Q E s :=
  Calls.Name_function_global hk hx (Calls.loadGlobal_builtin (by rw [hg]; exact G.g.keeps W.keep) hv (by rw [hbn]; exact G.b.keeps W.keep) ((G.bi x hn).trans hb) h) hd

theorem x_store {x : Str} {v : Value} {Q : Unit → Shared → Prop} (W : Wx B L Mu X s.heap m)
    (h : ∀ h', Wx B L Mu X h' (fun y => if y = x then some v else m y) → Q () { s with heap := h', toks := s.toks + 1 })
    (hL : env.locals = L) (hk : env.scope.kind = .function) (hl : env.kindOf x = some .local) : wpAny (model prog w) A (storeName env x v) Q E s :=
  wpAny_storeName_local hl (hL ▸ W.ns) (fun h' hn hs => h h' (W.set (hL ▸ hn) (hL ▸ hs))) (by rw [hk]; rfl)

theorem x_tuple {vs : List Value} {Q : Value → Shared → Prop} (W : Wx B L Mu X s.heap m)
    (h : ∀ r h', Wx B L Mu ((r, "tuple", vs.toArray) :: X) h' m → Q (.ref r) { s with heap := h' }) (hsz : vs.length ≤ sizeLine := by size_fits) : wpAny (model prog w) A (newTuple vs) Q E s :=
  wpAny_newObj_type (h _ _ (W.add (fun _ _ e => Heap.get?_push_of_some _ e) (Heap.get?_none_of_le (Nat.le_refl _)) ⟨_, Heap.get?_push_size _ rfl, rfl, 0, rfl⟩)) (by show vs.toArray.size ≤ sizeLine; rw [List.size_toArray]; exact hsz)
theorem x_list {vs : List Value} {Q : Value → Shared → Prop} (W : Wx B L Mu X s.heap m)
    (h : ∀ r h', Wx B L Mu ((r, "list", vs.toArray) :: X) h' m → s.heap.get? r = none → Q (.ref r) { s with heap := h' }) (hsz : vs.length ≤ sizeLine := by size_fits) : wpAny (model prog w) A (newList vs) Q E s :=
  wpAny_newObj_type (h _ _ (W.add (fun _ _ e => Heap.get?_push_of_some _ e) (Heap.get?_none_of_le (Nat.le_refl _)) ⟨_, Heap.get?_push_size _ rfl, rfl, 0, rfl⟩) (Heap.get?_none_of_le (Nat.le_refl _))) (by show vs.toArray.size ≤ sizeLine; rw [List.size_toArray]; exact hsz)

theorem x_tup_at {value slice : Expr} {t : Addr} {l : List Value} {k : Int} {u : Tok} {j : Nat} {x : Value} {Q : Value → Shared → Prop} (ht : SeqAt s.heap "tuple" t l.toArray)
    (hlo : -(2 ^ 63) ≤ k) (hhi : k < 2 ^ 63) (hj : seqIndex? k l.length = some j) (hx : l[j]? = some x) (h : Q x s)
    (hs : subscripted slice false (.ref t) (.int k u) = operate [.ref t, .int k u] (getItem (.ref t) (.int k u)) := by with_unfolding_all rfl) :
    wpAny (model prog w) A (subscriptTail value slice (.ref t) (.int k u)) Q E s :=
  tail_any ht.isTup.typeIs slot_tuple_getitem.lookup (getItem_tuple ht.isTup hlo hhi (by simpa using hj) (by simpa using hx) h) hs
theorem x_list_at {value slice : Expr} {t : Addr} {l : List Value} {k : Int} {u : Tok} {x : Value} {Q : Value → Shared → Prop} (ht : SeqAt s.heap "list" t l.toArray)
    (hlo : 0 ≤ k) (hhi : k < 2 ^ 63) (hx : l[k.toNat]? = some x) (h : Q x s)
    (hs : subscripted slice false (.ref t) (.int k u) = operate [.ref t, .int k u] (getItem (.ref t) (.int k u)) := by with_unfolding_all rfl) :
    wpAny (model prog w) A (subscriptTail value slice (.ref t) (.int k u)) Q E s :=
  tail_any ht.isList.typeIs slot_list_getitem.lookup (wpAny_getItem_list ht.isList hlo hhi (by simpa using hx) h) hs

end

section
variable {prog : Program} {w : World} {A : Around} {E : Value → Shared → Prop} {s : Shared} {B : Heap} {L : Addr} {Mu : Mut} {X : Led} {m mg mb : Str → Option Value}

/-- a call of a def that turns nothing -/
theorem enterP {n : Nat} {name : Str} {params : Arguments} {body : List Stmt} {scope : Scope} {v : Value} {vals : List Value} {Q : Value → Shared → Prop}
    (fn : FnAt mg B name params body scope) (W : Wx B L Mu X s.heap m) (G : Gl mg mb B) (D : AOk (n + 1) A) (hv : mg name = some v)
    (hbind : ∀ doc pm an cdv ct, bindArgs (fnX name name params body scope [] .none .none doc pm an cdv ct) ⟨vals, []⟩ = pure ((params.args.map (·.arg)).zip vals))
    (hcell : ∀ x ∈ scope.names, x.2 ≠ .cell) (hloc : ∀ x ∈ (params.args.map (·.arg)).zip vals, scope.names.lookup x.1 = some .local)
    (hco : scope.isCoroutine = false) (hgen : scope.isGenerator = false) (hk : scope.kind = .function)
    (h : ∀ a cdv L' h₁, Wx s.heap L' [] [] h₁ (fun y => ((params.args.map (·.arg)).zip vals).reverse.lookup y) → Gl mg mb s.heap → AOk n (A.deeper (envX name scope L' a cdv [])) →
      wpAny (model prog w) (A.deeper (envX name scope L' a cdv [])) (execs body (envX name scope L' a cdv [])) (fun fl s' => match fl with | .ret r => Q r s' | _ => False) (fun _ _ => False)
        { s with heap := h₁, toks := s.toks + ((params.args.map (·.arg)).zip vals).length }) : wpAny (model prog w) A (call v vals) Q E s := by
  obtain ⟨a, o, doc, pm, an, cdv, ct, h1, h2, h3, h4⟩ := fn
  rw [h1] at hv; cases hv
  refine wpAny_call (codeAny_call_def (fd := fnX name name params body scope [] .none .none doc pm an cdv ct) (body := body) (binds := (params.args.map (·.arg)).zip vals) D.room (W.keep _ _ h2) h3 (G.nolimit.keeps W.keep) (h4.keeps W.keep) rfl
    (BindsTo.of_eq (hbind doc pm an cdv ct)) hcell hloc (fun h₁ hns hk₁ => ?_) hco hgen hk)
  have W' : Wx s.heap s.heap.objs.size [] [] h₁ (fun y => ((params.args.map (·.arg)).zip vals).reverse.lookup y) :=
    ⟨hns, hk₁, Heap.get?_none_of_le (Nat.le_refl _), (fun p hp => nomatch hp), List.nodup_nil, (fun p hp => nomatch hp)⟩
  refine wpAny_mono (h a cdv _ h₁ W' (G.keeps W.keep) (D.deeper _)) (fun fl s' hq => ?_) fun _ _ f => f.elim
  cases fl with
  | ret r => exact hq
  | _ => exact hq.elim

/-- the same, of a def with a default that the call does not use -/
theorem enterP1 {n : Nat} {name : Str} {params : Arguments} {body : List Stmt} {scope : Scope} {v : Value} {vals : List Value} {Q : Value → Shared → Prop}
    (fn : FnAt1 mg B name params body scope) (W : Wx B L Mu X s.heap m) (G : Gl mg mb B) (D : AOk (n + 1) A) (hv : mg name = some v)
    (hbind : ∀ T doc pm an cdv ct x, ∃ k, bindArgs (fnX name name params body scope [] (.ref T) .none doc pm an cdv ct) ⟨vals, []⟩ = seqItems? (.ref T) >>= k ∧ k (some #[x]) = pure ((params.args.map (·.arg)).zip vals))
    (hcell : ∀ x ∈ scope.names, x.2 ≠ .cell) (hloc : ∀ x ∈ (params.args.map (·.arg)).zip vals, scope.names.lookup x.1 = some .local)
    (hco : scope.isCoroutine = false) (hgen : scope.isGenerator = false) (hk : scope.kind = .function)
    (h : ∀ a cdv L' h₁, Wx s.heap L' [] [] h₁ (fun y => ((params.args.map (·.arg)).zip vals).reverse.lookup y) → Gl mg mb s.heap → AOk n (A.deeper (envX name scope L' a cdv [])) →
      wpAny (model prog w) (A.deeper (envX name scope L' a cdv [])) (execs body (envX name scope L' a cdv [])) (fun fl s' => match fl with | .ret r => Q r s' | _ => False) (fun _ _ => False)
        { s with heap := h₁, toks := s.toks + ((params.args.map (·.arg)).zip vals).length }) : wpAny (model prog w) A (call v vals) Q E s := by
  obtain ⟨a, o, T, x, doc, pm, an, cdv, ct, h1, h2, hT, h3, h4⟩ := fn
  rw [h1] at hv; cases hv
  obtain ⟨k, hb1, hb2⟩ := hbind T doc pm an cdv ct x
  obtain ⟨oT, hoT, _, nT, hdT⟩ := hT.keeps W.keep
  refine wpAny_call (codeAny_call_def (fd := fnX name name params body scope [] (.ref T) .none doc pm an cdv ct) (body := body) (binds := (params.args.map (·.arg)).zip vals) D.room (W.keep _ _ h2) h3 (G.nolimit.keeps W.keep) (h4.keeps W.keep) rfl
    (BindsTo.of_defaults (T := T) rfl hoT hdT hb1 hb2) hcell hloc (fun h₁ hns hk₁ => ?_) hco hgen hk)
  have W' : Wx s.heap s.heap.objs.size [] [] h₁ (fun y => ((params.args.map (·.arg)).zip vals).reverse.lookup y) :=
    ⟨hns, hk₁, Heap.get?_none_of_le (Nat.le_refl _), (fun p hp => nomatch hp), List.nodup_nil, (fun p hp => nomatch hp)⟩
  refine wpAny_mono (h a cdv _ h₁ W' (G.keeps W.keep) (D.deeper _)) (fun fl s' hq => ?_) fun _ _ f => f.elim
  cases fl with
  | ret r => exact hq
  | _ => exact hq.elim

/-- a call of a def that may turn the first of the lists that turn -/
theorem enterS {n : Nat} {name : Str} {params : Arguments} {body : List Stmt} {scope : Scope} {v : Value} {vals : List Value} {src : Addr} {it : Array Value} {Q : Value → Shared → Prop}
    (fn : FnAt mg B name params body scope) (W : Wx B L ((src, it) :: Mu) X s.heap m) (G : Gl mg mb B) (D : AOk (n + 1) A) (hv : mg name = some v)
    (hbind : ∀ doc pm an cdv ct, bindArgs (fnX name name params body scope [] .none .none doc pm an cdv ct) ⟨vals, []⟩ = pure ((params.args.map (·.arg)).zip vals))
    (hcell : ∀ x ∈ scope.names, x.2 ≠ .cell) (hloc : ∀ x ∈ (params.args.map (·.arg)).zip vals, scope.names.lookup x.1 = some .local)
    (hco : scope.isCoroutine = false) (hgen : scope.isGenerator = false) (hk : scope.kind = .function)
    (h : ∀ a cdv L' h₁, Wx (hideAll s.heap [src]) L' [(src, it)] [] h₁ (fun y => ((params.args.map (·.arg)).zip vals).reverse.lookup y) → Gl mg mb (hideAll s.heap [src]) → AOk n (A.deeper (envX name scope L' a cdv [])) →
      wpAny (model prog w) (A.deeper (envX name scope L' a cdv [])) (execs body (envX name scope L' a cdv [])) (fun fl s' => match fl with | .ret r => Q r s' | _ => False) (fun _ _ => False)
        { s with heap := h₁, toks := s.toks + ((params.args.map (·.arg)).zip vals).length }) : wpAny (model prog w) A (call v vals) Q E s := by
  obtain ⟨a, o, doc, pm, an, cdv, ct, h1, h2, h3, h4⟩ := fn
  rw [h1] at hv; cases hv
  refine wpAny_call (codeAny_call_def (fd := fnX name name params body scope [] .none .none doc pm an cdv ct) (body := body) (binds := (params.args.map (·.arg)).zip vals) D.room (W.keep _ _ h2) h3 (G.nolimit.keeps W.keep) (h4.keeps W.keep) rfl
    (BindsTo.of_eq (hbind doc pm an cdv ct)) hcell hloc (fun h₁ hns hk₁ => ?_) hco hgen hk)
  have hmu := W.mu _ List.mem_cons_self
  have hB : ∀ b o, B.get? b = some o → (hideAll s.heap [src]).get? b = some o := fun b o e => hideAll_get _ (W.keep b o e) fun q => by
    have : b = src := by simpa using q
    rw [this, hmu.2] at e; cases e
  have W' : Wx (hideAll s.heap [src]) s.heap.objs.size [(src, it)] [] h₁ (fun y => ((params.args.map (·.arg)).zip vals).reverse.lookup y) := by
    refine ⟨hns, fun b o e => hk₁ _ _ (of_hideAll _ e), ?_, fun p hp => ?_, by simp, fun p hp => nomatch hp⟩
    · refine Heap.get?_none_of_le ?_
      rw [hideAll_size]; exact Nat.le_refl _
    · rcases List.mem_cons.mp hp with rfl | hp
      · exact ⟨hmu.1.keeps hk₁, hideAll_none _ (by simp)⟩
      · cases hp
  refine wpAny_mono (h a cdv _ h₁ W' (G.keeps hB) (D.deeper _)) (fun fl s' hq => ?_) fun _ _ f => f.elim
  cases fl with
  | ret r => exact hq
  | _ => exact hq.elim

/-- back in the caller's frame -/
theorem Wx.backS {B h h' : Heap} {L L' : Addr} {Mu : Mut} {X X' : Led} {m m' : Str → Option Value} {src : Addr} {it it' : Array Value} (W : Wx B L ((src, it) :: Mu) X h m) (W' : Wx (hideAll h [src]) L' [(src, it')] X' h' m') :
    Wx B L ((src, it') :: Mu) X h' m :=
  W.turn (fun b o hb e => W'.keep _ _ (hideAll_get _ e (by simpa using hb))) W'.src
/-- back in the caller's frame, with a tuple or list that the call made -/
theorem Wx.backP1 {B h h' : Heap} {L L' : Addr} {Mu : Mut} {X X' : Led} {m m' : Str → Option Value} {r : Addr} {c : String} {items : Array Value} (W : Wx B L Mu X h m) (W' : Wx h L' [] X' h' m')
    (hm : (r, c, items) ∈ X') : Wx B L Mu ((r, c, items) :: X) h' m := W.add W'.keep (W'.new hm) (W'.seq hm)
theorem Wx.backS1 {B h h' : Heap} {L L' : Addr} {Mu : Mut} {X X' : Led} {m m' : Str → Option Value} {src : Addr} {it it' : Array Value} {r : Addr} {c : String} {items : Array Value}
    (W : Wx B L ((src, it) :: Mu) X h m) (W' : Wx (hideAll h [src]) L' [(src, it')] X' h' m') (hm : (r, c, items) ∈ X') : Wx B L ((src, it') :: Mu) ((r, c, items) :: X) h' m := by
  have W₁ := W.turn (fun b o hb e => W'.keep _ _ (hideAll_get _ e (by simpa using hb))) W'.src
  have hl := W'.led _ hm
  have hrs : r ≠ src := by simpa using hl.2.1
  have hn : h.get? r = none := by
    cases q : h.get? r with
    | none => rfl
    | some o => have := hideAll_get [src] q (by simpa using hrs); rw [hl.2.2] at this; cases this
  refine ⟨W₁.ns, W₁.keep, W₁.nL, W₁.mu, W₁.nd, fun p hp => ?_⟩
  rcases List.mem_cons.mp hp with rfl | hp
  · refine ⟨hl.1, ?_, ?_⟩
    · simp only [List.map_cons, List.mem_cons, not_or]
      refine ⟨hrs, fun q => ?_⟩
      obtain ⟨p, hp, e⟩ := List.mem_map.mp q
      obtain ⟨o, ho⟩ := (W.mu p (List.mem_cons_of_mem _ hp)).1.get
      rw [e] at ho
      exact absurd (hn.symm.trans ho) (by simp)
    · cases q : B.get? r with
      | none => rfl
      | some o => rw [W.keep _ _ q] at hn; cases hn
  · exact W₁.led p hp
end

def IsFn (B : Heap) (v : Value) : Prop := ∃ a o fd, v = .ref a ∧ B.get? a = some o ∧ o.data = .func fd
theorem FnAt.name' {mg : Str → Option Value} {h : Heap} {name : Str} {params : Arguments} {body : List Stmt} {scope : Scope} (x : FnAt mg h name params body scope) : ∃ v, mg name = some v ∧ IsFn h v := by
  obtain ⟨a, o, _, _, _, _, _, h1, h2, h3, _⟩ := x
  exact ⟨.ref a, h1, a, o, _, rfl, h2, h3⟩
theorem FnAt1.name' {mg : Str → Option Value} {h : Heap} {name : Str} {params : Arguments} {body : List Stmt} {scope : Scope} (x : FnAt1 mg h name params body scope) : ∃ v, mg name = some v ∧ IsFn h v := by
  obtain ⟨a, o, _, _, _, _, _, _, _, h1, h2, _, h3, _⟩ := x
  exact ⟨.ref a, h1, a, o, _, rfl, h2, h3⟩

def IntOk (x : Int) : Prop := x.natAbs < 2 ^ 64

section
variable {prog : Program} {w : World} {A : Around} {E : Value → Shared → Prop} {s : Shared} {env : Env} {B : Heap} {L : Addr} {Mu : Mut} {X : Led} {m mg mb : Str → Option Value}

theorem x_callfn {pos : Pos} {v : Value} {e : Expr} {rest : List Expr} {Q : Value → Shared → Prop} (i : IsFn B v)
    (h : wpAny (model prog w) A (spliced (backTo pos (starEach (e :: rest) env))) (fun vs s₁ => (∀ b o, B.get? b = some o → s₁.heap.get? b = some o) ∧ wpAny (model prog w) A (call v vs) Q E s₁) E s)
    (he : starEach (e :: rest) env = (false, eval e env) :: starEach rest env := by rfl) :
    wpAny (model prog w) A (callWith pos v [] (backTo pos (starEach (e :: rest) env)) []) Q E s := by
  obtain ⟨a, o, fd, rfl, ho, hd⟩ := i
  exact callWith_def (o := o) (fd := fd) hd (wpAny_mono h (fun vs s₁ h₁ => ⟨h₁.1 _ _ ho, h₁.2⟩) fun _ _ e => e) he
theorem x_keep {P : Prop} (W : Wx B L Mu X s.heap m) (h : P) : (∀ b o, B.get? b = some o → s.heap.get? b = some o) ∧ P := ⟨W.keep, h⟩

theorem x_mul {a b : Int} {t u : Tok} {Q : Value → Shared → Prop} (hm : IntOk a ∨ IntOk b) (h : Q (.int (a * b) s.toks) { s with toks := s.toks + 1 }) :
    wpAny (model prog w) A (binaryOp .Mult (.int a t) (.int b u)) Q E s :=
  PyProof.Rows.mul_int h (hm.elim (fun x => IntMulOk.of_left (PyProof.Rows.intBits_le x)) fun x => IntMulOk.of_right (PyProof.Rows.intBits_le x))

theorem noPy {a b : Int} (hb : IntOk b) : Builtin.divisionGoesByPylong a b = false := by
  refine PyProof.noPylong_of_log2 ?_
  by_cases h0 : b.natAbs = 0
  · rw [h0]; decide +kernel
  · have h64 : b.natAbs.log2 < 64 := (Nat.log2_lt h0).mpr hb
    omega
theorem x_fdiv {a b : Int} {t u : Tok} {Q : Value → Shared → Prop} (h0 : 0 < b) (hb : IntOk b) (h : Q (.int (a / b) s.toks) { s with toks := s.toks + 1 }) :
    wpAny (model prog w) A (binaryOp .FloorDiv (.int a t) (.int b u)) Q E s :=
  PyProof.Rows.floordiv_int (by omega) (by rw [Int.fdiv_eq_ediv_of_nonneg _ (by omega)]; exact h) (.inl (noPy hb))
theorem x_fmod {a b : Int} {t u : Tok} {Q : Value → Shared → Prop} (h0 : 0 < b) (h : Q (.int (a % b) s.toks) { s with toks := s.toks + 1 }) :
    wpAny (model prog w) A (binaryOp .Mod (.int a t) (.int b u)) Q E s :=
  PyProof.Rows.mod_int' (by omega) (by rw [Int.fmod_eq_emod_of_nonneg _ (by omega)]; exact h)

theorem x_unpack {n : Nat} {elts : List Expr} {x1 : Nat} {pos : Pos} {t : Addr} {l : List Value} {Q : Unit → Shared → Prop} (W : Wx B L Mu X s.heap m) (D : AOk n A) (ht : SeqAt s.heap "tuple" t l.toArray)
    (hn : (assignEach elts env).length = l.length) (hstar : (assignEach elts env).findIdx? (·.1) = none)
    (h : ∀ h', Wx B L Mu X h' m → wpAny (model prog w) A (assignInOrder ((assignEach elts env).map (·.2)) l) Q E { s with heap := h' }) :
    wpAny (model prog w) A (assign (.Tuple elts x1 pos) env (.ref t)) Q E s :=
  assign_Tuple_tuple D.1 ht.isTup (by simpa using hn) hstar fun h' he => by
    have := h h' (W.grow fun b o e => he b o (Nat.ne_of_lt (Heap.lt_size e)) e)
    simpa using this
theorem x_unpackItems {n k : Nat} {t : Addr} {l : List Value} {Q : List Value → Shared → Prop} (W : Wx B L Mu X s.heap m) (D : AOk n A) (ht : SeqAt s.heap "tuple" t l.toArray) (hk : k = l.length)
    (h : ∀ h', Wx B L Mu X h' m → Q l { s with heap := h' }) : wpAny (model prog w) A (unpackItems (.ref t) k none) Q E s := by
  have hk' : k = l.toArray.size := by simpa using hk
  subst hk'
  refine unpackItems_tuple D.1 ht.isTup fun h' he => ?_
  have := h h' (W.grow fun b o e => he b o (Nat.ne_of_lt (Heap.lt_size e)) e)
  simpa using this

theorem x_swap2 {x1 x2 : Str} {p1 p2 : Pos} {k : Nat} {tpos : Pos} {value : Expr} {pos : Pos} {Q : Flow → Shared → Prop}
    (h : wpAny (model prog w) A (eval value env) (fun v s₁ => wpAny (model prog w) A (unpackItems v 2 none) (fun items s₂ =>
      wpAny (model prog w) A (assignInOrder [bindName env x2, bindName env x1] items.reverse) (fun _ => Q .next) E s₂) E s₁) E s)
    (hs : swapsWithSole [.Tuple [.Name x1 p1, .Name x2 p2] k tpos] value pos.line env = pure false)
    (hw : swappedStores [.Tuple [.Name x1 p1, .Name x2 p2] k tpos] value env = pure (some [x1, x2])) :
    wpAny (model prog w) A (exec (.Assign [.Tuple [.Name x1 p1, .Name x2 p2] k tpos] value pos) env) Q E s := Assign_Tuple_swapped (names := [x1, x2]) h hs hw
theorem x_swap4 {x1 x2 x3 x4 : Str} {p1 p2 p3 p4 : Pos} {k : Nat} {tpos : Pos} {value : Expr} {pos : Pos} {Q : Flow → Shared → Prop}
    (h : wpAny (model prog w) A (eval value env) (fun v s₁ => wpAny (model prog w) A (unpackItems v 4 none) (fun items s₂ =>
      wpAny (model prog w) A (assignInOrder [bindName env x4, bindName env x3, bindName env x2, bindName env x1] items.reverse) (fun _ => Q .next) E s₂) E s₁) E s)
    (hs : swapsWithSole [.Tuple [.Name x1 p1, .Name x2 p2, .Name x3 p3, .Name x4 p4] k tpos] value pos.line env = pure false)
    (hw : swappedStores [.Tuple [.Name x1 p1, .Name x2 p2, .Name x3 p3, .Name x4 p4] k tpos] value env = pure (some [x1, x2, x3, x4])) :
    wpAny (model prog w) A (exec (.Assign [.Tuple [.Name x1 p1, .Name x2 p2, .Name x3 p3, .Name x4 p4] k tpos] value pos) env) Q E s := Assign_Tuple_swapped (names := [x1, x2, x3, x4]) h hs hw

/-- what a slice of a tuple, and of a list, asks -/
def TSl (Q : Value → Shared → Prop) (o vl : Value) (s : Shared) : Prop :=
  ∃ t l a u, o = .ref t ∧ vl = .int ((a : Nat) : Int) u ∧ SeqAt s.heap "tuple" t l ∧ 1 ≤ a ∧ a ≤ l.size ∧ l.size ≤ sizeLine ∧
    ∀ r h', (∀ b x, s.heap.get? b = some x → h'.get? b = some x) → s.heap.get? r = none → SeqAt h' "tuple" r (l.toList.drop a).toArray → Q (.ref r) { s with heap := h' }
theorem x_tslice {value lo : Expr} {p pos : Pos} {Q : Value → Shared → Prop}
    (h : wpAny (model prog w) A (eval value env) (fun o s₁ => wpAny (model prog w) A (eval lo env) (fun vl s₂ => TSl Q o vl s₂) E s₁) E s)
    (ht : ∀ o r, letTemporaryGo value o r = pure ()) : wpAny (model prog w) A (eval (.Subscript value (.Slice (some lo) none none p) pos) env) Q E s := by
  refine wpAny_Subscript_Slice (T := "tuple") slot_tuple_getitem.lookup (wpAny_mono h (fun o s₁ h₁ => wpAny_Slice ?_) fun _ _ e => e) ht
  rw [evalPart_some, evalPart_none]
  refine wpAny_mono h₁ (fun vl s₂ h₂ => wpAny_pure (wpAny_pure ?_)) fun _ _ e => e
  obtain ⟨t, l, a, u, rfl, rfl, hl, h1, h2, h3, hQ⟩ := h₂
  have hl' : SeqAt (s₂.heap.push { cls := .type "slice", data := .fields #[.int ((a : Nat) : Int) u, .none, .none] }) "tuple" t l := hl.keeps fun _ _ e => Heap.get?_push_of_some _ e
  refine ⟨hl'.isTup.typeIs, getItem_tuple_from hl'.isTup (Heap.IsSliceOf.new ..) h1 h2 ?_ h3⟩
  refine hQ _ _ (fun _ _ e => Heap.get?_push_of_some _ (Heap.get?_push_of_some _ e)) (Heap.get?_none_of_le (by rw [Heap.size_push]; exact Nat.le_succ _)) ⟨_, Heap.get?_push_size _ rfl, rfl, 0, rfl⟩
theorem x_TSl {t : Addr} {l : List Value} {a : Nat} {u : Tok} {Q : Value → Shared → Prop} (W : Wx B L Mu X s.heap m) (ht : SeqAt s.heap "tuple" t l.toArray) (h1 : 1 ≤ a) (h2 : a ≤ l.length) (h3 : l.length ≤ sizeLine)
    (h : ∀ r h', Wx B L Mu ((r, "tuple", (l.drop a).toArray) :: X) h' m → Q (.ref r) { s with heap := h' }) : TSl Q (.ref t) (.int ((a : Nat) : Int) u) s :=
  ⟨t, _, a, u, rfl, rfl, ht, h1, by simpa using h2, by simpa using h3, fun r h' k hr x => h r h' (W.add k hr (by simpa using x))⟩

theorem x_tup_head {value slice : Expr} {t : Addr} {l : List Value} {u : Tok} {x : Value} {Q : Value → Shared → Prop} (ht : SeqAt s.heap "tuple" t (x :: l).toArray) (h : Q x s)
    (hs : subscripted slice false (.ref t) (.int 0 u) = operate [.ref t, .int 0 u] (getItem (.ref t) (.int 0 u))) :
    wpAny (model prog w) A (subscriptTail value slice (.ref t) (.int 0 u)) Q E s :=
  x_tup_at (j := 0) ht (by decide) (by decide) (by simp [seqIndex?]) rfl h hs

theorem x_while {test : Expr} {body : List Stmt} {pos : Pos} {Q : Flow → Shared → Prop} (I : Nat → Shared → Prop)
    (turn : ∀ n s, I n s → wpAny (model prog w) A (isTrue test env (eval test env)) (fun b s₂ => if b = true then
        wpAny (model prog w) A (execs body env) (fun f s₃ => match f with | .next => ∃ m, m < n ∧ I m s₃ | .ret v => Q (.ret v) s₃ | _ => False) (fun _ _ => False) s₂
      else Q .next s₂) (fun _ _ => False) s) (n : Nat) (h : I n s) : wpAny (model prog w) A (exec (.While test body [] pos) env) Q E s := by
  refine wpAny_While (codeAny_whileLoop I (fun n s hI => wpAny_mono (turn n s hI) (fun b s₂ hb => ?_) fun _ _ f => f.elim) n h)
  cases b with
  | true =>
    rw [if_pos rfl] at hb ⊢
    refine wpAny_mono hb (fun f s₃ hf => ?_) fun _ _ f => f.elim
    cases f with
    | next => exact hf
    | ret v => exact hf
    | _ => exact hf.elim
  | false =>
    rw [if_neg (by simp)] at hb ⊢
    exact wpAny_execs_nil hb
end

theorem x_if {c : Prop} [Decidable c] {P R : Prop} (h1 : c → P) (h2 : ¬ c → R) : if decide c = true then P else R := by
  by_cases h : c
  · rw [if_pos (by simpa using h)]; exact h1 h
  · rw [if_neg (by simpa using h)]; exact h2 h
theorem x_itf {P R : Prop} (h : R) : if false = true then P else R := h
theorem x_itt {P R : Prop} (h : P) : if true = true then P else R := h
theorem x_ifs {a b : Str} {P R : Prop} (h1 : a = b → P) (h2 : a ≠ b → R) : if (a == b) = true then P else R := by
  by_cases h : a = b
  · rw [if_pos (by simpa using h)]; exact h1 h
  · rw [if_neg (by simpa using h)]; exact h2 h
theorem x_ife {a b : Int} {P R : Prop} (h1 : a = b → P) (h2 : a ≠ b → R) : if (a == b) = true then P else R := by
  by_cases h : a = b
  · rw [if_pos (by simpa using h)]; exact h1 h
  · rw [if_neg (by simpa using h)]; exact h2 h

local macro_rules | `(tactic| kct_strs) => `(tactic| first
  | with_reducible assumption
  | with_reducible exact Wx.old (by assumption) (by assumption)
  | with_reducible exact Wx.src (by assumption)
  | with_reducible exact Wx.seq (by assumption) List.mem_cons_self
  | with_reducible exact Wx.seq (by assumption) (List.mem_cons_of_mem _ List.mem_cons_self)
  | with_reducible exact Wx.seq (by assumption) (List.mem_cons_of_mem _ (List.mem_cons_of_mem _ List.mem_cons_self))
  | with_reducible exact Wx.seq (by assumption) (List.mem_cons_of_mem _ (List.mem_cons_of_mem _ (List.mem_cons_of_mem _ List.mem_cons_self)))
  | with_reducible exact Wx.seq (by assumption) (List.mem_cons_of_mem _ (List.mem_cons_of_mem _ (List.mem_cons_of_mem _ (List.mem_cons_of_mem _ List.mem_cons_self)))))
local macro_rules | `(tactic| kbo_bools) => `(tactic| first
  | with_reducible refine wpAny_execs_cons ?_
  | with_reducible refine wpAny_execs_nil ?_
  | with_reducible refine wpAny_Return_some ?_
  | with_reducible refine wpAny_If ?_
  | with_reducible refine wpAny_isTrue_Compare1 ?_
  | with_reducible refine isTrue_and_nil ?_
  | with_reducible refine isTrue_and ?_
  | with_reducible refine List_ ?_
  | ((with_reducible refine' x_list ?W ?h ?hsz); (case W => with_reducible assumption); (case hsz => exact Nat.le_of_ble_eq_true rfl); intro _ _ _ _)
  | with_reducible refine wpAny_BinOp ?_
  | ((with_reducible refine' x_tslice ?h ?ht); (case ht => (intro _ _; rfl)))
  | with_reducible refine Subscript_ ?_
  | with_reducible refine IfExp_ ?_
  | with_reducible refine PyProof.Rows.eq_str ?_
  | with_reducible refine wpAny_Constant_int ?_
  | with_reducible refine Calls.Constant_str ?_
  | ((with_reducible refine' x_local ?W ?hv ?h ?hL ?hk ?hl); (case W => with_reducible assumption); (case hl => rfl); (case hL => rfl); (case hk => rfl); (case hv => first | rfl | assumption))
  | ((with_reducible refine' x_global ?W ?G ?hv ?h ?hg ?hk ?hx); (case W => with_reducible assumption); (case hx => rfl); (case G => with_reducible assumption); (case hv => with_reducible assumption); (case hg => rfl); (case hk => rfl))
  | ((with_reducible refine' Call_ ?h ?he); (case he => rfl))
  | ((with_reducible refine' x_callfn ?i ?h ?he); (case he => rfl); (case i => with_reducible assumption))
  | ((with_reducible refine' spliced_more ?h ?he); (case he => rfl))
  | with_reducible refine spliced_none ?_
  | with_reducible refine Tuple_ ?_
  | ((with_reducible refine' x_tuple ?W ?h ?hsz); (case W => with_reducible assumption); (case hsz => exact Nat.le_of_ble_eq_true rfl); intro _ _ _)
  | ((with_reducible refine' x_keep ?he ?h); (case he => with_reducible assumption))
  | ((with_reducible refine' x_tup_head ?ht ?h ?hs); (case ht => kct_strs); (case hs => with_unfolding_all rfl))
  | ((with_reducible refine' x_list_at ?ht ?hlo ?hhi ?hx ?h ?hs); (case ht => kct_strs); (case hlo => decide); (case hhi => decide); (case hx => rfl); (case hs => with_unfolding_all rfl))
  | ((with_reducible refine' x_tup_at ?ht ?hlo ?hhi ?hj ?hx ?h ?hs); (case ht => kct_strs); (case hlo => decide); (case hhi => decide); (case hj => rfl); (case hx => rfl); (case hs => with_unfolding_all rfl))
  | with_reducible refine PyProof.Rows.gt_int ?_
  | with_reducible refine PyProof.Rows.lt_int ?_
  | with_reducible refine PyProof.Rows.sub_int ?_
  | with_reducible refine PyProof.Rows.add_int ?_
  | with_reducible refine UnaryOp_ ?_
  | with_reducible refine PyProof.Rows.neg_int ?_
  | ((with_reducible refine' x_fdiv ?h0 ?hb ?h); (case h0 => first | assumption | omega); (case hb => assumption))
  | ((with_reducible refine' x_fmod ?h0 ?h); (case h0 => first | assumption | omega))
  | with_reducible refine PyProof.Rows.ge_int ?_
  | with_reducible refine PyProof.Rows.eq_int ?_
  | ((with_reducible refine' x_mul ?hab ?h); (case hab => first | with_reducible assumption | with_reducible exact .inl (by assumption) | with_reducible exact .inr (by assumption)))
  | with_reducible refine wpAny_truthy_bool ?_
  | with_reducible refine x_itf ?_
  | with_reducible refine x_itt ?_
  | ((with_reducible refine' x_unpack ?W ?D ?ht ?hn ?hstar ?h); (case W => with_reducible assumption); (case D => with_reducible assumption); (case ht => kct_strs); (case hn => rfl); (case hstar => rfl); intro _ _)
  | ((with_reducible refine' x_unpackItems ?W ?D ?ht ?hk ?h); (case W => with_reducible assumption); (case D => with_reducible assumption); (case ht => kct_strs); (case hk => rfl); intro _ _)
  | ((with_reducible show wpAny _ _ (assignInOrder _ _) _ _ _); (first | refine assignInOrder_cons ?_ | refine assignInOrder_nil ?_))
  | with_reducible refine bindName_ ?_
  | with_reducible refine PyProof.Rows.assign_Name ?_
  | ((with_reducible refine' x_store ?W ?h ?hL ?hk ?hl); (case W => with_reducible assumption); (case hl => rfl); (case hL => rfl); (case hk => rfl); intro _ _)
  | ((with_reducible refine' wpAny_Assign_Name ?h ?hs); (case hs => rfl))
  | ((with_reducible refine' wpAny_Assign_Subscript ?h ?hs); (case hs => rfl))
  | ((with_reducible refine' x_swap2 ?h ?hs ?hw); (case hs => rfl); (case hw => rfl))
  | ((with_reducible refine' x_swap4 ?h ?hs ?hw); (case hs => rfl); (case hw => rfl))
  | ((with_reducible refine' Assign_Tuple ?h ?hs ?hw); (case hs => rfl); (case hw => rfl))
  | ((with_reducible refine' x_builtin ?W ?G ?hv ?hb ?hn ?h ?hg ?hbn ?hk ?hx); (case W => with_reducible assumption); (case hx => rfl); (case G => with_reducible assumption); (case hv => with_reducible assumption); (case hb => boot_by_name); (case hn => decide); (case hg => rfl); (case hbn => rfl); (case hk => rfl))
  | ((with_reducible refine' callWith_builtin1 ?h ?he ?hp); (case he => rfl); (case hp => rfl))
  | ((with_reducible refine' PyProof.Rows.callWith_type1 ?h ?he ?hp); (case he => rfl); (case hp => rfl))
  | ((with_reducible refine call_abs_int ?_); intro _ _)
  | (dsimp only; done)
  | dsimp only)

/-- what follows, under a short name while a row is walked -/
structure Sealed {α : Type} (Q Q' : α → Shared → Prop) : Prop where
  imp : ∀ v s, Q v s → Q' v s
theorem x_seal {α : Type} {M : Model} {A : Around} {t : Sem α} {Q : α → Shared → Prop} {E : Value → Shared → Prop} {s : Shared} (h : ∀ Q', Sealed Q Q' → wpAny M A t Q' E s) : wpAny M A t Q E s := h _ ⟨fun _ _ x => x⟩
local macro_rules | `(tactic| kbo_bools) => do
  let q := Lean.mkIdent `Qs
  let h := Lean.mkIdent `hQs
  `(tactic| first
    | (with_reducible refine Sealed.imp $h _ _ ?_; clear $h $q)
    | (with_reducible refine wpAny_execs_cons ?_; refine x_seal ?_; intro $q:ident $h:ident))

section
variable {prog : Program} {w : World} {A : Around} {E : Value → Shared → Prop} {s : Shared} {B : Heap} {L : Addr} {Mu : Mut} {X : Led} {m mg mb : Str → Option Value} {v : Value} {Q : Value → Shared → Prop}

def sgn (x : Int) : Int := if x > 0 then 1 else if x < 0 then -1 else 0

set_option maxHeartbeats 400000 in
theorem sign_of_spec {a : Addr} {x : Int} {t : Tok} {y : Value} (W : Wx B L Mu X s.heap m) (G : Gl mg mb B) (D : AOk 1 A) (hv : mg "sign_of" = some v) (ha : SeqAt s.heap "tuple" a #[.int x t, y])
    (h : ∀ r h' tk u, r = sgn x → Wx B L Mu X h' m → Q (.int r u) { s with heap := h', toks := tk }) : wpAny (model prog w) A (call v [.ref a]) Q E s := by
  have fn := G.sign_of
  conv at fn => (arg 4; whnf)
  conv at fn => (arg 5; whnf)
  conv at fn => (arg 6; whnf)
  refine enterP fn W G D hv (by intros; rfl) (by decide) (by intro x hx; revert x; exact locs rfl) (by rfl) (by rfl) (by rfl) ?_
  intro a' cdv L' h₁ W₁ G₁ D₁
  dsimp only [List.map, List.zip, List.zipWith, List.length] at W₁ ⊢
  repeat kbo_bools
  refine x_if (fun hp => ?_) (fun hp => ?_)
  · repeat kbo_bools
    refine h _ _ _ _ ?_ (W.grow W₁.keep); simp [sgn, hp]
  · repeat kbo_bools
    refine x_if (fun hn => ?_) (fun hn => ?_)
    · repeat kbo_bools
      refine h _ _ _ _ ?_ (W.grow W₁.keep); simp [sgn, hp, hn]
    · repeat kbo_bools
      refine h _ _ _ _ ?_ (W.grow W₁.keep); simp [sgn, hp, hn]
end

section
variable {prog : Program} {w : World} {A : Around} {E : Value → Shared → Prop} {s : Shared} {B : Heap} {L : Addr} {Mu : Mut} {X : Led} {m mg mb : Str → Option Value} {v : Value} {Q : Value → Shared → Prop}

set_option maxHeartbeats 1000000 in
theorem compare_spec {a b : Addr} {n1 d1 n2 d2 : Int} {t1 t2 t3 t4 : Tok} (W : Wx B L Mu X s.heap m) (G : Gl mg mb B) (D : AOk 2 A) (hv : mg "compare" = some v)
    (ha : SeqAt s.heap "tuple" a #[.int n1 t1, .int d1 t2]) (hb : SeqAt s.heap "tuple" b #[.int n2 t3, .int d2 t4]) (o1 : IntOk n1 ∨ IntOk d2) (o2 : IntOk n2 ∨ IntOk d1)
    (h : ∀ r h' tk u, r = sgn (n1 * d2 - n2 * d1) → Wx B L Mu X h' m → Q (.int r u) { s with heap := h', toks := tk }) : wpAny (model prog w) A (call v [.ref a, .ref b]) Q E s := by
  have fn := G.compare
  conv at fn => (arg 4; whnf)
  conv at fn => (arg 5; whnf)
  conv at fn => (arg 6; whnf)
  refine enterP fn W G D hv (by intros; rfl) (by decide) (by intro x hx; revert x; exact locs rfl) (by rfl) (by rfl) (by rfl) ?_
  intro a' cdv L' h₁ W₁ G₁ D₁
  dsimp only [List.map, List.zip, List.zipWith, List.length] at W₁ ⊢
  obtain ⟨f1, hf1, if1⟩ := G₁.sign_of.name'
  repeat kbo_bools

  refine sign_of_spec (by assumption) G₁ D₁ hf1 (Wx.seq (by assumption) (.head _)) ?_
  intro r h' tk u hr W₂
  repeat kbo_bools
  exact h _ _ _ _ hr (W.grow W₂.keep)
end

section
variable {prog : Program} {w : World} {A : Around} {E : Value → Shared → Prop} {s : Shared} {B : Heap} {L : Addr} {Mu : Mut} {X : Led} {m mg mb : Str → Option Value} {v : Value} {Q : Value → Shared → Prop}

set_option maxHeartbeats 1000000 in
theorem common_divisor_spec {x y : Int} {t1 t2 : Tok} (W : Wx B L Mu X s.heap m) (G : Gl mg mb B) (D : AOk 1 A) (hv : mg "common_divisor" = some v) (hy : 0 ≤ y)
    (h : ∀ r h' tk u, r = (Int.gcd x y : Int) → Wx B L Mu X h' m → Q (.int r u) { s with heap := h', toks := tk }) : wpAny (model prog w) A (call v [.int x t1, .int y t2]) Q E s := by
  have fn := G.common_divisor
  conv at fn => (arg 4; whnf)
  conv at fn => (arg 5; whnf)
  conv at fn => (arg 6; whnf)
  refine enterP fn W G D hv (by intros; rfl) (by decide) (by intro x hx; revert x; exact locs rfl) (by rfl) (by rfl) (by rfl) ?_
  intro a' cdv L' h₁ W₁ G₁ D₁
  dsimp only [List.map, List.zip, List.zipWith, List.length] at W₁ ⊢
  obtain ⟨g1, g2, g3, g4, g5, g6, g7⟩ := G₁.no
  repeat kbo_bools
  refine x_while (fun n s' => ∃ h' tk f g t u X' m', s' = { s with heap := h', toks := tk } ∧ Wx s.heap L' [] X' h' m' ∧ m' "first" = some (.int f t) ∧ m' "second" = some (.int g u) ∧ 0 ≤ f ∧ 0 ≤ g ∧ Int.gcd f g = Int.gcd x y ∧ n = g.toNat) ?_ y.toNat ?_
  · rintro n s' ⟨h', tk, f, g, t, u, X', m', rfl, W₂, e1, e2, hf, hg, hgcd, hn⟩
    repeat kbo_bools
    refine x_if (fun hp => ?_) (fun hp => ?_)
    · repeat kbo_bools
      refine ⟨(f % g).toNat, ?_, _, _, _, _, _, _, _, _, rfl, by assumption, rfl, rfl, hg, Int.emod_nonneg _ (by omega), ?_, rfl⟩
      · have := Int.emod_lt_of_pos f hp
        have := Int.emod_nonneg f (show g ≠ 0 by omega)
        omega
      · rw [← hgcd, Int.gcd_comm f g, Int.emod_def, Int.gcd_sub_mul_left_right]
    · repeat kbo_bools
      have hg0 : g = 0 := by omega
      refine h _ _ _ _ ?_ (W.grow W₂.keep)
      rw [← hgcd, hg0, Int.gcd_zero_right]
      omega
  · refine ⟨_, _, _, _, _, _, _, _, rfl, by assumption, rfl, rfl, ?_, hy, ?_, rfl⟩
    · split <;> omega
    · split
      · rw [Int.neg_gcd]
      · rfl
end

theorem gcd_pos' {x y : Int} (hy : 0 < y) : 0 < (Int.gcd x y : Int) := by
  have := Int.gcd_pos_of_ne_zero_right x (show y ≠ 0 by omega); omega
theorem gcd_ok {x y : Int} (hy : 0 < y) (ho : IntOk y) : IntOk (Int.gcd x y : Int) := by
  unfold IntOk at *
  have h1 : Int.gcd x y ≤ y.natAbs := Nat.gcd_le_right _ (by omega)
  omega

section
variable {prog : Program} {w : World} {A : Around} {E : Value → Shared → Prop} {s : Shared} {B : Heap} {L : Addr} {Mu : Mut} {X : Led} {m mg mb : Str → Option Value} {v : Value} {Q : Value → Shared → Prop}

set_option maxHeartbeats 1000000 in
theorem fraction_spec {x y : Int} {t1 t2 : Tok} (W : Wx B L Mu X s.heap m) (G : Gl mg mb B) (D : AOk 2 A) (hv : mg "fraction" = some v) (hy : 0 < y) (oy : IntOk y)
    (h : ∀ r h' tk u1 u2, Wx B L Mu ((r, "tuple", #[.int (x / (Int.gcd x y : Int)) u1, .int (y / (Int.gcd x y : Int)) u2]) :: X) h' m → Q (.ref r) { s with heap := h', toks := tk }) : wpAny (model prog w) A (call v [.int x t1, .int y t2]) Q E s := by
  have fn := G.fraction
  conv at fn => (arg 4; whnf)
  conv at fn => (arg 5; whnf)
  conv at fn => (arg 6; whnf)
  refine enterP1 fn W G D hv (by intros; exact ⟨_, rfl, rfl⟩) (by decide) (by intro x hx; revert x; exact locs rfl) (by rfl) (by rfl) (by rfl) ?_
  intro a' cdv L' h₁ W₁ G₁ D₁
  dsimp only [List.map, List.zip, List.zipWith, List.length] at W₁ ⊢
  obtain ⟨f1, hf1, if1⟩ := G₁.common_divisor.name'
  repeat kbo_bools
  refine x_ife (fun e => absurd e (by omega)) (fun _ => ?_)
  repeat kbo_bools
  refine x_if (fun e => absurd e (by omega)) (fun _ => ?_)
  repeat kbo_bools
  refine common_divisor_spec (by assumption) G₁ D₁ hf1 (by omega) ?_
  intro r h' tk u hr W₂
  subst hr
  have hp := gcd_pos' (x := x) hy
  have ho := gcd_ok (x := x) hy oy
  repeat kbo_bools
  exact h _ _ _ _ _ (W.backP1 (by assumption) List.mem_cons_self)

set_option maxHeartbeats 1000000 in
theorem minus_spec {a b : Addr} {n1 d1 n2 d2 : Int} {t1 t2 t3 t4 : Tok} (W : Wx B L Mu X s.heap m) (G : Gl mg mb B) (D : AOk 3 A) (hv : mg "minus" = some v)
    (ha : SeqAt s.heap "tuple" a #[.int n1 t1, .int d1 t2]) (hb : SeqAt s.heap "tuple" b #[.int n2 t3, .int d2 t4]) (o1 : IntOk n1 ∨ IntOk d2) (o2 : IntOk n2 ∨ IntOk d1) (o3 : IntOk d1 ∨ IntOk d2) (hd : 0 < d1 * d2) (od : IntOk (d1 * d2))
    (h : ∀ r h' tk u1 u2 x y, x = n1 * d2 - n2 * d1 → y = d1 * d2 → Wx B L Mu ((r, "tuple", #[.int (x / (Int.gcd x y : Int)) u1, .int (y / (Int.gcd x y : Int)) u2]) :: X) h' m → Q (.ref r) { s with heap := h', toks := tk }) :
    wpAny (model prog w) A (call v [.ref a, .ref b]) Q E s := by
  have fn := G.minus
  conv at fn => (arg 4; whnf)
  conv at fn => (arg 5; whnf)
  conv at fn => (arg 6; whnf)
  refine enterP fn W G D hv (by intros; rfl) (by decide) (by intro x hx; revert x; exact locs rfl) (by rfl) (by rfl) (by rfl) ?_
  intro a' cdv L' h₁ W₁ G₁ D₁
  dsimp only [List.map, List.zip, List.zipWith, List.length] at W₁ ⊢
  obtain ⟨f1, hf1, if1⟩ := G₁.fraction.name'
  repeat kbo_bools
  refine fraction_spec (by assumption) G₁ D₁ hf1 hd od ?_
  intro r h' tk u1 u2 W₂
  repeat kbo_bools
  exact h _ _ _ _ _ _ _ rfl rfl (W.backP1 W₂ List.mem_cons_self)

set_option maxHeartbeats 1000000 in
theorem times_spec {a b : Addr} {n1 d1 n2 d2 : Int} {t1 t2 t3 t4 : Tok} (W : Wx B L Mu X s.heap m) (G : Gl mg mb B) (D : AOk 3 A) (hv : mg "times" = some v)
    (ha : SeqAt s.heap "tuple" a #[.int n1 t1, .int d1 t2]) (hb : SeqAt s.heap "tuple" b #[.int n2 t3, .int d2 t4]) (o1 : IntOk n1 ∨ IntOk n2) (o3 : IntOk d1 ∨ IntOk d2) (hd : 0 < d1 * d2) (od : IntOk (d1 * d2))
    (h : ∀ r h' tk u1 u2 x y, x = n1 * n2 → y = d1 * d2 → Wx B L Mu ((r, "tuple", #[.int (x / (Int.gcd x y : Int)) u1, .int (y / (Int.gcd x y : Int)) u2]) :: X) h' m → Q (.ref r) { s with heap := h', toks := tk }) :
    wpAny (model prog w) A (call v [.ref a, .ref b]) Q E s := by
  have fn := G.times
  conv at fn => (arg 4; whnf)
  conv at fn => (arg 5; whnf)
  conv at fn => (arg 6; whnf)
  refine enterP fn W G D hv (by intros; rfl) (by decide) (by intro x hx; revert x; exact locs rfl) (by rfl) (by rfl) (by rfl) ?_
  intro a' cdv L' h₁ W₁ G₁ D₁
  dsimp only [List.map, List.zip, List.zipWith, List.length] at W₁ ⊢
  obtain ⟨f1, hf1, if1⟩ := G₁.fraction.name'
  repeat kbo_bools
  refine fraction_spec (by assumption) G₁ D₁ hf1 hd od ?_
  intro r h' tk u1 u2 W₂
  repeat kbo_bools
  exact h _ _ _ _ _ _ _ rfl rfl (W.backP1 W₂ List.mem_cons_self)
end

section
variable {prog : Program} {w : World} {A : Around} {E : Value → Shared → Prop} {s : Shared} {B : Heap} {L : Addr} {Mu : Mut} {X : Led} {m mg mb : Str → Option Value} {v : Value} {Q : Value → Shared → Prop}

set_option maxHeartbeats 1000000 in
theorem lowest_spec {x y : Int} {t1 t2 : Tok} (W : Wx B L Mu X s.heap m) (G : Gl mg mb B) (D : AOk 1 A) (hv : mg "_law_lowest" = some v) (hy : 0 < y) (oy : IntOk y)
    (h : ∀ r h' tk u1 u2, Wx B L Mu ((r, "tuple", #[.int (x / (Int.gcd x y : Int)) u1, .int (y / (Int.gcd x y : Int)) u2]) :: X) h' m → Q (.ref r) { s with heap := h', toks := tk }) : wpAny (model prog w) A (call v [.int x t1, .int y t2]) Q E s := by
  have fn := G.lowest
  conv at fn => (arg 4; whnf)
  conv at fn => (arg 5; whnf)
  conv at fn => (arg 6; whnf)
  refine enterP fn W G D hv (by intros; rfl) (by decide) (by intro x hx; revert x; exact locs rfl) (by rfl) (by rfl) (by rfl) ?_
  intro a' cdv L' h₁ W₁ G₁ D₁
  dsimp only [List.map, List.zip, List.zipWith, List.length] at W₁ ⊢
  obtain ⟨g1, g2, g3, g4, g5, g6, g7⟩ := G₁.no
  repeat kbo_bools
  refine x_while (fun n s' => ∃ h' tk f g t u X' m', s' = { s with heap := h', toks := tk } ∧ Wx s.heap L' [] X' h' m' ∧ m' "one" = some (.int f t) ∧ m' "other" = some (.int g u) ∧ m' "top" = some (.int x t1) ∧ m' "bottom" = some (.int y t2) ∧
     0 ≤ f ∧ 0 ≤ g ∧ Int.gcd f g = Int.gcd x y ∧ n = g.toNat) ?_ y.toNat ?_
  · rintro n s' ⟨h', tk, f, g, t, u, X', m', rfl, W₂, e1, e2, e3, e4, hf, hg, hgcd, hn⟩
    repeat kbo_bools
    refine x_if (fun hp => ?_) (fun hp => ?_)
    · repeat kbo_bools
      refine ⟨(f % g).toNat, ?_, _, _, _, _, _, _, _, _, rfl, by assumption, rfl, rfl, by exact e3, by exact e4, hg, Int.emod_nonneg _ (by omega), ?_, rfl⟩
      · have := Int.emod_lt_of_pos f hp
        have := Int.emod_nonneg f (show g ≠ 0 by omega)
        omega
      · rw [← hgcd, Int.gcd_comm f g, Int.emod_def, Int.gcd_sub_mul_left_right]
    · have hg0 : g = 0 := by omega
      have hfe : f = (Int.gcd x y : Int) := by
        rw [← hgcd, hg0, Int.gcd_zero_right]
        omega
      have hp := gcd_pos' (x := x) hy
      have ho := gcd_ok (x := x) hy oy
      rw [← hfe] at hp ho
      repeat kbo_bools
      rw [hfe] at *
      exact h _ _ _ _ _ (W.backP1 (by assumption) List.mem_cons_self)
  · refine ⟨_, _, _, _, _, _, _, _, rfl, by assumption, rfl, rfl, rfl, rfl, ?_, by omega, ?_, rfl⟩
    · split <;> omega
    · split
      · rw [Int.neg_gcd]
      · rfl

set_option maxHeartbeats 2000000 in
theorem place_spec {a b c : Addr} {b0 b1 s0 s1 h0 h1 : Int} {t1 t2 t3 t4 t5 t6 : Tok} {z : Value} (W : Wx B L Mu X s.heap m) (G : Gl mg mb B) (D : AOk 2 A) (hv : mg "_law_place" = some v)
    (ha : SeqAt s.heap "tuple" a #[.int b0 t1, .int b1 t2]) (hb : SeqAt s.heap "tuple" b #[.int s0 t3, .int s1 t4, z]) (hc : SeqAt s.heap "tuple" c #[.int h0 t5, .int h1 t6])
    (o1 : IntOk b0) (o2 : IntOk b1) (o3 : IntOk s0) (o4 : IntOk s1) (o5 : IntOk h0) (o6 : IntOk h1) (hd : 0 < b1 * s1 * h1) (od : IntOk (b1 * s1 * h1))
    (h : ∀ r h' tk u1 u2 x y, x = b0 * s1 * h1 + s0 * h0 * b1 → y = b1 * s1 * h1 → Wx B L Mu ((r, "tuple", #[.int (x / (Int.gcd x y : Int)) u1, .int (y / (Int.gcd x y : Int)) u2]) :: X) h' m → Q (.ref r) { s with heap := h', toks := tk }) :
    wpAny (model prog w) A (call v [.ref a, .ref b, .ref c]) Q E s := by
  have fn := G.place
  conv at fn => (arg 4; whnf)
  conv at fn => (arg 5; whnf)
  conv at fn => (arg 6; whnf)
  refine enterP fn W G D hv (by intros; rfl) (by decide) (by intro x hx; revert x; exact locs rfl) (by rfl) (by rfl) (by rfl) ?_
  intro a' cdv L' h₁ W₁ G₁ D₁
  dsimp only [List.map, List.zip, List.zipWith, List.length] at W₁ ⊢
  obtain ⟨f1, hf1, if1⟩ := G₁.lowest.name'
  repeat kbo_bools
  refine lowest_spec (by assumption) G₁ D₁ hf1 hd od ?_
  intro r h' tk u1 u2 W₂
  repeat kbo_bools
  exact h _ _ _ _ _ _ _ rfl rfl (W.backP1 W₂ List.mem_cons_self)
end

/-- a segment, as the program lays it -/
inductive Sg where
  | close
  | pl (w : Str) (ps : List Value)
  | arc (ah ps : List Value)
def Sg.pts : Sg → List Value
  | .close => []
  | .pl _ ps => ps
  | .arc _ ps => ps
def SgAt (h : Heap) (a : Addr) : Sg → Prop
  | .close => ∃ t, SeqAt h "tuple" a [.str "close" t].toArray
  | .pl w ps => w ≠ "close" ∧ w ≠ "arc" ∧ ∃ t, SeqAt h "tuple" a (.str w t :: ps).toArray
  | .arc ah ps => ah.length = 5 ∧ ∃ t, SeqAt h "tuple" a (.str "arc" t :: (ah ++ ps)).toArray
theorem SgAt.keeps {h h' : Heap} {a : Addr} {g : Sg} (x : SgAt h a g) (k : ∀ c a items, SeqAt h c a items → SeqAt h' c a items) : SgAt h' a g := by
  cases g with
  | close => exact let ⟨t, x⟩ := x; ⟨t, k _ _ _ x⟩
  | pl w ps => exact let ⟨h1, h2, t, x⟩ := x; ⟨h1, h2, t, k _ _ _ x⟩
  | arc ah ps => exact let ⟨h1, t, x⟩ := x; ⟨h1, t, k _ _ _ x⟩

section
variable {prog : Program} {w : World} {A : Around} {E : Value → Shared → Prop} {s : Shared} {B : Heap} {L : Addr} {Mu : Mut} {X : Led} {m mg mb : Str → Option Value} {v : Value} {Q : Value → Shared → Prop}

set_option maxHeartbeats 1000000 in
theorem segment_points_spec {a : Addr} {g : Sg} (W : Wx B L Mu X s.heap m) (G : Gl mg mb B) (D : AOk 1 A) (hv : mg "segment_points" = some v) (hg : SgAt s.heap a g) (hl : g.pts.length ≤ 1000)
    (h : ∀ r h' tk, Wx B L Mu ((r, "tuple", g.pts.toArray) :: X) h' m → Q (.ref r) { s with heap := h', toks := tk }) : wpAny (model prog w) A (call v [.ref a]) Q E s := by
  have fn := G.segment_points
  conv at fn => (arg 4; whnf)
  conv at fn => (arg 5; whnf)
  conv at fn => (arg 6; whnf)
  refine enterP fn W G D hv (by intros; rfl) (by decide) (by intro x hx; revert x; exact locs rfl) (by rfl) (by rfl) (by rfl) ?_
  intro a' cdv L' h₁ W₁ G₁ D₁
  dsimp only [List.map, List.zip, List.zipWith, List.length] at W₁ ⊢
  cases g with
  | close =>
    obtain ⟨t, hs⟩ := hg
    repeat kbo_bools
    refine x_ifs (fun _ => ?_) (fun q => absurd rfl q)
    repeat kbo_bools
    exact h _ _ _ (W.backP1 (by assumption) List.mem_cons_self)
  | pl w ps =>
    obtain ⟨h1, h2, t, hs⟩ := hg
    have hs1 : SeqAt h₁ "tuple" a (Value.str w t :: ps).toArray := W₁.old hs
    repeat kbo_bools
    refine x_ifs (fun q => absurd q h1) (fun _ => ?_)
    repeat kbo_bools
    refine x_ifs (fun q => absurd q h2) (fun _ => ?_)
    repeat kbo_bools
    refine x_TSl (a := 1) (by assumption) hs1 (by decide) (by simp) (by simp only [List.length_cons]; have : ps.length ≤ 1000 := hl; rw [sizeLine_eq]; omega) ?_
    intro r h' W₂
    repeat kbo_bools
    exact h _ _ _ (W.backP1 W₂ List.mem_cons_self)
  | arc ah ps =>
    obtain ⟨h1, t, hs⟩ := hg
    have hs1 : SeqAt h₁ "tuple" a (Value.str "arc" t :: (ah ++ ps)).toArray := W₁.old hs
    repeat kbo_bools
    refine x_ifs (fun q => absurd q (by decide)) (fun _ => ?_)
    repeat kbo_bools
    refine x_ifs (fun _ => ?_) (fun q => absurd rfl q)
    repeat kbo_bools
    refine x_TSl (a := 6) (by assumption) hs1 (by decide) (by simp; omega) (by simp only [List.length_cons, List.length_append]; have : ps.length ≤ 1000 := hl; rw [sizeLine_eq]; omega) ?_
    intro r h' W₂
    have e : (Value.str "arc" t :: (ah ++ ps)).drop 6 = ps := by
      rw [List.drop_succ_cons, List.drop_append_of_le_length (by omega), List.drop_of_length_le (by omega)]; rfl
    rw [e] at W₂
    repeat kbo_bools
    exact h _ _ _ (W.backP1 W₂ List.mem_cons_self)
end

abbrev Sub (B B' : Heap) := ∀ b o, B.get? b = some o → B'.get? b = some o
def SeqMono (B B' : Heap) := ∀ c a items, SeqAt B c a items → SeqAt B' c a items
theorem SeqMono.of {B B' : Heap} (k : Sub B B') : SeqMono B B' := fun _ _ _ x => x.keeps k
abbrev adr (Mu : Mut) : List Addr := Mu.map (·.1)

section
variable {B B' h h' : Heap} {L : Addr} {Mu : Mut} {X : Led} {m m' : Str → Option Value}

/-- all but some places outside of what the frame knows is as it was -/
theorem Wx.keepX {l : List Addr} (W : Wx B L Mu X h m) (k : ∀ b o, b ∉ l → h.get? b = some o → h'.get? b = some o) (hL : L ∉ l) (hM : ∀ b ∈ adr Mu, b ∉ l) (hB : ∀ b ∈ l, B.get? b = none) (hX : ∀ p ∈ X, p.1 ∉ l) :
    Wx B L Mu X h' m := by
  refine ⟨?_, fun b o e => k _ _ (fun q => ?_) (W.keep b o e), W.nL, fun p hp => ⟨(W.mu p hp).1.keepX k (hM _ (List.mem_map_of_mem hp)), (W.mu p hp).2⟩, W.nd, fun p hp => ⟨(W.led p hp).1.keepX k (hX p hp), (W.led p hp).2⟩⟩
  · obtain ⟨o, es, ep, ho, r⟩ := W.ns
    exact ⟨o, es, ep, k _ _ hL ho, r⟩
  · rw [hB b q] at e; cases e
theorem none_mono {h h' : Heap} (k : Sub h h') {a : Addr} (e : h'.get? a = none) : h.get? a = none := by
  cases q : h.get? a with
  | none => rfl
  | some o => rw [k _ _ q] at e; cases e
/-- back in the caller's frame, the call's own part being a larger one -/
theorem Wx.backB {L' : Addr} {X' : Led} {C : Heap} {r : Addr} {c : String} {items : Array Value} (W : Wx B L Mu X h m) (k : Sub h C) (W' : Wx C L' [] X' h' m')
    (hm : (r, c, items) ∈ X') : Wx B L Mu ((r, c, items) :: X) h' m := W.add (fun b o e => W'.keep _ _ (k _ _ e)) (none_mono k (W'.new hm)) (W'.seq hm)
theorem Wx.carry {r : Addr} {c : String} {items : Array Value} (W : Wx B L Mu X h m) (hin : ∀ b o, h.get? b = some o → b ≠ L → b ∉ Mu.map (·.1) → B'.get? b = some o) (hm : (r, c, items) ∈ X) : SeqAt B' c r items := by
  obtain ⟨o, ho, hr⟩ := W.seq hm
  exact ⟨o, hin _ _ ho (ns_ne W.ns ⟨o, ho, hr⟩) (W.led _ hm).2.1, hr⟩
/-- over a smaller part -/
theorem Wx.less (W : Wx B L Mu [] h m) (k : Sub B' B) : Wx B' L Mu [] h m := by
  have none_of : ∀ a, B.get? a = none → B'.get? a = none := fun a e => by
    cases q : B'.get? a with
    | none => rfl
    | some o => rw [k _ _ q] at e; cases e
  exact ⟨W.ns, fun b o e => W.keep _ _ (k _ _ e), none_of _ W.nL, fun p hp => ⟨(W.mu p hp).1, none_of _ (W.mu p hp).2⟩, W.nd, fun p hp => nomatch hp⟩

/-- one of the lists that turn, wherever it stands -/
theorem Wx.turnG {a : Addr} {it it' : Array Value} {Pre Post : Mut} (W : Wx B L (Pre ++ (a, it) :: Post) X h m) (k : ∀ b o, b ≠ a → h.get? b = some o → h'.get? b = some o) (x : SeqAt h' "list" a it') :
    Wx B L (Pre ++ (a, it') :: Post) X h' m := by
  have hmem : (a, it) ∈ Pre ++ (a, it) :: Post := by simp
  have haL : L ≠ a := fun e => W.muL (by rw [e]; exact List.mem_map_of_mem hmem)
  have hBa := (W.mu _ hmem).2
  have nd := W.nd
  have hne : ∀ p ∈ Pre ++ Post, p.1 ≠ a := by
    simp only [List.map_append, List.map_cons, List.nodup_append, List.nodup_cons] at nd
    intro p hp q
    rcases List.mem_append.mp hp with hp | hp
    · exact nd.2.2 _ (List.mem_map_of_mem hp) _ (List.mem_cons_self) q
    · exact nd.2.1.1 (q ▸ List.mem_map_of_mem hp)
  refine ⟨?_, fun b o e => k _ _ (fun q => ?_) (W.keep b o e), W.nL, fun p hp => ?_, by simpa using nd, fun p hp => ?_⟩
  · obtain ⟨o, es, ep, ho, r⟩ := W.ns
    exact ⟨o, es, ep, k _ _ haL ho, r⟩
  · rw [q] at e; exact absurd (hBa.symm.trans e) (by simp)
  · rcases List.mem_append.mp hp with hp' | hp'
    · have hw := W.mu p (List.mem_append_left _ hp')
      obtain ⟨o, ho, r⟩ := hw.1
      exact ⟨⟨o, k _ _ (hne p (List.mem_append_left _ hp')) ho, r⟩, hw.2⟩
    · rcases List.mem_cons.mp hp' with rfl | hp''
      · exact ⟨x, hBa⟩
      · have hw := W.mu p (List.mem_append_right _ (List.mem_cons_of_mem _ hp''))
        obtain ⟨o, ho, r⟩ := hw.1
        exact ⟨⟨o, k _ _ (hne p (List.mem_append_right _ hp'')) ho, r⟩, hw.2⟩
  · have hw := W.led p hp
    obtain ⟨o, ho, r⟩ := hw.1
    refine ⟨⟨o, k _ _ (fun q => hw.2.1 ?_) ho, r⟩, by simpa using hw.2⟩
    rw [q]; simp

end

section
variable {prog : Program} {w : World} {A : Around} {E : Value → Shared → Prop} {s : Shared} {env : Env} {B₀ : Heap} {L : Addr} {Mu : Mut} {m : Str → Option Value} {R : Result → Shared → Prop}

theorem x_forLoop {x : Str} {px : Pos} {body : List Stmt} {I : Addr} {fp wr : List Addr} {n : Nat} {P : Nat → Value → Prop} {St : Nat → Heap → Prop} (K : Walks prog w A I fp wr n P St) (W : Wx B₀ L Mu [] s.heap m)
    (J : Nat → Heap → Mut → (Str → Option Value) → Prop) (hJ : ∀ {i B B' Mu m}, SeqMono B B' → J i B Mu m → J i B' Mu m)
    (hfp : ∀ b ∈ fp, b ≠ L ∧ b ∉ adr Mu) (hwr : ∀ b ∈ wr, B₀.get? b = none) (hwrF : ∀ i h, St i h → ∀ b ∈ wr, ∀ c items, ¬ SeqAt h c b items) (hst : St 0 s.heap)
    (hL : env.locals = L) (hk : env.scope.kind = .function) (hl : env.kindOf x = some .local) (h0 : J 0 B₀ Mu m)
    (turn : ∀ i v B₁ Mu₁ m₁ h₁ tk, i < n → P i v → Sub B₀ B₁ → adr Mu₁ = adr Mu → Wx B₁ L Mu₁ [] h₁ (fun y => if y = x then some v else m₁ y) → J i B₁ Mu₁ m₁ →
      wpAny (model prog w) A (execs body env) (fun f s' => f = .next ∧ ∃ h' tk' B₂ Mu₂ m₂, s' = { s with heap := h', toks := tk' } ∧ Sub B₁ B₂ ∧ adr Mu₂ = adr Mu ∧ Wx B₂ L Mu₂ [] h' m₂ ∧ J (i + 1) B₂ Mu₂ m₂) (fun _ _ => False) { s with heap := h₁, toks := tk })
    (done : ∀ B₁ Mu₁ m₁ h₁ tk, Sub B₀ B₁ → adr Mu₁ = adr Mu → Wx B₁ L Mu₁ [] h₁ m₁ → J n B₁ Mu₁ m₁ → R (.ok .next) { s with heap := h₁, toks := tk }) :
    codeAny (model prog w) A (.forLoop (.Name x px) (.ref I) body [] env) R s := by
  refine codeAny_forLoop_any (fun k s' => ∃ h tk i B Mu' m', s' = { s with heap := h, toks := tk } ∧ k = n + 1 - i ∧ i ≤ n ∧ St i h ∧ Wx B L Mu' [] h m' ∧ Sub B₀ B ∧ adr Mu' = adr Mu ∧ (∀ b ∈ wr, B.get? b = none) ∧ J i B Mu' m') ?_ (n + 1)
    ⟨s.heap, s.toks, 0, B₀, Mu, m, rfl, rfl, Nat.zero_le _, hst, W, fun _ _ e => e, rfl, hwr, h0⟩
  rintro k s' ⟨h, tk, i, B, Mu', m', rfl, rfl, hi, hst', W', hB, hM, hw, hJi⟩
  have hLw : L ∉ wr := fun q => (hfp _ (K.sub _ q)).1 rfl
  have hMw : ∀ b ∈ adr Mu', b ∉ wr := fun b hb q => (hfp _ (K.sub _ q)).2 (hM ▸ hb)
  by_cases hin : i < n
  · refine K.item i _ _ _ hin hst' fun v h₁ tk₁ hP hst₁ hk₁ => ?_
    refine wpAny_pure (a := ()) ?_
    have W₁ := W'.keepX hk₁ hLw hMw hw (fun p hp => nomatch hp)
    refine wpAny_assign_Name (wpAny_storeName_local hl (hL ▸ W₁.ns) (fun h₂ hn hs => ?_) (by rw [hk]; rfl))
    rw [hL] at hn hs
    have W₂ := W₁.set hn hs
    obtain ⟨B₁, hBB, W₃, hin₁⟩ := W₂.rebase
    have hst₂ : St (i + 1) h₂ := K.frame _ _ _ hst₁ fun b hb o e => (hs.2 b (hfp b hb).1).trans e
    refine wpAny_mono (turn i v B₁ Mu' m' h₂ _ hin hP (fun b o e => hBB _ _ (hB _ _ e)) hM W₃ (hJ (SeqMono.of hBB) hJi)) (fun f s₃ hf => ?_) fun _ _ f => f.elim
    obtain ⟨rfl, h₃, tk₃, B₂, Mu₂, m₂, rfl, hS, hM₂, W₄, hJ₂⟩ := hf
    have hst₃ : St (i + 1) h₃ := K.frame _ _ _ hst₂ fun b hb o e => W₄.keep _ _ (hS _ _ (hin₁ b o e (hfp b hb).1 (by show b ∉ adr Mu'; rw [hM]; exact (hfp b hb).2)))
    refine ⟨n + 1 - (i + 1), by omega, h₃, tk₃, i + 1, hideAll B₂ wr, Mu₂, m₂, rfl, rfl, hin, hst₃, W₄.less (fun b o e => of_hideAll _ e), fun b o e => ?_, hM₂, fun b hb => hideAll_none _ hb, hJ (fun c a items x => ?_) hJ₂⟩
    · refine hideAll_get _ (hS _ _ (hBB _ _ (hB _ _ e))) fun q => ?_
      rw [hwr b q] at e; cases e
    · obtain ⟨o, ho, r⟩ := x
      exact ⟨o, hideAll_get _ ho fun q => hwrF _ _ hst₃ a q c items ⟨o, W₄.keep _ _ ho, r⟩, r⟩
  · have : i = n := by omega
    subst this
    refine K.done _ _ _ hst' fun h₁ tk₁ hk₁ => ?_
    exact wpAny_execs_nil (done B Mu' m' h₁ tk₁ hB hM (W'.keepX hk₁ hLw hMw hw (fun p hp => nomatch hp)) hJi)

theorem x_forList {x : Str} {px : Pos} {body : List Stmt} {l : Addr} {vs : List Value} {X : Led} {nn : Nat} (D : AOk nn A) (W : Wx B₀ L Mu X s.heap m) (hv : SeqAt B₀ "list" l vs.toArray)
    (J : Nat → Heap → Mut → (Str → Option Value) → Prop) (hJ : ∀ {i B B' Mu m}, SeqMono B B' → J i B Mu m → J i B' Mu m)
    (hL : env.locals = L) (hk : env.scope.kind = .function) (hl : env.kindOf x = some .local) (h0 : J 0 B₀ Mu m)
    (turn : ∀ i v B₁ Mu₁ m₁ h₁ tk, i < vs.length → vs[i]? = some v → Sub B₀ B₁ → adr Mu₁ = adr Mu → Wx B₁ L Mu₁ [] h₁ (fun y => if y = x then some v else m₁ y) → J i B₁ Mu₁ m₁ →
      wpAny (model prog w) A (execs body env) (fun f s' => f = .next ∧ ∃ h' tk' B₂ Mu₂ m₂, s' = { s with heap := h', toks := tk' } ∧ Sub B₁ B₂ ∧ adr Mu₂ = adr Mu ∧ Wx B₂ L Mu₂ [] h' m₂ ∧ J (i + 1) B₂ Mu₂ m₂) (fun _ _ => False) { s with heap := h₁, toks := tk })
    (done : ∀ B₁ Mu₁ m₁ h₁ tk, Sub B₀ B₁ → adr Mu₁ = adr Mu → Wx B₁ L Mu₁ [] h₁ m₁ → J vs.length B₁ Mu₁ m₁ → R (.ok .next) { s with heap := h₁, toks := tk }) :
    wpAny (model prog w) A (pyIter (.ref l)) (fun it s₂ => codeAny (model prog w) A (.forLoop (.Name x px) it body [] env) R s₂) E s := by
  have hv' : SeqAt s.heap "list" l vs.toArray := W.old hv
  refine wpAny_pyIter_list hv'.isList ?_
  have hI : s.heap.get? s.heap.objs.size = none := Heap.get?_none_of_le (Nat.le_refl _)
  obtain ⟨ol, hol, hol'⟩ := id hv
  have hlI : l ≠ s.heap.objs.size := fun e => by
    have := W.keep _ _ hol
    rw [e, hI] at this; cases this
  have hBI : B₀.get? s.heap.objs.size = none := by
    cases q : B₀.get? s.heap.objs.size with
    | none => rfl
    | some o => rw [W.keep _ _ q] at hI; cases hI
  have W' : Wx B₀ L Mu [] (s.heap.push { cls := .type "list_iterator", data := .fields #[.ref l, .int 0 0] }) m := (W.drop (X' := []) (fun p hp => nomatch hp)).grow fun _ _ e => Heap.get?_push_of_some _ e
  refine x_forLoop (s := { s with heap := s.heap.push { cls := .type "list_iterator", data := .fields #[.ref l, .int 0 0] } }) (Walks.list D.1 s.heap.objs.size l hlI vs.toArray) W' J hJ ?_ ?_ ?_ ?_ hL hk hl h0 ?_ ?_
  · intro b hb
    simp only [List.mem_cons, List.not_mem_nil, or_false] at hb
    rcases hb with rfl | rfl
    · refine ⟨fun e => ?_, fun q => ?_⟩
      · obtain ⟨o, _, _, ho, _⟩ := W.ns
        rw [e] at hI; rw [ho] at hI; cases hI
      · obtain ⟨p, hp, e⟩ := List.mem_map.mp q
        obtain ⟨o, ho⟩ := (W.mu p hp).1.get
        rw [e, hI] at ho; cases ho
    · refine ⟨fun e => ?_, fun q => ?_⟩
      · rw [e, W.nL] at hol; cases hol
      · obtain ⟨p, hp, e⟩ := List.mem_map.mp q
        have := (W.mu p hp).2
        rw [e, hol] at this; cases this
  · intro b hb
    simp only [List.mem_cons, List.not_mem_nil, or_false] at hb
    rw [hb]; exact hBI
  · rintro i h ⟨⟨o, ho, hc, hd⟩, _⟩ b hb c items ⟨o', ho', _, k, hd'⟩
    simp only [List.mem_cons, List.not_mem_nil, or_false] at hb
    rw [hb, ho] at ho'; cases ho'; rw [hd] at hd'; cases hd'
  · exact ⟨⟨_, Heap.get?_push_size _ rfl, rfl, rfl⟩, ⟨ol, Heap.get?_push_of_some _ (W.keep _ _ hol), hol'⟩⟩
  · intro i v B₁ Mu₁ m₁ h₁ tk hi hP hS hM W₁ hJ₁
    refine turn i v B₁ Mu₁ m₁ h₁ tk (by simpa using hi) (by simpa using hP) hS hM W₁ hJ₁
  · intro B₁ Mu₁ m₁ h₁ tk hS hM W₁ hJ₁
    exact done B₁ Mu₁ m₁ h₁ tk hS hM W₁ (by simpa using hJ₁)
end

abbrev Fr2 := Int × Int
/-- a fraction, laid as a tuple -/
def FrAt (h : Heap) (v : Value) (q : Fr2) : Prop := ∃ a t u, v = .ref a ∧ SeqAt h "tuple" a #[.int q.1 t, .int q.2 u]
theorem FrAt.mono {h h' : Heap} {v : Value} {q : Fr2} (x : FrAt h v q) (k : SeqMono h h') : FrAt h' v q := let ⟨a, t, u, e, x⟩ := x; ⟨a, t, u, e, k _ _ _ x⟩
def Frs (h : Heap) (vs : List Value) (qs : List Fr2) : Prop := vs.length = qs.length ∧ ∀ (i : Nat) v, vs[i]? = some v → ∃ q, qs[i]? = some q ∧ FrAt h v q
theorem Frs.mono {h h' : Heap} {vs : List Value} {qs : List Fr2} (x : Frs h vs qs) (k : SeqMono h h') : Frs h' vs qs := ⟨x.1, fun i v e => let ⟨q, e', y⟩ := x.2 i v e; ⟨q, e', y.mono k⟩⟩

theorem frac_trans {n1 d1 n2 d2 n3 d3 : Int} (h1 : 0 < d1) (h2 : 0 < d2) (h3 : 0 < d3) (a : n1 * d2 ≤ n2 * d1) (b : n2 * d3 ≤ n3 * d2) : n1 * d3 ≤ n3 * d1 := by
  have e1 : n1 * d2 * d3 ≤ n2 * d1 * d3 := Int.mul_le_mul_of_nonneg_right a (by omega)
  have e2 : n2 * d3 * d1 ≤ n3 * d2 * d1 := Int.mul_le_mul_of_nonneg_right b (by omega)
  have e3 : d2 * (n1 * d3) ≤ d2 * (n3 * d1) := by
    have r1 : n1 * d2 * d3 = d2 * (n1 * d3) := by simp only [Int.mul_left_comm, Int.mul_comm]
    have r2 : n2 * d1 * d3 = n2 * d3 * d1 := by simp only [Int.mul_left_comm, Int.mul_comm]
    have r3 : n3 * d2 * d1 = d2 * (n3 * d1) := by simp only [Int.mul_left_comm, Int.mul_comm]
    rw [← r1, ← r3]; rw [r2] at e1; exact Int.le_trans e1 e2
  exact Int.le_of_mul_le_mul_left e3 h2

theorem sgn_neg {x : Int} : sgn x < 0 ↔ x < 0 := by unfold sgn; split <;> (try split) <;> omega
theorem sgn_pos {x : Int} : 0 < sgn x ↔ 0 < x := by unfold sgn; split <;> (try split) <;> omega

section
variable {prog : Program} {w : World} {A : Around} {E : Value → Shared → Prop} {s : Shared} {B : Heap} {L : Addr} {Mu : Mut} {X : Led} {m mg mb : Str → Option Value} {v : Value} {Q : Value → Shared → Prop}

set_option maxHeartbeats 2000000 in
theorem least_spec {l : Addr} {vs : List Value} {qs : List Fr2} (W : Wx B L Mu X s.heap m) (G : Gl mg mb B) (D : AOk 3 A) (hv : mg "least" = some v) (hl : SeqAt s.heap "list" l vs.toArray) {C : Heap} (hC : Sub C s.heap) (hq : Frs C vs qs) (hne : vs ≠ [])
    (hok : ∀ q ∈ qs, IntOk q.1 ∧ 0 < q.2)
    (h : ∀ r q h' tk, q ∈ qs → FrAt C r q → (∀ q' ∈ qs, q.1 * q'.2 ≤ q'.1 * q.2) → Wx B L Mu X h' m → Q r { s with heap := h', toks := tk }) : wpAny (model prog w) A (call v [.ref l]) Q E s := by
  have fn := G.least
  conv at fn => (arg 4; whnf)
  conv at fn => (arg 5; whnf)
  conv at fn => (arg 6; whnf)
  refine enterP fn W G D hv (by intros; rfl) (by decide) (by intro x hx; revert x; exact locs rfl) (by rfl) (by rfl) (by rfl) ?_
  intro a' cdv L' h₁ W₁ G₁ D₁
  dsimp only [List.map, List.zip, List.zipWith, List.length] at W₁ ⊢
  obtain ⟨f1, hf1, if1⟩ := G₁.compare.name'
  obtain ⟨v0, vr, rfl⟩ := List.exists_cons_of_ne_nil hne
  have hl1 : SeqAt h₁ "list" l (v0 :: vr).toArray := W₁.old hl
  repeat kbo_bools
  repeat kbo_bools
  refine wpAny_For ?_
  repeat kbo_bools
  rename_i h₂ W₂
  refine x_forList D₁ W₂ hl (fun i B' Mu' m' => ∃ r q, m' "found" = some r ∧ m' "some" = some (.ref l) ∧ FrAt C r q ∧ q ∈ qs ∧ ∀ j q', j < i → qs[j]? = some q' → q.1 * q'.2 ≤ q'.1 * q.2) (fun _ x => x) (by rfl) (by rfl) (by rfl) ?_ ?_ ?_
  · obtain ⟨q, e, y⟩ := hq.2 0 v0 rfl
    exact ⟨v0, q, rfl, rfl, y, List.mem_of_getElem? e, fun j q' hj => absurd hj (by omega)⟩
  · rintro i v B₁ Mu₁ m₁ h₃ tk hi hiv hS hM W₃ ⟨r, q, e1, e2, ⟨ra, t1, t2, rfl, hr⟩, hqm, hle⟩
    obtain ⟨q', eq', ⟨va, t3, t4, rfl, hva⟩⟩ := hq.2 i _ hiv
    have hq'm := List.mem_of_getElem? eq'
    have G₂ := G₁.keeps hS
    have hr3 := ((hr.keeps hC).keeps hS).keeps W₃.keep
    have hv3 := ((hva.keeps hC).keeps hS).keeps W₃.keep
    obtain ⟨f1', hf1', if1'⟩ := G₂.compare.name'
    repeat kbo_bools
    refine compare_spec W₃ G₂ D₁ hf1' hv3 hr3 (.inl (hok _ hq'm).1) (.inl (hok _ hqm).1) ?_
    intro r' h₄ tk₄ u hr' W₄
    repeat kbo_bools
    subst hr'
    refine x_if (fun hlt => ?_) (fun hlt => ?_)
    · have hlt' := sgn_neg.mp hlt
      repeat kbo_bools
      rename_i h₅ W₅
      refine ⟨rfl, h₅, _, B₁, Mu₁, _, rfl, fun _ _ e => e, hM, W₅, .ref va, q', rfl, by exact e2, ⟨va, t3, t4, rfl, hva⟩, hq'm, fun j q'' hj e => ?_⟩
      by_cases hji : j = i
      · subst hji
        rw [eq'] at e; cases e; exact Int.le_refl _
      · have h1 := hle j q'' (by omega) e
        exact frac_trans (hok _ hq'm).2 (hok _ hqm).2 (hok _ (List.mem_of_getElem? e)).2 (by omega) h1
    · have hge : ¬ (q'.1 * q.2 - q.1 * q'.2 < 0) := fun x => hlt (sgn_neg.mpr x)
      repeat kbo_bools
      refine ⟨rfl, h₄, _, B₁, Mu₁, _, rfl, fun _ _ e => e, hM, W₄, .ref ra, q, by exact e1, by exact e2, ⟨ra, t1, t2, rfl, hr⟩, hqm, fun j q'' hj e => ?_⟩
      by_cases hji : j = i
      · subst hji
        rw [eq'] at e; cases e; omega
      · exact hle j q'' (by omega) e
  · rintro B₁ Mu₁ m₁ h₃ tk hS hM W₃ ⟨r, q, e1, e2, hr, hqm, hle⟩
    repeat kbo_bools
    refine h r q _ _ hqm hr (fun q' hq' => ?_) (W.grow fun b o e => W₃.keep _ _ (hS _ _ e))
    obtain ⟨j, hj⟩ := List.getElem?_of_mem hq'
    have hjl := (List.getElem?_eq_some_iff.mp hj).1
    exact hle j q' (by have := hq.1; omega) hj

set_option maxHeartbeats 2000000 in
theorem greatest_spec {l : Addr} {vs : List Value} {qs : List Fr2} (W : Wx B L Mu X s.heap m) (G : Gl mg mb B) (D : AOk 3 A) (hv : mg "greatest" = some v) (hl : SeqAt s.heap "list" l vs.toArray) {C : Heap} (hC : Sub C s.heap) (hq : Frs C vs qs) (hne : vs ≠ [])
    (hok : ∀ q ∈ qs, IntOk q.1 ∧ 0 < q.2)
    (h : ∀ r q h' tk, q ∈ qs → FrAt C r q → (∀ q' ∈ qs, q'.1 * q.2 ≤ q.1 * q'.2) → Wx B L Mu X h' m → Q r { s with heap := h', toks := tk }) : wpAny (model prog w) A (call v [.ref l]) Q E s := by
  have fn := G.greatest
  conv at fn => (arg 4; whnf)
  conv at fn => (arg 5; whnf)
  conv at fn => (arg 6; whnf)
  refine enterP fn W G D hv (by intros; rfl) (by decide) (by intro x hx; revert x; exact locs rfl) (by rfl) (by rfl) (by rfl) ?_
  intro a' cdv L' h₁ W₁ G₁ D₁
  dsimp only [List.map, List.zip, List.zipWith, List.length] at W₁ ⊢
  obtain ⟨f1, hf1, if1⟩ := G₁.compare.name'
  obtain ⟨v0, vr, rfl⟩ := List.exists_cons_of_ne_nil hne
  have hl1 : SeqAt h₁ "list" l (v0 :: vr).toArray := W₁.old hl
  repeat kbo_bools
  repeat kbo_bools
  refine wpAny_For ?_
  repeat kbo_bools
  rename_i h₂ W₂
  refine x_forList D₁ W₂ hl (fun i B' Mu' m' => ∃ r q, m' "found" = some r ∧ m' "some" = some (.ref l) ∧ FrAt C r q ∧ q ∈ qs ∧ ∀ j q', j < i → qs[j]? = some q' → q'.1 * q.2 ≤ q.1 * q'.2) (fun _ x => x) (by rfl) (by rfl) (by rfl) ?_ ?_ ?_
  · obtain ⟨q, e, y⟩ := hq.2 0 v0 rfl
    exact ⟨v0, q, rfl, rfl, y, List.mem_of_getElem? e, fun j q' hj => absurd hj (by omega)⟩
  · rintro i v B₁ Mu₁ m₁ h₃ tk hi hiv hS hM W₃ ⟨r, q, e1, e2, ⟨ra, t1, t2, rfl, hr⟩, hqm, hle⟩
    obtain ⟨q', eq', ⟨va, t3, t4, rfl, hva⟩⟩ := hq.2 i _ hiv
    have hq'm := List.mem_of_getElem? eq'
    have G₂ := G₁.keeps hS
    have hr3 := ((hr.keeps hC).keeps hS).keeps W₃.keep
    have hv3 := ((hva.keeps hC).keeps hS).keeps W₃.keep
    obtain ⟨f1', hf1', if1'⟩ := G₂.compare.name'
    repeat kbo_bools
    refine compare_spec W₃ G₂ D₁ hf1' hv3 hr3 (.inl (hok _ hq'm).1) (.inl (hok _ hqm).1) ?_
    intro r' h₄ tk₄ u hr' W₄
    repeat kbo_bools
    subst hr'
    refine x_if (fun hlt => ?_) (fun hlt => ?_)
    · have hlt' := sgn_pos.mp hlt
      repeat kbo_bools
      rename_i h₅ W₅
      refine ⟨rfl, h₅, _, B₁, Mu₁, _, rfl, fun _ _ e => e, hM, W₅, .ref va, q', rfl, by exact e2, ⟨va, t3, t4, rfl, hva⟩, hq'm, fun j q'' hj e => ?_⟩
      by_cases hji : j = i
      · subst hji
        rw [eq'] at e; cases e; exact Int.le_refl _
      · have h1 := hle j q'' (by omega) e
        exact frac_trans (hok _ (List.mem_of_getElem? e)).2 (hok _ hqm).2 (hok _ hq'm).2 h1 (by omega)
    · have hge : ¬ (0 < q'.1 * q.2 - q.1 * q'.2) := fun x => hlt (sgn_pos.mpr x)
      repeat kbo_bools
      refine ⟨rfl, h₄, _, B₁, Mu₁, _, rfl, fun _ _ e => e, hM, W₄, .ref ra, q, by exact e1, by exact e2, ⟨ra, t1, t2, rfl, hr⟩, hqm, fun j q'' hj e => ?_⟩
      by_cases hji : j = i
      · subst hji
        rw [eq'] at e; cases e; omega
      · exact hle j q'' (by omega) e
  · rintro B₁ Mu₁ m₁ h₃ tk hS hM W₃ ⟨r, q, e1, e2, hr, hqm, hle⟩
    repeat kbo_bools
    refine h r q _ _ hqm hr (fun q' hq' => ?_) (W.grow fun b o e => W₃.keep _ _ (hS _ _ e))
    obtain ⟨j, hj⟩ := List.getElem?_of_mem hq'
    have hjl := (List.getElem?_eq_some_iff.mp hj).1
    exact hle j q' (by have := hq.1; omega) hj

end

section
variable {prog : Program} {w : World} {A : Around} {E : Value → Shared → Prop} {env : Env} {B : Heap} {L : Addr} {Mu : Mut} {X : Led} {m : Str → Option Value} {s₂ : Shared}

/-- what stands of old, but for some places -/
def Old (h : Heap) (l : List Addr) (B₁ : Heap) : Prop := ∀ b o, h.get? b = some o → b ∉ l → B₁.get? b = some o

theorem forIn_nil_true {env : Env} {Q : Bool → Shared → Prop} {s : Shared} (h : Q true s) :
    wpAny (model prog w) A (forIn ([] : List Expr) true fun c r => if r = true then do let ok ← isTrue c env (eval c env); pure (ForInStep.yield ok) else pure (ForInStep.yield r)) Q E s := by
  rw [List.forIn_nil]; exact wpAny_pure h

theorem comp_core {elt iter : Expr} {x : Str} {px : Pos} {scope : Scope} {cl : List (Str × Addr)} {pos : Pos} {I : Addr} {fp wr : List Addr} {n : Nat} {P : Nat → Value → Prop} {St : Nat → Heap → Prop}
    (K : Walks prog w A I fp wr n P St) (W : Wx B L Mu X s₂.heap m)
    (J : Nat → Heap → Mut → List Value → Prop) (hJ : ∀ {i B B' Mu ys}, SeqMono B B' → J i B Mu ys → J i B' Mu ys)
    (hfp : ∀ b ∈ fp, b < s₂.heap.objs.size ∧ b ∉ adr Mu) (hwr : ∀ b ∈ wr, B.get? b = none) (hwrF : ∀ i h, St i h → ∀ b ∈ wr, ∀ c items, ¬ SeqAt h c b items) (hst : St 0 s₂.heap)
    (hcell : ∀ y ∈ scope.names, y.2 ≠ .cell) (hkind : scope.kind = .function) (hx : scope.names.lookup x = some .local) (h0 : J 0 B Mu []) (hn : n ≤ 1000)
    (turn : ∀ i v B₁ C D Mu₁ ys (m₁ : Str → Option Value) h₁ tk, i < n → P i v → Sub B B₁ → Old s₂.heap (adr Mu ++ wr) B₁ → adr Mu₁ = adr Mu → Wx B₁ C (Mu₁ ++ [(D, ys.toArray)]) [] h₁ (fun y => if y = x then some v else m₁ y) → ys.length = i → J i B₁ Mu₁ ys →
      wpAny (model prog w) A (eval elt (compEnvC scope cl C env)) (fun y s' => ∃ h' tk' B₂ Mu₂ m₂, s' = { s₂ with heap := h', toks := tk' } ∧ Sub B₁ B₂ ∧ adr Mu₂ = adr Mu ∧ Wx B₂ C (Mu₂ ++ [(D, ys.toArray)]) [] h' m₂ ∧ J (i + 1) B₂ Mu₂ (ys ++ [y]))
        (fun _ _ => False) { s₂ with heap := h₁, toks := tk })
    {RR : Value → Addr → Result → Shared → Prop}
    (done : ∀ C D h' tk B₁ Mu₁ ys m', s₂.heap.get? D = none → s₂.heap.get? C = none → Sub B B₁ → Old s₂.heap (adr Mu ++ wr) B₁ → adr Mu₁ = adr Mu → Wx B₁ C (Mu₁ ++ [(D, ys.toArray)]) [] h' m' → ys.length = n → J n B₁ Mu₁ ys →
      RR (.ref D) C (.ok .next) { s₂ with heap := h', toks := tk }) :
    wpAny (model prog w) A (newList []) (fun acc s₃ => wpAny (model prog w) A (newFunctionEnv scope env.globals cl [] env.qual none .none (some env)) (fun cenv s₄ =>
      codeAny (model prog w) A (.compStart (.ListComp elt [⟨.Name x px, iter, [], 0⟩] scope pos) 0 (.ref I) acc { cenv with scope := relabel scope env }) (RR acc cenv.locals) s₄) E s₃) E s₂ := by
  refine wpAny_newObj_type (wpAny_newFunctionEnv hcell (by intro y hy; simp at hy) (fun h₁ hns₁ hsb₁ => ?_) hkind)
  dsimp only at hns₁ hsb₁ ⊢
  generalize hH2 : s₂.heap.push { cls := .type "list", dict := none, data := .seq ([] : List Value).toArray } = H2 at hns₁ hsb₁ ⊢
  have hC : H2.objs.size = s₂.heap.objs.size + 1 := by rw [← hH2, Heap.size_push]
  have hDC : s₂.heap.objs.size ≠ H2.objs.size := by rw [hC]; exact Nat.ne_of_lt (Nat.lt_succ_self _)
  have below : ∀ b, b < s₂.heap.objs.size → b ≠ H2.objs.size ∧ b ≠ s₂.heap.objs.size := fun b hb => ⟨by rw [hC]; exact Nat.ne_of_lt (Nat.lt_succ_of_lt hb), Nat.ne_of_lt hb⟩
  have hfD : s₂.heap.get? s₂.heap.objs.size = none := Heap.get?_none_of_le (Nat.le_refl _)
  have hfC : s₂.heap.get? H2.objs.size = none := Heap.get?_none_of_le (by rw [hC]; exact Nat.le_succ _)
  have old : ∀ b o, s₂.heap.get? b = some o → h₁.get? b = some o := fun b o e => hsb₁.extBut b o (below b (Heap.lt_size e)).1 (Heap.get?_push_of_some _ (hH2 ▸ Heap.get?_push_of_some _ e))
  have hacc : SeqAt h₁ "list" s₂.heap.objs.size ([] : List Value).toArray := ⟨_, hsb₁.extBut _ _ hDC (Heap.get?_push_of_some _ (hH2 ▸ Heap.get?_push_size _ rfl)), rfl, 0, rfl⟩
  have hDM : s₂.heap.objs.size ∉ adr Mu := fun q => by
    obtain ⟨p, hp, e⟩ := List.mem_map.mp q
    obtain ⟨o, ho⟩ := (W.mu p hp).1.get
    rw [e, hfD] at ho; cases ho
  have hDf : s₂.heap.objs.size ∉ fp := fun q => Nat.lt_irrefl _ (hfp _ q).1
  have hCf : H2.objs.size ∉ fp := fun q => by have := (hfp _ q).1; rw [hC] at this; exact Nat.lt_irrefl _ (Nat.lt_of_succ_lt this)
  have hBsub : Sub B (hideAll s₂.heap (adr Mu ++ wr)) := fun b o e => hideAll_get _ (W.keep _ _ e) fun q => by
    rcases List.mem_append.mp q with q | q
    · obtain ⟨p, hp, e'⟩ := List.mem_map.mp q
      rw [← e', (W.mu p hp).2] at e; cases e
    · rw [hwr b q] at e; cases e
  have W₁ : Wx (hideAll s₂.heap (adr Mu ++ wr)) H2.objs.size (Mu ++ [(s₂.heap.objs.size, ([] : List Value).toArray)]) [] h₁ (fun x => List.lookup x ([] : List (Str × Value)).reverse) := by
    refine ⟨hns₁, fun b o e => old _ _ (of_hideAll _ e), ?_, fun p hp => ?_, ?_, fun p hp => nomatch hp⟩
    · cases q : (hideAll s₂.heap (adr Mu ++ wr)).get? H2.objs.size with
      | none => rfl
      | some o => rw [of_hideAll _ q] at hfC; cases hfC
    · rcases List.mem_append.mp hp with hp | hp
      · exact ⟨(W.mu p hp).1.keeps old, hideAll_none _ (List.mem_append_left _ (List.mem_map_of_mem hp))⟩
      · simp only [List.mem_cons, List.not_mem_nil, or_false] at hp
        subst hp
        refine ⟨hacc, ?_⟩
        cases q : (hideAll s₂.heap (adr Mu ++ wr)).get? s₂.heap.objs.size with
        | none => rfl
        | some o => rw [of_hideAll _ q] at hfD; cases hfD
    · simp only [List.map_append, List.map_cons, List.map_nil, List.nodup_append]
      refine ⟨W.nd, by simp, fun a ha b hb e => hDM ?_⟩
      simp only [List.mem_cons, List.not_mem_nil, or_false] at hb
      rw [← hb, ← e]; exact ha
  have loop : ∀ s₃ : Shared, s₃ = { s₂ with heap := h₁, toks := s₂.toks + ([] : List (Str × Value)).length } →
      codeAny (model prog w) A (.compLoop (.ListComp elt [⟨.Name x px, iter, [], 0⟩] scope pos) 0 (.ref I) (.ref s₂.heap.objs.size) (compEnvC scope cl H2.objs.size env))
        (RR (.ref s₂.heap.objs.size) H2.objs.size) s₃ := by
    rintro s₃ rfl
    refine codeAny_compLoop_tests (fun k s' => ∃ h tk i B₁ Mu₁ ys m', s' = { s₂ with heap := h, toks := tk } ∧ k = n + 1 - i ∧ i ≤ n ∧ St i h ∧ Wx B₁ H2.objs.size (Mu₁ ++ [(s₂.heap.objs.size, List.toArray ys)]) [] h m' ∧
        Sub (hideAll s₂.heap (adr Mu ++ wr)) B₁ ∧ adr Mu₁ = adr Mu ∧ (∀ b ∈ wr, B₁.get? b = none) ∧ ys.length = i ∧ J i B₁ Mu₁ ys) ?_ (n + 1)
      ⟨h₁, _, 0, _, Mu, [], _, rfl, rfl, Nat.zero_le _, K.frame _ _ _ hst fun b _ o e => old b o e, W₁, fun _ _ e => e, rfl, fun b hb => hideAll_none _ (List.mem_append_right _ hb), rfl, hJ (SeqMono.of hBsub) h0⟩
    rintro k s' ⟨h, tk, i, B₁, Mu₁, ys, m', rfl, rfl, hi, hst', W', hB, hM, hw, hys, hJi⟩
    have hLw : H2.objs.size ∉ wr := fun q => hCf (K.sub _ q)
    have hMw : ∀ b ∈ adr (Mu₁ ++ [(s₂.heap.objs.size, List.toArray ys)]), b ∉ wr := fun b hb q => by
      simp only [adr, List.map_append, List.mem_append, List.map_cons, List.map_nil, List.mem_cons, List.not_mem_nil, or_false] at hb
      rcases hb with hb | hb
      · exact (hfp _ (K.sub _ q)).2 (hM ▸ hb)
      · exact hDf (hb ▸ K.sub _ q)
    by_cases hin : i < n
    · refine K.item i _ _ _ hin hst' fun v h₂ tk₂ hP hst₂ hk₂ => ?_
      have W₂ := W'.keepX hk₂ hLw hMw hw (fun p hp => nomatch hp)
      refine wpAny_assign_Name (wpAny_storeName_local (env := compEnvC scope cl H2.objs.size env) (lookup_relabel_local hx) W₂.ns (fun h₃ hn₃ hs₃ => ?_) (by simp [compEnvC, relabel, hkind]))
      have W₃ := W₂.set hn₃ hs₃
      obtain ⟨B₂, hBB, W₄, hin₂⟩ := W₃.rebase
      have hst₃ : St (i + 1) h₃ := K.frame _ _ _ hst₂ fun b hb o e => (hs₃.2 b (fun (q : b = H2.objs.size) => hCf (q ▸ hb))).trans e
      refine forIn_nil_true ?_
      rw [if_pos rfl]
      refine wpAny_mono (turn i v B₂ H2.objs.size s₂.heap.objs.size Mu₁ ys m' h₃ _ hin hP (fun b o e => hBB _ _ (hB _ _ (hBsub _ _ e))) (fun b o e q => hBB _ _ (hB _ _ (hideAll_get _ e q))) hM W₄ hys (hJ (SeqMono.of hBB) hJi)) (fun y s₃ hf => ?_) fun _ _ f => f.elim
      obtain ⟨h₄, tk₄, B₃, Mu₂, m₂, rfl, hS, hM₂, W₅, hJ₂⟩ := hf
      have hl : SeqAt h₄ "list" s₂.heap.objs.size (List.toArray ys) := (W₅.mu (s₂.heap.objs.size, List.toArray ys) (by simp)).1
      refine wpAny_list_append hl.isList (fun h₅ hl₅ hs₅ => ?_) (hsz := by rw [List.size_toArray, sizeLine_eq]; omega)
      have W₆ : Wx B₃ H2.objs.size (Mu₂ ++ [(s₂.heap.objs.size, List.toArray (ys ++ [y]))]) [] h₅ m₂ :=
        W₅.turnG (fun b o hb e => hs₅.extBut b o hb e) (by have : SeqAt h₅ "list" s₂.heap.objs.size ((List.toArray ys).push y) := hl₅; simpa using this)
      have hst₅ : St (i + 1) h₅ := K.frame _ _ _ hst₃ fun b hb o e => hs₅.extBut b o (fun q => hDf (q ▸ hb)) (W₅.keep _ _ (hS _ _ (hin₂ b o e (fun q => hCf (q ▸ hb)) (fun q => by
        simp only [List.map_append, List.mem_append, List.map_cons, List.map_nil, List.mem_cons, List.not_mem_nil, or_false] at q
        rcases q with q | q
        · exact (hfp b hb).2 (hM ▸ q)
        · exact hDf (q ▸ hb)))))
      have hBw : ∀ b ∈ wr, (hideAll s₂.heap (adr Mu ++ wr)).get? b = none := fun b hb => hideAll_none _ (List.mem_append_right _ hb)
      refine ⟨n + 1 - (i + 1), by omega, h₅, tk₄, i + 1, hideAll B₃ wr, Mu₂, ys ++ [y], m₂, rfl, rfl, hin, hst₅, W₆.less (fun b o e => of_hideAll _ e), fun b o e => ?_, hM₂, fun b hb => hideAll_none _ hb, by simp [hys], hJ (fun c a items x => ?_) hJ₂⟩
      · refine hideAll_get _ (hS _ _ (hBB _ _ (hB _ _ e))) fun q => ?_
        rw [hBw b q] at e; cases e
      · obtain ⟨o, ho, r⟩ := x
        exact ⟨o, hideAll_get _ ho fun q => hwrF _ _ hst₅ a q c items ⟨o, W₆.keep _ _ ho, r⟩, r⟩
    · have hin' : i = n := by omega
      subst hin'
      refine K.done _ _ _ hst' fun h₂ tk₂ hk₂ => ?_
      exact done H2.objs.size s₂.heap.objs.size h₂ tk₂ B₁ Mu₁ ys m' hfD hfC (fun b o e => hB _ _ (hBsub _ _ e)) (fun b o e q => hB _ _ (hideAll_get _ e q)) hM (W'.keepX hk₂ hLw hMw hw (fun p hp => nomatch hp)) hys hJi
  exact codeAny_compStart_list (loop _ rfl) (K.self 0 _ _ _ (K.frame _ _ _ hst fun b _ o e => old b o e) (loop _ rfl))
end

section
variable {prog : Program} {w : World} {A : Around} {E : Value → Shared → Prop} {env : Env} {B : Heap} {L : Addr} {Mu : Mut} {X : Led} {m : Str → Option Value} {s : Shared}

theorem x_iter {nn : Nat} {l : Addr} {vs : List Value} {c : String} {Q : Value → Shared → Prop} (D : AOk nn A) (hc : c = "list" ∨ c = "tuple") (hv : SeqAt s.heap c l vs.toArray)
    (h : ∀ I St h₂, Walks prog w A I [I, l] [I] vs.length (fun i v => vs[i]? = some v) St → Sub s.heap h₂ → s.heap.get? I = none → I < h₂.objs.size → l < h₂.objs.size → (∀ i h, St i h → ∀ c items, ¬ SeqAt h c I items) → St 0 h₂ →
      Q (.ref I) { s with heap := h₂ }) : wpAny (model prog w) A (pyIter (.ref l)) Q E s := by
  have hI : s.heap.get? s.heap.objs.size = none := Heap.get?_none_of_le (Nat.le_refl _)
  have hlI : l ≠ s.heap.objs.size := fun e => by
    obtain ⟨o, ho⟩ := hv.get
    rw [e, hI] at ho; cases ho
  have hll : l < s.heap.objs.size := by obtain ⟨o, ho⟩ := hv.get; exact Heap.lt_size ho
  rcases hc with rfl | rfl
  · refine wpAny_pyIter_list hv.isList ?_
    refine h s.heap.objs.size (fun i h => h.IsListIter s.heap.objs.size l i ∧ h.IsList l vs.toArray) _ ?_ (fun _ _ e => Heap.get?_push_of_some _ e) hI (by rw [Heap.size_push]; exact Nat.lt_succ_self _) (by rw [Heap.size_push]; exact Nat.lt_succ_of_lt hll) ?_ ?_
    · have := Walks.list (prog := prog) (w := w) D.1 s.heap.objs.size l hlI vs.toArray
      simpa using this
    · rintro i h ⟨⟨o, ho, _, hd⟩, _⟩ c items ⟨o', ho', _, k, hd'⟩
      rw [ho] at ho'; cases ho'; rw [hd] at hd'; cases hd'
    · exact ⟨⟨_, Heap.get?_push_size _ rfl, rfl, rfl⟩, (hv.keeps fun _ _ e => Heap.get?_push_of_some _ e).isList⟩
  · refine wpAny_pyIter_tuple hv.isTuple ?_
    refine h s.heap.objs.size (fun i h => h.IsTupleIter s.heap.objs.size l i ∧ h.IsTuple l vs.toArray) _ ?_ (fun _ _ e => Heap.get?_push_of_some _ e) hI (by rw [Heap.size_push]; exact Nat.lt_succ_self _) (by rw [Heap.size_push]; exact Nat.lt_succ_of_lt hll) ?_ ?_
    · have := Walks.tuple (prog := prog) (w := w) D.1 s.heap.objs.size l hlI vs.toArray
      simpa using this
    · rintro i h ⟨⟨o, ho, _, hd⟩, _⟩ c items ⟨o', ho', _, k, hd'⟩
      rw [ho] at ho'; cases ho'; rw [hd] at hd'; cases hd'
    · exact ⟨⟨_, Heap.get?_push_size _ rfl, rfl, rfl⟩, (hv.keeps fun _ _ e => Heap.get?_push_of_some _ e).isTuple⟩

def CB (prog : Program) (w : World) (A : Around) (E : Value → Shared → Prop) (elt iter : Expr) (x : Str) (px : Pos) (scope : Scope) (cl : List (Str × Addr)) (pos : Pos) (env : Env) (RR : Value → Addr → Result → Shared → Prop) (it : Value) (s₂ : Shared) : Prop :=
  wpAny (model prog w) A (newList []) (fun acc s₃ => wpAny (model prog w) A (newFunctionEnv scope env.globals cl [] env.qual none .none (some env)) (fun cenv s₄ =>
    codeAny (model prog w) A (.compStart (.ListComp elt [⟨.Name x px, iter, [], 0⟩] scope pos) 0 it acc { cenv with scope := relabel scope env }) (RR acc cenv.locals) s₄) E s₃) E s₂

theorem x_compE {elt iter : Expr} {x : Str} {px : Pos} {scope : Scope} {cl : List (Str × Addr)} {pos : Pos} {Q : Value → Shared → Prop}
    (hclos : closureFor scope env = pure cl) (hkind : scope.kind = .function) (hnames : ∀ y ∈ scope.names, y.2 = .local → scope.names.lookup y.1 = some .local) (hs : ∀ x, foldedSetIterable iter env x = pure x)
    (h : wpAny (model prog w) A (eval iter env) (fun xv s₁ => wpAny (model prog w) A (pyIter xv) (fun it s₂ => CB prog w A E elt iter x px scope cl pos env (fun acc C => compPost (model prog w) A E none Q acc C) it s₂) E s₁) E s) :
    wpAny (model prog w) A (eval (.ListComp elt [⟨.Name x px, iter, [], 0⟩] scope pos) env) Q E s := by
  rw [eval_ListComp]
  exact wpAny_comprehension_free (use := none) rfl hs hclos hkind hnames h

theorem x_compA {elt iter : Expr} {x y : Str} {px py : Pos} {scope : Scope} {cl : List (Str × Addr)} {pos spos : Pos} {Q : Flow → Shared → Prop}
    (hsw : swapsWith (.ListComp elt [⟨.Name x px, iter, [], 0⟩] scope pos) (some (.Name y py)) spos.line env = pure true)
    (hclos : closureFor scope env = pure cl) (hkind : scope.kind = .function) (hnames : ∀ y ∈ scope.names, y.2 = .local → scope.names.lookup y.1 = some .local) (hs : ∀ x, foldedSetIterable iter env x = pure x)
    (h : wpAny (model prog w) A (eval iter env) (fun xv s₁ => wpAny (model prog w) A (pyIter xv) (fun it s₂ => CB prog w A E elt iter x px scope cl pos env (fun acc C => compPost (model prog w) A E (some (assign (.Name y py) env)) (fun _ s' => Q .next s') acc C) it s₂) E s₁) E s) :
    wpAny (model prog w) A (exec (.Assign [.Name y py] (.ListComp elt [⟨.Name x px, iter, [], 0⟩] scope pos) spos) env) Q E s := by
  rw [exec_Assign_Name_used _ _ _ _ hsw]
  refine wpAny_bind (wpAny_standAt (wpAny_bind ?_))
  show wpAny _ A (do let _ ← comprehension (.ListComp elt [⟨.Name x px, iter, [], 0⟩] scope pos) scope env _ (newList []) false (eval iter env) (some (assign (.Name y py) env))) _ _ s
  refine wpAny_bind (wpAny_mono (wpAny_comprehension_free (use := some (assign (.Name y py) env)) (Q := fun _ s' => Q .next s') rfl hs hclos hkind hnames h) (fun _ s' hq => ?_) fun _ _ e => e)
  exact wpAny_pure (wpAny_pure hq)

/-- the outer frame behind a comprehension -/
theorem comp_after {h h' : Heap} {l : List Addr} {C D : Addr} {Mu₁ : Mut} {ys : Array Value} {B₁ : Heap} {m' : Str → Option Value} (W : Wx B L Mu X h m) (hB : Sub B B₁) (hO : Old h (adr Mu ++ l) B₁) (hM : adr Mu₁ = adr Mu)
    (hl : ∀ b ∈ l, h.get? b = none) (hD : h.get? D = none) (hC : h.get? C = none) (W₁ : Wx B₁ C (Mu₁ ++ [(D, ys)]) [] h' m') :
    ∃ B₂, Sub B B₂ ∧ Wx B₂ L Mu₁ [] h' m ∧ Old h (L :: adr Mu) B₂ ∧ SeqMono B₁ B₂ ∧ SeqAt B₂ "list" D ys ∧ B₂.get? C = none := by
  have hns : h'.Ns L m := by
    obtain ⟨o, es, ep, ho, r⟩ := W.ns
    refine ⟨o, es, ep, W₁.keep _ _ (hO _ _ ho fun q => ?_), r⟩
    rcases List.mem_append.mp q with q | q
    · exact W.muL q
    · rw [hl _ q] at ho; cases ho
  have hMu : ∀ p ∈ Mu₁, SeqAt h' "list" p.1 p.2 := fun p hp => (W₁.mu p (List.mem_append_left _ hp)).1
  have hDs : SeqAt h' "list" D ys := (W₁.mu (D, ys) (by simp)).1
  have hCn : h'.Ns C m' := W₁.ns
  have hCL : C ≠ L := fun e => by
    obtain ⟨o, es, ep, ho, r⟩ := W.ns
    rw [e, ho] at hC; cases hC
  have nd := W₁.nd
  simp only [List.map_append, List.map_cons, List.map_nil, List.nodup_append] at nd
  have hDM : D ∉ adr Mu₁ := fun q => nd.2.2 _ q _ (by simp) rfl
  refine ⟨hideAll h' (C :: L :: adr Mu₁), fun b o e => ?_, ⟨hns, fun b o e => of_hideAll _ e, hideAll_none _ (by simp), fun p hp => ⟨hMu p hp, hideAll_none _ ?_⟩, nd.1, fun p hp => nomatch hp⟩, fun b o e q => ?_, fun c a items x => ?_, ?_, hideAll_none _ (by simp)⟩
  · refine hideAll_get _ (W₁.keep _ _ (hB _ _ e)) fun q => ?_
    simp only [List.mem_cons] at q
    rcases q with rfl | rfl | q
    · rw [W.keep _ _ e] at hC; cases hC
    · rw [W.nL] at e; cases e
    · rw [hM] at q
      obtain ⟨p, hp, rfl⟩ := List.mem_map.mp q
      rw [(W.mu p hp).2] at e; cases e
  · exact List.mem_cons_of_mem _ (List.mem_cons_of_mem _ (List.mem_map_of_mem hp))
  · simp only [List.mem_cons, not_or] at q
    refine hideAll_get _ (W₁.keep _ _ (hO _ _ e fun q' => ?_)) fun q' => ?_
    · rcases List.mem_append.mp q' with q' | q'
      · exact q.2 q'
      · rw [hl _ q'] at e; cases e
    · simp only [List.mem_cons] at q'
      rcases q' with rfl | rfl | q'
      · rw [e] at hC; cases hC
      · exact q.1 rfl
      · rw [hM] at q'; exact q.2 q'
  · obtain ⟨o, ho, r⟩ := x
    refine ⟨o, hideAll_get _ (W₁.keep _ _ ho) fun q => ?_, r⟩
    simp only [List.mem_cons] at q
    rcases q with rfl | rfl | q
    · rw [W₁.nL] at ho; cases ho
    · exact ns_ne hns ⟨o, W₁.keep _ _ ho, r⟩ rfl
    · obtain ⟨p, hp, e⟩ := List.mem_map.mp q
      have := (W₁.mu p (List.mem_append_left _ hp)).2
      rw [e, ho] at this; cases this
  · obtain ⟨o, ho, r⟩ := hDs
    refine ⟨o, hideAll_get _ ho fun q => ?_, r⟩
    simp only [List.mem_cons] at q
    rcases q with rfl | rfl | q
    · exact ns_ne hCn ⟨o, ho, r⟩ rfl
    · exact ns_ne hns ⟨o, ho, r⟩ rfl
    · exact hDM q
end

section
variable {prog : Program} {w : World} {A : Around} {E : Value → Shared → Prop} {env : Env} {B : Heap} {L : Addr} {Mu : Mut} {X : Led} {m : Str → Option Value} {s : Shared}

theorem x_CB {nn : Nat} {elt iter : Expr} {x : Str} {px : Pos} {scope : Scope} {cl : List (Str × Addr)} {pos : Pos} {l : Addr} {vs : List Value} {c : String} {RR : Value → Addr → Result → Shared → Prop}
    (D : AOk nn A) (W : Wx B L Mu X s.heap m) (hc : c = "list" ∨ c = "tuple") (hv : SeqAt s.heap c l vs.toArray) (hlM : l ∉ adr Mu)
    (J : Nat → Heap → Mut → List Value → Prop) (hJ : ∀ {i B B' Mu ys}, SeqMono B B' → J i B Mu ys → J i B' Mu ys)
    (hcell : ∀ y ∈ scope.names, y.2 ≠ .cell) (hkind : scope.kind = .function) (hx : scope.names.lookup x = some .local) (h0 : J 0 B Mu []) (hn : vs.length ≤ 1000)
    (turn : ∀ i v B₁ C D Mu₁ ys (m₁ : Str → Option Value) h₁ tk, vs[i]? = some v → Sub B B₁ → Old s.heap (adr Mu) B₁ → adr Mu₁ = adr Mu → Wx B₁ C (Mu₁ ++ [(D, ys.toArray)]) [] h₁ (fun y => if y = x then some v else m₁ y) → ys.length = i → J i B₁ Mu₁ ys →
      wpAny (model prog w) A (eval elt (compEnvC scope cl C env)) (fun y s' => ∃ h' tk' B₂ Mu₂ m₂, s' = { s with heap := h', toks := tk' } ∧ Sub B₁ B₂ ∧ adr Mu₂ = adr Mu ∧ Wx B₂ C (Mu₂ ++ [(D, ys.toArray)]) [] h' m₂ ∧ J (i + 1) B₂ Mu₂ (ys ++ [y]))
        (fun _ _ => False) { s with heap := h₁, toks := tk })
    (fin : ∀ C D h' tk B₂ Mu₁ ys m', Sub B B₂ → Old s.heap (L :: adr Mu) B₂ → adr Mu₁ = adr Mu → Wx B₂ L Mu₁ [] h' m → SeqAt B₂ "list" D ys.toArray → ys.length = vs.length → J vs.length B₂ Mu₁ ys → s.heap.get? D = none → h'.Ns C m' → C ≠ L → C ∉ adr Mu → B₂.get? C = none →
      RR (.ref D) C (.ok .next) { s with heap := h', toks := tk }) :
    wpAny (model prog w) A (pyIter (.ref l)) (fun it s₂ => CB prog w A E elt iter x px scope cl pos env RR it s₂) E s := by
  refine x_iter D hc hv fun I St h₂ K hS hI hI2 hl2 hwrF hst => ?_
  have hIM : I ∉ adr Mu := fun q => by
    obtain ⟨p, hp, e⟩ := List.mem_map.mp q
    obtain ⟨o, ho⟩ := (W.mu p hp).1.get
    rw [e, hI] at ho; cases ho
  refine comp_core (s₂ := { s with heap := h₂ }) K (W.grow hS) J hJ (fun b hb => ?_) (fun b hb => ?_) (fun i h hi b hb => ?_) hst hcell hkind hx h0 hn ?_ ?_
  · simp only [List.mem_cons, List.not_mem_nil, or_false] at hb
    rcases hb with rfl | rfl
    · exact ⟨hI2, hIM⟩
    · exact ⟨hl2, hlM⟩
  · simp only [List.mem_cons, List.not_mem_nil, or_false] at hb
    rw [hb]; exact none_mono W.keep hI
  · simp only [List.mem_cons, List.not_mem_nil, or_false] at hb
    rw [hb]; exact hwrF i h hi
  · intro i v B₁ C D Mu₁ ys m₁ h₁ tk hi hP hB hO hM W₁ hys hJ₁
    refine turn i v B₁ C D Mu₁ ys m₁ h₁ tk hP hB (fun b o e q => hO b o (hS _ _ e) fun q' => ?_) hM W₁ hys hJ₁
    rcases List.mem_append.mp q' with q' | q'
    · exact q q'
    · simp only [List.mem_cons, List.not_mem_nil, or_false] at q'
      rw [q', hI] at e; cases e
  · intro C D h' tk B₁ Mu₁ ys m' hD hC hB hO hM W₁ hys hJ₁
    have hO' : Old s.heap (adr Mu ++ []) B₁ := fun b o e q => hO b o (hS _ _ e) fun q' => by
      rcases List.mem_append.mp q' with q' | q'
      · exact q (List.mem_append_left _ q')
      · simp only [List.mem_cons, List.not_mem_nil, or_false] at q'
        rw [q', hI] at e; cases e
    have hD' := none_mono hS hD
    have hC' := none_mono hS hC
    obtain ⟨B₂, hB2, W₂, hO2, hS2, hD2, hC2⟩ := comp_after W hB hO' hM (fun b hb => nomatch hb) hD' hC' W₁
    refine fin C D h' tk B₂ Mu₁ ys m' hB2 hO2 hM W₂ hD2 hys (hJ hS2 hJ₁) hD' W₁.ns (fun e => ?_) (fun q => ?_) hC2
    · obtain ⟨o, es, ep, ho, r⟩ := W.ns
      rw [e, ho] at hC'; cases hC'
    · obtain ⟨p, hp, e⟩ := List.mem_map.mp q
      obtain ⟨o, ho⟩ := (W.mu p hp).1.get
      rw [e, hC'] at ho; cases ho

/-- the value of a comprehension -/
theorem x_CBE {nn : Nat} {elt iter : Expr} {x : Str} {px : Pos} {scope : Scope} {cl : List (Str × Addr)} {pos : Pos} {l : Addr} {vs : List Value} {c : String} {Q : Value → Shared → Prop}
    (D : AOk nn A) (W : Wx B L Mu X s.heap m) (hc : c = "list" ∨ c = "tuple") (hv : SeqAt s.heap c l vs.toArray) (hlM : l ∉ adr Mu)
    (J : Nat → Heap → Mut → List Value → Prop) (hJ : ∀ {i B B' Mu ys}, SeqMono B B' → J i B Mu ys → J i B' Mu ys)
    (hcell : ∀ y ∈ scope.names, y.2 ≠ .cell) (hkind : scope.kind = .function) (hx : scope.names.lookup x = some .local) (h0 : J 0 B Mu []) (hn : vs.length ≤ 1000)
    (turn : ∀ i v B₁ C D Mu₁ ys (m₁ : Str → Option Value) h₁ tk, vs[i]? = some v → Sub B B₁ → Old s.heap (adr Mu) B₁ → adr Mu₁ = adr Mu → Wx B₁ C (Mu₁ ++ [(D, ys.toArray)]) [] h₁ (fun y => if y = x then some v else m₁ y) → ys.length = i → J i B₁ Mu₁ ys →
      wpAny (model prog w) A (eval elt (compEnvC scope cl C env)) (fun y s' => ∃ h' tk' B₂ Mu₂ m₂, s' = { s with heap := h', toks := tk' } ∧ Sub B₁ B₂ ∧ adr Mu₂ = adr Mu ∧ Wx B₂ C (Mu₂ ++ [(D, ys.toArray)]) [] h' m₂ ∧ J (i + 1) B₂ Mu₂ (ys ++ [y]))
        (fun _ _ => False) { s with heap := h₁, toks := tk })
    (fin : ∀ D h' tk B₂ Mu₁ ys, Sub B B₂ → Old s.heap (L :: adr Mu) B₂ → adr Mu₁ = adr Mu → Wx B₂ L Mu₁ [] h' m → SeqAt B₂ "list" D ys.toArray → ys.length = vs.length → J vs.length B₂ Mu₁ ys → s.heap.get? D = none → Q (.ref D) { s with heap := h', toks := tk }) :
    wpAny (model prog w) A (pyIter (.ref l)) (fun it s₂ => CB prog w A E elt iter x px scope cl pos env (fun acc C => compPost (model prog w) A E none Q acc C) it s₂) E s := by
  refine x_CB D W hc hv hlM J hJ hcell hkind hx h0 hn turn ?_
  intro C D h' tk B₂ Mu₁ ys m' hB hO hM W₂ hD hys hJ₂ hDn hC hCL hCM hC2
  refine ⟨m', hC, fun h'' hs => ?_⟩
  exact fin D h'' tk B₂ Mu₁ ys hB hO hM (W₂.keepX (l := [C]) (fun b o hb e => hs.extBut b o (by simpa using hb) e) (by simpa using Ne.symm hCL) (fun b hb q => hCM (by simp only [List.mem_cons, List.not_mem_nil, or_false] at q; rw [← q, ← hM]; exact hb))
    (fun b hb => by simp only [List.mem_cons, List.not_mem_nil, or_false] at hb; rw [hb]; exact hC2) (fun p hp => nomatch hp)) hD hys hJ₂ hDn

/-- a comprehension that is stored under a name -/
theorem x_CBA {nn : Nat} {elt iter : Expr} {x y : Str} {px py : Pos} {scope : Scope} {cl : List (Str × Addr)} {pos : Pos} {l : Addr} {vs : List Value} {c : String} {Q : Shared → Prop}
    (D : AOk nn A) (W : Wx B L Mu X s.heap m) (hL : env.locals = L) (hke : env.scope.kind = .function) (hy : env.kindOf y = some .local) (hc : c = "list" ∨ c = "tuple") (hv : SeqAt s.heap c l vs.toArray) (hlM : l ∉ adr Mu)
    (J : Nat → Heap → Mut → List Value → Prop) (hJ : ∀ {i B B' Mu ys}, SeqMono B B' → J i B Mu ys → J i B' Mu ys)
    (hcell : ∀ y ∈ scope.names, y.2 ≠ .cell) (hkind : scope.kind = .function) (hx : scope.names.lookup x = some .local) (h0 : J 0 B Mu []) (hn : vs.length ≤ 1000)
    (turn : ∀ i v B₁ C D Mu₁ ys (m₁ : Str → Option Value) h₁ tk, vs[i]? = some v → Sub B B₁ → Old s.heap (adr Mu) B₁ → adr Mu₁ = adr Mu → Wx B₁ C (Mu₁ ++ [(D, ys.toArray)]) [] h₁ (fun y => if y = x then some v else m₁ y) → ys.length = i → J i B₁ Mu₁ ys →
      wpAny (model prog w) A (eval elt (compEnvC scope cl C env)) (fun y s' => ∃ h' tk' B₂ Mu₂ m₂, s' = { s with heap := h', toks := tk' } ∧ Sub B₁ B₂ ∧ adr Mu₂ = adr Mu ∧ Wx B₂ C (Mu₂ ++ [(D, ys.toArray)]) [] h' m₂ ∧ J (i + 1) B₂ Mu₂ (ys ++ [y]))
        (fun _ _ => False) { s with heap := h₁, toks := tk })
    (fin : ∀ D h' tk B₂ Mu₁ ys, Sub B B₂ → Old s.heap (L :: adr Mu) B₂ → adr Mu₁ = adr Mu → Wx B₂ L Mu₁ [] h' (fun z => if z = y then some (.ref D) else m z) → SeqAt B₂ "list" D ys.toArray → ys.length = vs.length → J vs.length B₂ Mu₁ ys → s.heap.get? D = none → Q { s with heap := h', toks := tk }) :
    wpAny (model prog w) A (pyIter (.ref l)) (fun it s₂ => CB prog w A E elt iter x px scope cl pos env (fun acc C => compPost (model prog w) A E (some (assign (.Name y py) env)) (fun _ s' => Q s') acc C) it s₂) E s := by
  refine x_CB D W hc hv hlM J hJ hcell hkind hx h0 hn turn ?_
  intro C D h' tk B₂ Mu₁ ys m' hB hO hM W₂ hD hys hJ₂ hDn hC hCL hCM hC2
  show wpAny _ A (assign (.Name y py) env (.ref D)) _ _ _
  refine wpAny_assign_Name (wpAny_storeName_local hy (hL ▸ W₂.ns) (fun h₃ hn₃ hs₃ => ?_) (by rw [hke]; rfl))
  rw [hL] at hn₃ hs₃
  have W₃ := W₂.set hn₃ hs₃
  refine ⟨m', hC.sameBut hs₃ hCL, fun h'' hs => ?_⟩
  exact fin D h'' _ B₂ Mu₁ ys hB hO hM (W₃.keepX (l := [C]) (fun b o hb e => hs.extBut b o (by simpa using hb) e) (by simpa using Ne.symm hCL) (fun b hb q => hCM (by simp only [List.mem_cons, List.not_mem_nil, or_false] at q; rw [← q, ← hM]; exact hb))
    (fun b hb => by simp only [List.mem_cons, List.not_mem_nil, or_false] at hb; rw [hb]; exact hC2) (fun p hp => nomatch hp)) hD hys hJ₂ hDn
end
local macro_rules | `(tactic| keq_rows) => `(tactic| ((with_reducible refine' x_compE ?hclos ?hkind ?hnames ?hs ?h); (case hclos => with_unfolding_all rfl); (case hkind => rfl); (case hnames => decide); (case hs => (intro _; rfl))))
local macro_rules | `(tactic| keq_hits) => `(tactic| ((with_reducible refine' x_compA ?hsw ?hclos ?hkind ?hnames ?hs ?h); (case hsw => with_unfolding_all rfl); (case hclos => with_unfolding_all rfl); (case hkind => rfl); (case hnames => decide); (case hs => (intro _; rfl))))

abbrev Pt2 := Fr2 × Fr2
def PtAt (h : Heap) (v : Value) (p : Pt2) : Prop := ∃ a fx fy, v = .ref a ∧ SeqAt h "tuple" a #[fx, fy] ∧ FrAt h fx p.1 ∧ FrAt h fy p.2
theorem PtAt.mono {h h' : Heap} {v : Value} {p : Pt2} (x : PtAt h v p) (k : SeqMono h h') : PtAt h' v p := let ⟨a, fx, fy, e, x, y, z⟩ := x; ⟨a, fx, fy, e, k _ _ _ x, y.mono k, z.mono k⟩
def Pts (h : Heap) (vs : List Value) (ps : List Pt2) : Prop := vs.length = ps.length ∧ ∀ (i : Nat) v, vs[i]? = some v → ∃ p, ps[i]? = some p ∧ PtAt h v p
theorem Pts.mono {h h' : Heap} {vs : List Value} {qs : List Pt2} (x : Pts h vs qs) (k : SeqMono h h') : Pts h' vs qs := ⟨x.1, fun i v e => let ⟨q, e', y⟩ := x.2 i v e; ⟨q, e', y.mono k⟩⟩

section
variable {prog : Program} {w : World} {A : Around} {E : Value → Shared → Prop} {s : Shared} {B : Heap} {L : Addr} {Mu : Mut} {X : Led} {m mg mb : Str → Option Value} {v : Value} {Q : Value → Shared → Prop}

set_option maxHeartbeats 4000000 in
theorem point_box_spec {l : Addr} {vs : List Value} {ps : List Pt2} (W : Wx B L Mu X s.heap m) (G : Gl mg mb B) (D : AOk 4 A) (hv : mg "point_box" = some v) (hl : SeqAt s.heap "list" l vs.toArray) {C : Heap} (hC : Sub C s.heap) (hq : Pts C vs ps) (hne : vs ≠ []) (hlen : vs.length ≤ 1000)
    (hok : ∀ p ∈ ps, IntOk p.1.1 ∧ 0 < p.1.2 ∧ IntOk p.2.1 ∧ 0 < p.2.2)
    (h : ∀ r r1 r2 r3 r4 q1 q2 q3 q4 h' tk, FrAt C r1 q1 → FrAt C r2 q2 → FrAt C r3 q3 → FrAt C r4 q4 →
      (∃ p ∈ ps, p.1 = q1) → (∃ p ∈ ps, p.2 = q2) → (∃ p ∈ ps, p.1 = q3) → (∃ p ∈ ps, p.2 = q4) →
      (∀ p ∈ ps, q1.1 * p.1.2 ≤ p.1.1 * q1.2) → (∀ p ∈ ps, q2.1 * p.2.2 ≤ p.2.1 * q2.2) → (∀ p ∈ ps, p.1.1 * q3.2 ≤ q3.1 * p.1.2) → (∀ p ∈ ps, p.2.1 * q4.2 ≤ q4.1 * p.2.2) →
      Wx B L Mu ((r, "tuple", #[r1, r2, r3, r4]) :: X) h' m → Q (.ref r) { s with heap := h', toks := tk }) : wpAny (model prog w) A (call v [.ref l]) Q E s := by
  have fn := G.point_box
  conv at fn => (arg 4; whnf)
  conv at fn => (arg 5; whnf)
  conv at fn => (arg 6; whnf)
  refine enterP fn W G D hv (by intros; rfl) (by decide) (by intro x hx; revert x; exact locs rfl) (by rfl) (by rfl) (by rfl) ?_
  intro a' cdv L' h₁ W₁ G₁ D₁
  dsimp only [List.map, List.zip, List.zipWith, List.length] at W₁ ⊢
  repeat kbo_bools
  keq_rows
  repeat kbo_bools
  refine x_CBE D₁ W₁ (.inl rfl) (W₁.old hl) (by simp) (fun i _ _ ys => ∀ (j : Nat) y, ys[j]? = some y → ∃ p, ps[j]? = some p ∧ FrAt C y p.1) (fun _ x => x) (by decide) (by rfl) (by rfl) (by intro j y e; simp at e) hlen ?_ ?_
  · intro i v B₁ Cf D' Mu₁ ys m₁ h₂ tk hi hB hO hM W₂ hys hJ
    obtain ⟨p, hp, ⟨a, fx, fy, rfl, ha, hfx, hfy⟩⟩ := hq.2 i v hi
    have ha2 := ((ha.keeps hC).keeps hB).keeps W₂.keep
    repeat kbo_bools
    refine ⟨_, _, B₁, Mu₁, _, rfl, fun _ _ e => e, hM, W₂, fun j y e => ?_⟩
    by_cases hji : j < ys.length
    · rw [List.getElem?_append_left hji] at e; exact hJ j y e
    · rw [List.getElem?_append_right (by omega)] at e
      have hj0 : j = ys.length := by
        have := (List.getElem?_eq_some_iff.mp e).1
        simp at this; omega
      subst hj0
      simp at e; subst e
      exact ⟨p, hys ▸ hp, hfx⟩
  intro D1 h₂ tk B₂ Mu₁ ys1 hB2 hO2 hM2 W₂ hD1 hys1 hJ1 hDn1
  have hMu : Mu₁ = [] := by simpa using hM2
  subst hMu
  repeat kbo_bools
  keq_rows
  repeat kbo_bools
  have G₂ := G₁.keeps hB2
  have hl2 := hl.keeps hB2
  refine x_CBE D₁ W₂ (.inl rfl) (W₂.old hl2) (by simp) (fun i _ _ ys => ∀ (j : Nat) y, ys[j]? = some y → ∃ p, ps[j]? = some p ∧ FrAt C y p.2) (fun _ x => x) (by decide) (by rfl) (by rfl) (by intro j y e; simp at e) hlen ?_ ?_
  · intro i v B₁ Cf D' Mu₁ ys m₁ h₃ tk hi hB hO hM W₃ hys hJ
    obtain ⟨p, hp, ⟨a, fx, fy, rfl, ha, hfx, hfy⟩⟩ := hq.2 i v hi
    have ha2 := (((ha.keeps hC).keeps hB2).keeps hB).keeps W₃.keep
    repeat kbo_bools
    refine ⟨_, _, B₁, Mu₁, _, rfl, fun _ _ e => e, hM, W₃, fun j y e => ?_⟩
    by_cases hji : j < ys.length
    · rw [List.getElem?_append_left hji] at e; exact hJ j y e
    · rw [List.getElem?_append_right (by omega)] at e
      have hj0 : j = ys.length := by
        have := (List.getElem?_eq_some_iff.mp e).1
        simp at this; omega
      subst hj0
      simp at e; subst e
      exact ⟨p, hys ▸ hp, hfy⟩
  intro D2 h₃ tk₃ B₃ Mu₃ ys2 hB3 hO3 hM3 W₃ hD2 hys2 hJ2 hDn2
  have hMu : Mu₃ = [] := by simpa using hM3
  subst hMu
  have G₃ := G₂.keeps hB3
  have hD1' := hD1.keeps hB3
  have hS : Sub s.heap B₃ := fun b o e => hB3 _ _ (hB2 _ _ e)
  have F1 : Frs C ys1 (ps.map (·.1)) := ⟨by rw [List.length_map, hys1, hq.1], fun j y e => let ⟨p, e', f⟩ := hJ1 j y e; ⟨p.1, by rw [List.getElem?_map, e']; rfl, f⟩⟩
  have F2 : Frs C ys2 (ps.map (·.2)) := ⟨by rw [List.length_map, hys2, hq.1], fun j y e => let ⟨p, e', f⟩ := hJ2 j y e; ⟨p.2, by rw [List.getElem?_map, e']; rfl, f⟩⟩
  have hne1 : ys1 ≠ [] := fun e => hne (List.eq_nil_of_length_eq_zero (by rw [← hys1, e]; rfl))
  have hne2 : ys2 ≠ [] := fun e => hne (List.eq_nil_of_length_eq_zero (by rw [← hys2, e]; rfl))
  have ok1 : ∀ q ∈ ps.map (·.1), IntOk q.1 ∧ 0 < q.2 := fun q hq' => by
    obtain ⟨p, hp, rfl⟩ := List.mem_map.mp hq'
    exact ⟨(hok p hp).1, (hok p hp).2.1⟩
  have ok2 : ∀ q ∈ ps.map (·.2), IntOk q.1 ∧ 0 < q.2 := fun q hq' => by
    obtain ⟨p, hp, rfl⟩ := List.mem_map.mp hq'
    exact ⟨(hok p hp).2.2.1, (hok p hp).2.2.2⟩
  obtain ⟨f1, hf1, if1⟩ := G₃.least.name'
  obtain ⟨f2, hf2, if2⟩ := G₃.greatest.name'
  repeat kbo_bools
  rename_i h₄ W₄
  refine least_spec W₄ G₃ (D₁.less (by decide)) hf1 (W₄.old hD1') (fun b o e => W₄.keep _ _ (hS _ _ (hC _ _ e))) F1 hne1 ok1 ?_
  intro r1 q1 h₅ tk₅ hm1 fa1 hle1 W₅
  repeat kbo_bools
  refine least_spec W₅ G₃ (D₁.less (by decide)) hf1 (W₅.old hD2) (fun b o e => W₅.keep _ _ (hS _ _ (hC _ _ e))) F2 hne2 ok2 ?_
  intro r2 q2 h₆ tk₆ hm2 fa2 hle2 W₆
  repeat kbo_bools
  refine greatest_spec W₆ G₃ (D₁.less (by decide)) hf2 (W₆.old hD1') (fun b o e => W₆.keep _ _ (hS _ _ (hC _ _ e))) F1 hne1 ok1 ?_
  intro r3 q3 h₇ tk₇ hm3 fa3 hle3 W₇
  repeat kbo_bools
  refine greatest_spec W₇ G₃ (D₁.less (by decide)) hf2 (W₇.old hD2) (fun b o e => W₇.keep _ _ (hS _ _ (hC _ _ e))) F2 hne2 ok2 ?_
  intro r4 q4 h₈ tk₈ hm4 fa4 hle4 W₈
  repeat kbo_bools
  rename_i r h₉ W₉
  refine h r r1 r2 r3 r4 q1 q2 q3 q4 _ _ fa1 fa2 fa3 fa4 (by simpa using hm1) (by simpa using hm2) (by simpa using hm3) (by simpa using hm4) ?_ ?_ ?_ ?_ (W.backB hS W₉ List.mem_cons_self)
  · exact fun p hp => hle1 _ (List.mem_map_of_mem hp)
  · exact fun p hp => hle2 _ (List.mem_map_of_mem hp)
  · exact fun p hp => hle3 _ (List.mem_map_of_mem hp)
  · exact fun p hp => hle4 _ (List.mem_map_of_mem hp)
end

section
variable (elt t0 i0 t1 i1 : Expr) (scope : Scope) (pos : Pos) (it acc : Value) (env : Env)
theorem compTurn_out : compTurn (.ListComp elt [⟨t0, i0, [], 0⟩, ⟨t1, i1, [], 0⟩] scope pos) 0 it acc env = (do
      standAt i0.pos
      match ← pyNext it with
      | none => pure (.done .next)
      | some v =>
        letOwnedTupleGo t0 it v
        assign t0 env v
        let x ← eval i1 env
        standAt i1.pos
        let x ← foldedSetIterable i1 env x
        let _ ← runOwn (.compStart (.ListComp elt [⟨t0, i0, [], 0⟩, ⟨t1, i1, [], 0⟩] scope pos) 1 (← holding [x] (pyIter x)) acc env) env
        again (.compLoop (.ListComp elt [⟨t0, i0, [], 0⟩, ⟨t1, i1, [], 0⟩] scope pos) 0 it acc env)) := by rfl
theorem compTurn_in : compTurn (.ListComp elt [⟨t0, i0, [], 0⟩, ⟨t1, i1, [], 0⟩] scope pos) 1 it acc env = (do
      standAt i1.pos
      match ← pyNext it with
      | none => pure (.done .next)
      | some v =>
        letOwnedTupleGo t1 it v
        assign t1 env v
        (do let _ ← call (.builtin "list.append") [acc, ← eval elt env])
        again (.compLoop (.ListComp elt [⟨t0, i0, [], 0⟩, ⟨t1, i1, [], 0⟩] scope pos) 1 it acc env)) := by rfl
end

section
variable {prog : Program} {w : World} {A : Around} {R : Result → Shared → Prop} {s : Shared} {elt t0 i0 t1 i1 : Expr} {scope : Scope} {pos : Pos} {it acc : Value} {env : Env}
theorem compStart_in
    (h0 : codeAny (model prog w) A (.compLoop (.ListComp elt [⟨t0, i0, [], 0⟩, ⟨t1, i1, [], 0⟩] scope pos) 1 it acc env) R s)
    (h : wpAny (model prog w) A (pyIter it) (fun it' s' => codeAny (model prog w) A (.compLoop (.ListComp elt [⟨t0, i0, [], 0⟩, ⟨t1, i1, [], 0⟩] scope pos) 1 it' acc env) R s')
      (notedBy (model prog w) A env fun x s' => R (.error x) s') s) :
    codeAny (model prog w) A (.compStart (.ListComp elt [⟨t0, i0, [], 0⟩, ⟨t1, i1, [], 0⟩] scope pos) 1 it acc env) R s := by
  refine codeAny_of_tree ?_
  show wpAny _ _ ((compStart (.ListComp elt [⟨t0, i0, [], 0⟩, ⟨t1, i1, [], 0⟩] scope pos) 1 it acc env).onRaise (fun x => do noteFrame x env; standAt theWindowsPlace)) _ _ s
  refine wpAny_notedAt ?_
  unfold compStart
  show wpAny _ _ (ask >>= _) _ _ s
  refine wpAny_bind (wpAny_askSetting (wpAny_ite ?_))
  split
  · first
      | exact wpAny_bind (wpAny_pure (wpAny_pure (And.intro rfl h0)))
      | exact wpAny_pure (And.intro rfl h0)
  · first
      | exact wpAny_bind (wpAny_rule (wpAny_bind (wpAny_standAt (wpAny_bind (wpAny_mono h (fun it' s' h' => wpAny_pure (And.intro rfl h')) fun _ _ x => x)))))
      | (refine wpAny_bind (wpAny_rule ?_); show wpAny _ _ (standAt i1.pos >>= _) _ _ s; exact wpAny_bind (wpAny_standAt (wpAny_bind (wpAny_mono h (fun it' s' h' => wpAny_pure (And.intro rfl h')) fun _ _ x => x))))

theorem compLoop_in {x1 : Str} {px1 : Pos} (I : Nat → Shared → Prop)
    (turn : ∀ n s, I n s → wpAny (model prog w) A (pyNext it) (fun r s₁ => match r with
      | none => R (.ok .next) s₁
      | some v => wpAny (model prog w) A (assign (.Name x1 px1) env v) (fun _ s₂ => wpAny (model prog w) A (eval elt env) (fun y s₄ =>
              wpAny (model prog w) A (call (.builtin "list.append") [acc, y]) (fun _ s₅ => ∃ m, m < n ∧ I m s₅) (fun _ _ => False) s₄) (fun _ _ => False) s₂) (fun _ _ => False) s₁) (fun _ _ => False) s)
    (n : Nat) (h : I n s) :
    codeAny (model prog w) A (.compLoop (.ListComp elt [⟨t0, i0, [], 0⟩, ⟨.Name x1 px1, i1, [], 0⟩] scope pos) 1 it acc env) R s := by
  refine codeAny_loop rfl I (fun n s hI => ?_) n h
  show wpAny _ A ((compTurn (.ListComp elt [⟨t0, i0, [], 0⟩, ⟨.Name x1 px1, i1, [], 0⟩] scope pos) 1 it acc env).onRaise (fun x => do noteFrame x env; theTreesLotGoes x)) _ _ s
  refine wpAny_noted ?_
  rw [compTurn_in]
  refine wpAny_bind (wpAny_standAt (wpAny_bind (wpAny_mono (turn n s hI) (fun r s₁ h₁ => ?_) fun _ _ f => f.elim)))
  cases r with
  | none => exact wpAny_pure h₁
  | some v =>
    refine wpAny_bind (wpAny_pure (a := ()) ?_)
    refine wpAny_bind (wpAny_mono h₁ (fun _ s₂ h₂ => ?_) fun _ _ f => f.elim)
    exact wpAny_bind (wpAny_bind (wpAny_mono h₂ (fun x s₄ h₄ => wpAny_bind (wpAny_mono h₄ (fun _ s₅ h₅ => wpAny_pure (wpAny_pure ⟨rfl, h₅⟩)) fun _ _ f => f.elim)) fun _ _ f => f.elim))

theorem compLoop_out {x0 : Str} {px0 : Pos} (I : Nat → Shared → Prop) (hs : ∀ x, foldedSetIterable i1 env x = pure x)
    (turn : ∀ n s, I n s → wpAny (model prog w) A (pyNext it) (fun r s₁ => match r with
      | none => R (.ok .next) s₁
      | some v => wpAny (model prog w) A (assign (.Name x0 px0) env v) (fun _ s₂ => wpAny (model prog w) A (eval i1 env) (fun y s₃ => wpAny (model prog w) A (pyIter y) (fun it' s₄ =>
              codeAny (model prog w) A (.compStart (.ListComp elt [⟨.Name x0 px0, i0, [], 0⟩, ⟨t1, i1, [], 0⟩] scope pos) 1 it' acc env) (fun r s₅ => match r with | .ok _ => ∃ m, m < n ∧ I m s₅ | .error _ => False) s₄) (fun _ _ => False) s₃) (fun _ _ => False) s₂) (fun _ _ => False) s₁) (fun _ _ => False) s)
    (n : Nat) (h : I n s) :
    codeAny (model prog w) A (.compLoop (.ListComp elt [⟨.Name x0 px0, i0, [], 0⟩, ⟨t1, i1, [], 0⟩] scope pos) 0 it acc env) R s := by
  refine codeAny_loop rfl I (fun n s hI => ?_) n h
  show wpAny _ A ((compTurn (.ListComp elt [⟨.Name x0 px0, i0, [], 0⟩, ⟨t1, i1, [], 0⟩] scope pos) 0 it acc env).onRaise (fun x => do noteFrame x env; theTreesLotGoes x)) _ _ s
  refine wpAny_noted ?_
  rw [compTurn_out]
  refine wpAny_bind (wpAny_standAt (wpAny_bind (wpAny_mono (turn n s hI) (fun r s₁ h₁ => ?_) fun _ _ f => f.elim)))
  cases r with
  | none => exact wpAny_pure h₁
  | some v =>
    refine wpAny_bind (wpAny_pure (a := ()) ?_)
    refine wpAny_bind (wpAny_mono h₁ (fun _ s₂ h₂ => ?_) fun _ _ f => f.elim)
    refine wpAny_bind (wpAny_mono h₂ (fun y s₃ h₃ => ?_) fun _ _ f => f.elim)
    refine wpAny_bind (wpAny_standAt (wpAny_bind (wpAny_of_eq (hs y) (wpAny_bind (wpAny_holding (wpAny_mono h₃ (fun it' s₄ h₄ => ?_) fun _ _ f => f.elim))))))
    refine wpAny_bind (wpAny_runOwn (h := none) (codeAny_mono h₄ fun r s₅ hr => ?_))
    cases r with
    | ok f => exact wpAny_pure ⟨rfl, hr⟩
    | error e => exact hr.elim
end

section
variable {prog : Program} {w : World} {A : Around} {E : Value → Shared → Prop} {env : Env} {B : Heap} {L : Addr} {X : Led} {m : Str → Option Value} {s₂ : Shared}

/-- the inner loop: each item of a tuple is put into the list -/
theorem comp2_in {x0 x1 : Str} {px0 px1 p1 : Pos} {i0 i1 : Expr} {scope : Scope} {cl : List (Str × Addr)} {pos : Pos} {nn : Nat} {s : Shared} {B₁ : Heap} {C D T : Addr} {ys zs : List Value} {m₁ : Str → Option Value} {R : Result → Shared → Prop}
    (DA : AOk nn A) (hkind : scope.kind = .function) (hx1 : scope.names.lookup x1 = some .local) (hdb : (x1 == ("__debug__" : Str)) = false) (W : Wx B₁ C [(D, ys.toArray)] [] s.heap m₁) (hT : SeqAt B₁ "tuple" T zs.toArray) (hlen : ys.length + zs.length ≤ 1000)
    (done : ∀ h' tk m', Wx B₁ C [(D, (ys ++ zs).toArray)] [] h' m' → R (.ok .next) { s with heap := h', toks := tk }) :
    wpAny (model prog w) A (pyIter (.ref T)) (fun it' s₄ => codeAny (model prog w) A (.compStart (.ListComp (.Name x1 p1) [⟨.Name x0 px0, i0, [], 0⟩, ⟨.Name x1 px1, i1, [], 0⟩] scope pos) 1 it' (.ref D) (compEnvC scope cl C env)) R s₄) E s := by
  refine x_iter DA (.inr rfl) (W.old hT) fun I St h₂ K hS hI hI2 hl2 hwrF hst => ?_
  have hBI : B₁.get? I = none := none_mono W.keep hI
  have hDm := W.mu (D, ys.toArray) (by simp)
  have hCI : C ≠ I := fun e => by
    obtain ⟨o, es, ep, ho, r⟩ := W.ns
    rw [e, hI] at ho; cases ho
  have hDI : D ≠ I := fun e => by
    obtain ⟨o, ho⟩ := hDm.1.get
    rw [e, hI] at ho; cases ho
  have hTC : T ≠ C := fun e => by obtain ⟨o, ho⟩ := hT.get; rw [e, W.nL] at ho; cases ho
  have hTD : T ≠ D := fun e => by obtain ⟨o, ho⟩ := hT.get; rw [e, hDm.2] at ho; cases ho
  have W₂ : Wx B₁ C [(D, ys.toArray)] [] h₂ m₁ := W.grow hS
  have loop : codeAny (model prog w) A (.compLoop (.ListComp (.Name x1 p1) [⟨.Name x0 px0, i0, [], 0⟩, ⟨.Name x1 px1, i1, [], 0⟩] scope pos) 1 (.ref I) (.ref D) (compEnvC scope cl C env)) R { s with heap := h₂ } := by
    refine compLoop_in (fun k s' => ∃ h tk i m', s' = { s with heap := h, toks := tk } ∧ k = zs.length + 1 - i ∧ i ≤ zs.length ∧ St i h ∧ Wx B₁ C [(D, (ys ++ zs.take i).toArray)] [] h m') ?_ (zs.length + 1)
      ⟨h₂, _, 0, m₁, rfl, rfl, Nat.zero_le _, hst, by simpa using W₂⟩
    rintro k s' ⟨h, tk, i, m', rfl, rfl, hi, hst', W'⟩
    by_cases hin : i < zs.length
    · refine K.item i _ _ _ hin hst' fun v h₃ tk₃ hP hst₃ hk₃ => ?_
      have W₃ := W'.keepX (l := [I]) hk₃ (by simpa using hCI) (by simpa using hDI) (by simpa using hBI) (fun p hp => nomatch hp)
      refine wpAny_assign_Name (wpAny_storeName_local (env := compEnvC scope cl C env) (lookup_relabel_local hx1) W₃.ns (fun h₄ hn₄ hs₄ => ?_) (by simp [compEnvC, relabel, hkind]))
      have W₄ := W₃.set hn₄ hs₄
      have hst₄ : St (i + 1) h₄ := K.frame _ _ _ hst₃ fun b hb o e => (hs₄.2 b (fun (q : b = C) => by
        simp only [List.mem_cons, List.not_mem_nil, or_false] at hb
        rcases hb with rfl | rfl
        · exact hCI q.symm
        · exact hTC q)).trans e
      refine x_local (v := v) W₄ (if_pos rfl) ?_ rfl (by simp [compEnvC, relabel, hkind]) (lookup_relabel_local hx1) hdb
      have hl : SeqAt h₄ "list" D (ys ++ zs.take i).toArray := (W₄.mu (D, (ys ++ zs.take i).toArray) (by simp)).1
      refine wpAny_list_append hl.isList (fun h₅ hl₅ hs₅ => ?_) (hsz := by rw [List.size_toArray, sizeLine_eq, List.length_append, List.length_take]; omega)
      have W₆ : Wx B₁ C [(D, (ys ++ zs.take (i + 1)).toArray)] [] h₅ _ := W₄.turnG (Pre := []) (Post := []) (fun b o hb e => hs₅.extBut b o hb e) (by
        have h1 : SeqAt h₅ "list" D ((ys ++ zs.take i).toArray.push v) := hl₅
        have h2 : zs.take (i + 1) = zs.take i ++ [v] := by rw [List.take_add_one, hP]; rfl
        rw [h2, ← List.append_assoc]; simpa using h1)
      refine ⟨zs.length + 1 - (i + 1), by omega, h₅, _, i + 1, _, rfl, rfl, hin, K.frame _ _ _ hst₄ fun b hb o e => hs₅.extBut b o (fun q => ?_) e, W₆⟩
      simp only [List.mem_cons, List.not_mem_nil, or_false] at hb
      rcases hb with rfl | rfl
      · exact hDI q.symm
      · exact hTD q
    · have hin' : i = zs.length := by omega
      subst hin'
      refine K.done _ _ _ hst' fun h₃ tk₃ hk₃ => ?_
      have W₃ := W'.keepX (l := [I]) hk₃ (by simpa using hCI) (by simpa using hDI) (by simpa using hBI) (fun p hp => nomatch hp)
      rw [List.take_length] at W₃
      exact done h₃ tk₃ m' W₃
  exact compStart_in loop (K.self 0 _ _ _ hst loop)
end

theorem flat_take {α : Type} {fs : List (List α)} {i : Nat} {z : List α} (h : fs[i]? = some z) : (fs.take (i + 1)).flatten = (fs.take i).flatten ++ z := by
  rw [List.take_add_one, h]; simp
theorem flat_len {α : Type} (fs : List (List α)) (i : Nat) : (fs.take i).flatten.length ≤ fs.flatten.length := by
  conv => rhs; rw [← List.take_append_drop i fs]
  rw [List.flatten_append, List.length_append]; omega

section
variable {prog : Program} {w : World} {A : Around} {E : Value → Shared → Prop} {env : Env} {B : Heap} {L : Addr} {X : Led} {m : Str → Option Value} {s : Shared}

def CB2 (prog : Program) (w : World) (A : Around) (E : Value → Shared → Prop) (x0 x1 : Str) (px0 px1 p1 : Pos) (i0 i1 : Expr) (scope : Scope) (cl : List (Str × Addr)) (pos : Pos) (env : Env) (RR : Value → Addr → Result → Shared → Prop) (it : Value) (s₂ : Shared) : Prop :=
  wpAny (model prog w) A (newList []) (fun acc s₃ => wpAny (model prog w) A (newFunctionEnv scope env.globals cl [] env.qual none .none (some env)) (fun cenv s₄ =>
    codeAny (model prog w) A (.compStart (.ListComp (.Name x1 p1) [⟨.Name x0 px0, i0, [], 0⟩, ⟨.Name x1 px1, i1, [], 0⟩] scope pos) 0 it acc { cenv with scope := relabel scope env }) (RR acc cenv.locals) s₄) E s₃) E s₂

theorem x_compA2 {x0 x1 y : Str} {px0 px1 p1 py : Pos} {i0 i1 : Expr} {scope : Scope} {cl : List (Str × Addr)} {pos spos : Pos} {Q : Flow → Shared → Prop}
    (hsw : swapsWith (.ListComp (.Name x1 p1) [⟨.Name x0 px0, i0, [], 0⟩, ⟨.Name x1 px1, i1, [], 0⟩] scope pos) (some (.Name y py)) spos.line env = pure true)
    (hclos : closureFor scope env = pure cl) (hkind : scope.kind = .function) (hnames : ∀ y ∈ scope.names, y.2 = .local → scope.names.lookup y.1 = some .local) (hs : ∀ x, foldedSetIterable i0 env x = pure x)
    (h : wpAny (model prog w) A (eval i0 env) (fun xv s₁ => wpAny (model prog w) A (pyIter xv) (fun it s₂ => CB2 prog w A E x0 x1 px0 px1 p1 i0 i1 scope cl pos env (fun acc C => compPost (model prog w) A E (some (assign (.Name y py) env)) (fun _ s' => Q .next s') acc C) it s₂) E s₁) E s) :
    wpAny (model prog w) A (exec (.Assign [.Name y py] (.ListComp (.Name x1 p1) [⟨.Name x0 px0, i0, [], 0⟩, ⟨.Name x1 px1, i1, [], 0⟩] scope pos) spos) env) Q E s := by
  rw [exec_Assign_Name_used _ _ _ _ hsw]
  refine wpAny_bind (wpAny_standAt (wpAny_bind ?_))
  show wpAny _ A (do let _ ← comprehension (.ListComp (.Name x1 p1) [⟨.Name x0 px0, i0, [], 0⟩, ⟨.Name x1 px1, i1, [], 0⟩] scope pos) scope env _ (newList []) false (eval i0 env) (some (assign (.Name y py) env))) _ _ s
  refine wpAny_bind (wpAny_mono (wpAny_comprehension_free (use := some (assign (.Name y py) env)) (Q := fun _ s' => Q .next s') rfl hs hclos hkind hnames h) (fun _ s' hq => ?_) fun _ _ e => e)
  exact wpAny_pure (wpAny_pure hq)

theorem x_CBA2 {nn : Nat} {x0 x1 y : Str} {px0 px1 p1 py : Pos} {i0 i1 : Expr} {scope : Scope} {cl : List (Str × Addr)} {pos : Pos} {l : Addr} {vs : List Value} {fs : List (List Value)} {Q : Shared → Prop}
    (DA : AOk nn A) (W : Wx B L [] X s.heap m) (hL : env.locals = L) (hke : env.scope.kind = .function) (hy : env.kindOf y = some .local) (hv : SeqAt s.heap "list" l vs.toArray)
    (hs1 : ∀ C x, foldedSetIterable i1 (compEnvC scope cl C env) x = pure x)
    (hcell : ∀ y ∈ scope.names, y.2 ≠ .cell) (hkind : scope.kind = .function) (hx : scope.names.lookup x0 = some .local) (hx1 : scope.names.lookup x1 = some .local) (hdb : (x1 == ("__debug__" : Str)) = false)
    (hlen : vs.length = fs.length) (hn : fs.flatten.length ≤ 1000)
    (turn : ∀ (i : Nat) v (z : List Value) B₁ C D ys (m₁ : Str → Option Value) h₁ tk, vs[i]? = some v → fs[i]? = some z → Sub B B₁ → Old s.heap [] B₁ → Wx B₁ C [(D, ys)] [] h₁ (fun y => if y = x0 then some v else m₁ y) →
      wpAny (model prog w) A (eval i1 (compEnvC scope cl C env)) (fun y s' => ∃ T h' tk' B₂ m₂, y = .ref T ∧ s' = { s with heap := h', toks := tk' } ∧ Sub B₁ B₂ ∧ Wx B₂ C [(D, ys)] [] h' m₂ ∧ SeqAt B₂ "tuple" T z.toArray)
        (fun _ _ => False) { s with heap := h₁, toks := tk })
    (fin : ∀ D h' tk B₂, Sub B B₂ → Old s.heap [L] B₂ → Wx B₂ L [] [] h' (fun z => if z = y then some (.ref D) else m z) → SeqAt B₂ "list" D fs.flatten.toArray → s.heap.get? D = none → Q { s with heap := h', toks := tk }) :
    wpAny (model prog w) A (pyIter (.ref l)) (fun it s₂ => CB2 prog w A E x0 x1 px0 px1 p1 i0 i1 scope cl pos env (fun acc C => compPost (model prog w) A E (some (assign (.Name y py) env)) (fun _ s' => Q s') acc C) it s₂) E s := by
  refine x_iter DA (.inl rfl) hv fun I St h₂ K hS hI hI2 hl2 hwrF hst => ?_
  refine wpAny_newObj_type (wpAny_newFunctionEnv hcell (by intro y hy; simp at hy) (fun h₁ hns₁ hsb₁ => ?_) hkind)
  dsimp only at hns₁ hsb₁ ⊢
  generalize hH2 : h₂.push { cls := .type "list", dict := none, data := .seq ([] : List Value).toArray } = H2 at hns₁ hsb₁ ⊢
  have hC : H2.objs.size = h₂.objs.size + 1 := by rw [← hH2, Heap.size_push]
  generalize hDe : h₂.objs.size = D at *
  generalize hCe : H2.objs.size = C at *
  have hDC : D ≠ C := by omega
  have below : ∀ b o, h₂.get? b = some o → b ≠ C ∧ b ≠ D := fun b o e => by have := Heap.lt_size e; rw [hDe] at this; exact ⟨Nat.ne_of_lt (by rw [hC]; exact Nat.lt_succ_of_lt this), Nat.ne_of_lt this⟩
  have hfD2 : h₂.get? D = none := Heap.get?_none_of_le (by rw [hDe]; exact Nat.le_refl _)
  have hfC2 : h₂.get? C = none := Heap.get?_none_of_le (by rw [hDe, hC]; exact Nat.le_succ _)
  have hfD := none_mono hS hfD2
  have hfC := none_mono hS hfC2
  have old : Sub h₂ h₁ := fun b o e => hsb₁.extBut b o (below b o e).1 (Heap.get?_push_of_some _ (hH2 ▸ Heap.get?_push_of_some _ e))
  have hacc : SeqAt h₁ "list" D ([] : List Value).toArray := ⟨_, hsb₁.extBut _ _ hDC (Heap.get?_push_of_some _ (by rw [← hH2, ← hDe]; exact Heap.get?_push_size _ rfl)), rfl, 0, rfl⟩
  have hlI : l ≠ I := fun e => by obtain ⟨o, ho⟩ := hv.get; rw [e, hI] at ho; cases ho
  have hIC : I ≠ C := Nat.ne_of_lt (by rw [hC]; exact Nat.lt_succ_of_lt hI2)
  have hID : I ≠ D := Nat.ne_of_lt hI2
  have hlC : l ≠ C := Nat.ne_of_lt (by rw [hC]; exact Nat.lt_succ_of_lt hl2)
  have hlD : l ≠ D := Nat.ne_of_lt hl2
  have hBs : Sub B (hideAll h₂ [I]) := fun b o e => hideAll_get _ (hS _ _ (W.keep _ _ e)) fun q => by
    simp only [List.mem_cons, List.not_mem_nil, or_false] at q
    rw [q, none_mono W.keep hI] at e; cases e
  have W₁ : Wx (hideAll h₂ [I]) C [(D, ([] : List Value).toArray)] [] h₁ (fun x => List.lookup x ([] : List (Str × Value)).reverse) := by
    refine ⟨hns₁, fun b o e => old _ _ (of_hideAll _ e), none_mono (h' := h₂) (fun _ _ e => of_hideAll _ e) hfC2, fun p hp => ?_, by simp, fun p hp => nomatch hp⟩
    simp only [List.mem_cons, List.not_mem_nil, or_false] at hp
    subst hp
    exact ⟨hacc, none_mono (h' := h₂) (fun _ _ e => of_hideAll _ e) hfD2⟩
  have hfp : ∀ b ∈ [I, l], b ≠ C ∧ b ≠ D := fun b hb => by
    simp only [List.mem_cons, List.not_mem_nil, or_false] at hb
    rcases hb with rfl | rfl
    · exact ⟨hIC, hID⟩
    · exact ⟨hlC, hlD⟩
  have loop : ∀ s₃ : Shared, s₃ = { s with heap := h₁, toks := s.toks + ([] : List (Str × Value)).length } →
      codeAny (model prog w) A (.compLoop (.ListComp (.Name x1 p1) [⟨.Name x0 px0, i0, [], 0⟩, ⟨.Name x1 px1, i1, [], 0⟩] scope pos) 0 (.ref I) (.ref D) (compEnvC scope cl C env))
        (compPost (model prog w) A E (some (assign (.Name y py) env)) (fun _ s' => Q s') (.ref D) C) s₃ := by
    rintro s₃ rfl
    refine compLoop_out (fun k s' => ∃ h tk i B₁ m', s' = { s with heap := h, toks := tk } ∧ k = vs.length + 1 - i ∧ i ≤ vs.length ∧ St i h ∧ Wx B₁ C [(D, (fs.take i).flatten.toArray)] [] h m' ∧ Sub (hideAll h₂ [I]) B₁ ∧ B₁.get? I = none) (hs1 C) ?_ (vs.length + 1)
      ⟨h₁, _, 0, _, _, rfl, rfl, Nat.zero_le _, K.frame _ _ _ hst fun b _ o e => old b o e, W₁, fun _ _ e => e, hideAll_none _ (by simp)⟩
    rintro k s' ⟨h, tk, i, B₁, m', rfl, rfl, hi, hst', W', hB, hw⟩
    by_cases hin : i < vs.length
    · refine K.item i _ _ _ hin hst' fun v h₃ tk₃ hP hst₃ hk₃ => ?_
      have W₃ := W'.keepX (l := [I]) hk₃ (by simpa using Ne.symm hIC) (by simpa using Ne.symm hID) (by simpa using hw) (fun p hp => nomatch hp)
      refine wpAny_assign_Name (wpAny_storeName_local (env := compEnvC scope cl C env) (lookup_relabel_local hx) W₃.ns (fun h₄ hn₄ hs₄ => ?_) (by simp [compEnvC, relabel, hkind]))
      have W₄ := W₃.set hn₄ hs₄
      obtain ⟨B₂, hBB, W₅, hin₂⟩ := W₄.rebase
      have hst₄ : St (i + 1) h₄ := K.frame _ _ _ hst₃ fun b hb o e => (hs₄.2 b (hfp b hb).1).trans e
      obtain ⟨z, hz⟩ : ∃ z, fs[i]? = some z := ⟨_, List.getElem?_eq_getElem (by omega)⟩
      refine wpAny_mono (turn i v z B₂ C D _ m' h₄ _ hP hz (fun b o e => hBB _ _ (hB _ _ (hBs _ _ e))) (fun b o e q => hBB _ _ (hB _ _ (hideAll_get _ (hS _ _ e) fun q' => by
        simp only [List.mem_cons, List.not_mem_nil, or_false] at q'
        rw [q', hI] at e; cases e))) W₅) (fun yv s₃ hf => ?_) fun _ _ f => f.elim
      obtain ⟨T, h₅, tk₅, B₃, m₂, rfl, rfl, hS3, W₆, hT⟩ := hf
      have hl3 := flat_len fs (i + 1)
      rw [flat_take hz, List.length_append] at hl3
      refine comp2_in (s := { s with heap := h₅, toks := tk₅ }) DA hkind hx1 hdb W₆ hT (by omega) fun h₆ tk₆ m₆ W₇ => ?_
      rw [← flat_take hz] at W₇
      have hst₆ : St (i + 1) h₆ := K.frame _ _ _ hst₄ fun b hb o e => W₇.keep _ _ (hS3 _ _ (hin₂ b o e (hfp b hb).1 (by simpa using (hfp b hb).2)))
      refine ⟨vs.length + 1 - (i + 1), by omega, h₆, tk₆, i + 1, hideAll B₃ [I], m₆, rfl, rfl, hin, hst₆, W₇.less (fun b o e => of_hideAll _ e), fun b o e => ?_, hideAll_none _ (by simp)⟩
      refine hideAll_get _ (hS3 _ _ (hBB _ _ (hB _ _ e))) fun q => ?_
      simp only [List.mem_cons, List.not_mem_nil, or_false] at q
      rw [q, hideAll_none _ (by simp)] at e; cases e
    · have hin' : i = vs.length := by omega
      subst hin'
      refine K.done _ _ _ hst' fun h₃ tk₃ hk₃ => ?_
      have W₃ := W'.keepX (l := [I]) hk₃ (by simpa using Ne.symm hIC) (by simpa using Ne.symm hID) (by simpa using hw) (fun p hp => nomatch hp)
      rw [hlen, List.take_length] at W₃
      have hO : Old s.heap (adr ([] : Mut) ++ []) B₁ := fun b o e q => hB _ _ (hideAll_get _ (hS _ _ e) fun q' => by
        simp only [List.mem_cons, List.not_mem_nil, or_false] at q'
        rw [q', hI] at e; cases e)
      obtain ⟨B₂, hB2, W₄, hO2, hS2, hD2, hC2⟩ := comp_after (Mu₁ := []) W (fun b o e => hB _ _ (hBs _ _ e)) hO rfl (fun b hb => nomatch hb) hfD hfC W₃
      have hCL : C ≠ L := fun e => by
        obtain ⟨o, es, ep, ho, r⟩ := W.ns
        rw [e, ho] at hfC; cases hfC
      show wpAny _ A (assign (.Name y py) env (.ref D)) _ _ _
      refine wpAny_assign_Name (wpAny_storeName_local hy (hL ▸ W₄.ns) (fun h₅ hn₅ hs₅ => ?_) (by rw [hke]; rfl))
      rw [hL] at hn₅ hs₅
      have W₅ := W₄.set hn₅ hs₅
      refine ⟨_, W₃.ns.sameBut hs₅ hCL, fun h'' hs => ?_⟩
      exact fin D h'' _ B₂ hB2 hO2 (W₅.keepX (l := [C]) (fun b o hb e => hs.extBut b o (by simpa using hb) e) (by simpa using Ne.symm hCL) (fun b hb => nomatch hb)
        (fun b hb => by simp only [List.mem_cons, List.not_mem_nil, or_false] at hb; rw [hb]; exact hC2) (fun p hp => nomatch hp)) hD2 hfD
  exact codeAny_compStart_list (loop _ rfl) (K.self 0 _ _ _ (K.frame _ _ _ hst fun b _ o e => old b o e) (loop _ rfl))
end
local macro_rules | `(tactic| kln_le) => `(tactic| ((with_reducible refine' x_compA2 ?hsw ?hclos ?hkind ?hnames ?hs ?h); (case hsw => with_unfolding_all rfl); (case hclos => with_unfolding_all rfl); (case hkind => rfl); (case hnames => decide); (case hs => (intro _; rfl))))

section
variable {prog : Program} {w : World} {A : Around} {E : Value → Shared → Prop} {s : Shared} {B : Heap} {L : Addr} {Mu : Mut} {X : Led} {m : Str → Option Value}

theorem SeqAt.parts {h : Heap} {c : String} {a : Addr} {items : Array Value} (x : SeqAt h c a items) : ∃ d sl n, h.get? a = some { cls := .type c, dict := d, data := .seq items n, slots := sl } := by
  obtain ⟨⟨cls, d, data, sl⟩, ho, hc, n, hd⟩ := x
  simp only at hc hd
  subst hc hd
  exact ⟨d, sl, n, ho⟩
theorem SeqAt.type {s : Shared} {c : String} {a : Addr} {items : Array Value} (x : SeqAt s.heap c a items) : s.TypeIs (.ref a) c := let ⟨o, ho, hc, _⟩ := x; ⟨o, ho, hc⟩

/-- a list against an empty one -/
theorem x_eq_nil {nn : Nat} {a b : Addr} {vs : List Value} {Q : Value → Shared → Prop} (D : AOk nn A) (ha : SeqAt s.heap "list" a vs.toArray) (hb : SeqAt s.heap "list" b ([] : List Value).toArray) (h : Q (.bool vs.isEmpty) s) :
    wpAny (model prog w) A (compareOp .Eq (.ref a) (.ref b)) Q E s := by
  obtain ⟨d, sl, n, ho⟩ := ha.parts
  obtain ⟨d2, sl2, n2, ho2⟩ := hb.parts
  have hu : A.units < cLine := by have := D.2.2; show A.units < 9900; omega
  cases vs with
  | nil =>
    refine cmp_ofEq (richCompare_meets_room ha.type hb.type F.slot_list_eq F.entry_list_eq (F.args_list_eq_2 _ _) (SeqAt.list_eqAt a b _ _ n n2 d d2 sl sl2 rfl (fun _ => true)) ⟨ho, ho2, fun j h1 _ => absurd h1 (Nat.not_lt_zero _), ?_⟩ hu)
    exact ⟨(fun x => nomatch x), h⟩
  | cons v r =>
    refine cmp_ofEq (richCompare_meets_room ha.type hb.type F.slot_list_eq F.entry_list_eq (F.args_list_eq_2 _ _) (SeqAt.list_eq_lengthsAt a b _ _ n n2 d d2 sl sl2 (by simp)) ⟨ho, ho2, ?_⟩ hu)
    exact ⟨(fun x => nomatch x), h⟩

theorem x_add_list {a b : Addr} {vs ws : List Value} {Q : Value → Shared → Prop} (W : Wx B L Mu X s.heap m) (ha : SeqAt s.heap "list" a vs.toArray) (hb : SeqAt s.heap "list" b ws.toArray) (hsz : vs.length + ws.length ≤ sizeLine)
    (h : ∀ r h', Wx B L Mu ((r, "list", (vs ++ ws).toArray) :: X) h' m → Q (.ref r) { s with heap := h' }) : wpAny (model prog w) A (binaryOp .Add (.ref a) (.ref b)) Q E s := by
  obtain ⟨d, sl, n, ho⟩ := ha.parts
  obtain ⟨d2, sl2, n2, ho2⟩ := hb.parts
  refine concat_meets ha.type hb.type noFill_list_add seq_list_add F.slot_list_add F.entry_list_add (F.args_list_add_2 _ _) (list_addW a b _ _ n n2 d d2 sl sl2 (by simpa using hsz)) ⟨ho, ho2, ?_⟩
  exact h _ _ (W.add (fun _ _ e => Heap.get?_push_of_some _ e) (Heap.get?_none_of_le (Nat.le_refl _)) ⟨_, Heap.get?_push_size _ rfl, rfl, 0, by simp⟩)

/-- the sum of two tuples: what it bears, whichever object it is -/
theorem x_add_tup {a b : Addr} {vs ws : List Value} {Q : Value → Shared → Prop} (W : Wx B L Mu X s.heap m) (ha : SeqAt s.heap "tuple" a vs.toArray) (hb : SeqAt s.heap "tuple" b ws.toArray) (hv : vs ≠ []) (hsz : vs.length + ws.length ≤ sizeLine)
    (h : ∀ r h', Wx B L Mu X h' m → SeqAt h' "tuple" r (vs ++ ws).toArray → Q (.ref r) { s with heap := h' }) : wpAny (model prog w) A (binaryOp .Add (.ref a) (.ref b)) Q E s := by
  obtain ⟨d, sl, n, ho⟩ := ha.parts
  obtain ⟨d2, sl2, n2, ho2⟩ := hb.parts
  by_cases hw : ws = []
  · subst hw
    refine concat_meets ha.type hb.type noFill_tuple_add seq_tuple_add F.slot_tuple_add F.entry_tuple_add (F.args_tuple_add_2 _ _) (tuple_addW1 a b _ _ n n2 d d2 sl sl2 (by simpa using hv) (by simp)) ⟨ho, ho2, ?_⟩
    exact h a s.heap W (by simpa using ha)
  · refine concat_meets ha.type hb.type noFill_tuple_add seq_tuple_add F.slot_tuple_add F.entry_tuple_add (F.args_tuple_add_2 _ _) (tuple_addW2 a b _ _ n n2 d d2 sl sl2 (by simpa using hv) (by simpa using hw) (by simpa using hsz)) ⟨ho, ho2, ?_⟩
    exact h _ _ (W.grow fun _ _ e => Heap.get?_push_of_some _ e) ⟨_, Heap.get?_push_size _ rfl, rfl, 0, by simp⟩

theorem x_mul_list {a : Addr} {vs : List Value} {k : Int} {u : Tok} {Q : Value → Shared → Prop} (W : Wx B L Mu X s.heap m) (ha : SeqAt s.heap "list" a vs.toArray) (h0 : 0 ≤ k) (h1 : k ≤ 1000) (h2 : vs.length ≤ 1000)
    (h : ∀ r h', Wx B L Mu ((r, "list", (List.replicate k.toNat vs).flatten.toArray) :: X) h' m → Q (.ref r) { s with heap := h' }) : wpAny (model prog w) A (binaryOp .Mult (.ref a) (.int k u)) Q E s := by
  obtain ⟨d, sl, n, ho⟩ := ha.parts
  have hm : vs.length * k.toNat ≤ 1000 * 1000 := Nat.mul_le_mul h2 (by omega)
  refine wpAny_binaryOp_repeat_ref (T := "list") (U := "int") (by decide) ha.type (fun s' => typeIs_int s' k u) noFill_list_mul F.fills_int_mul F.slot_int_rmul repeat_list F.slot_int_index.lookup ?_
  refine call_meets F.slot_int_rmul (typeIs_int s k u) F.entry_int_rmul (F.args_int_rmul_2 _ _) (lm_int_rmul_list_any k u a _ n d sl) ⟨ho, rfl, ha.type, ?_⟩
  refine call_meets F.slot_list_mul ha.type F.entry_list_mul (F.args_list_mul_2 _ _) (lm_list_mul_any a _ n d sl k u ?_ ?_ ?_) ⟨ho, ?_⟩
  · simp [Builtin.List.listFitsIndex]; omega
  · rw [List.size_toArray]; omega
  · simp [Builtin.List.listTooLong, sizeLine]; omega
  · exact h _ _ (W.add (fun _ _ e => Heap.get?_push_of_some _ e) (Heap.get?_none_of_le (Nat.le_refl _)) ⟨_, Heap.get?_push_size _ rfl, rfl, 0, by rw [listMul_foldl_if]⟩)

theorem x_len_list {a : Addr} {vs : List Value} {Q : Value → Shared → Prop} (ha : SeqAt s.heap "list" a vs.toArray) (hsz : vs.length ≤ 1000000) (h : ∀ u tk, Q (.int vs.length u) { s with toks := tk }) :
    wpAny (model prog w) A (call (.builtin "len") [.ref a]) Q E s :=
  PyProof.Rows.len_list ha.isList (by rw [List.size_toArray]; omega) (by simpa using h _ _)

/-- what a slice of a list asks -/
def LUp (Q : Value → Shared → Prop) (o vu : Value) (s : Shared) : Prop :=
  ∃ l items k u, o = .ref l ∧ vu = .int ((k : Nat) : Int) u ∧ SeqAt s.heap "list" l items ∧ items.size ≤ sizeLine ∧
    ∀ r h', (∀ b x, s.heap.get? b = some x → h'.get? b = some x) → s.heap.get? r = none → SeqAt h' "list" r (items.toList.take k).toArray → Q (.ref r) { s with heap := h' }
def LDn (Q : Value → Shared → Prop) (o vl : Value) (s : Shared) : Prop :=
  ∃ l items k u, o = .ref l ∧ vl = .int ((k : Nat) : Int) u ∧ SeqAt s.heap "list" l items ∧ items.size ≤ sizeLine ∧
    ∀ r h', (∀ b x, s.heap.get? b = some x → h'.get? b = some x) → s.heap.get? r = none → SeqAt h' "list" r (items.toList.drop k).toArray → Q (.ref r) { s with heap := h' }
def LMid (Q : Value → Shared → Prop) (o vl vu : Value) (s : Shared) : Prop :=
  ∃ l items a b u u', o = .ref l ∧ vl = .int ((a : Nat) : Int) u ∧ vu = .int ((b : Nat) : Int) u' ∧ SeqAt s.heap "list" l items ∧ items.size ≤ sizeLine ∧ a ≤ b ∧ b ≤ items.size ∧
    ∀ r h', (∀ b x, s.heap.get? b = some x → h'.get? b = some x) → s.heap.get? r = none → SeqAt h' "list" r ((items.toList.drop a).take (b - a)).toArray → Q (.ref r) { s with heap := h' }
theorem two_push {s : Shared} {o : Obj} {l : List Value} : (∀ b x, s.heap.get? b = some x → ((s.heap.push o).push { cls := .type "list", data := .seq l.toArray }).get? b = some x) ∧ s.heap.get? (s.heap.objs.size + 1) = none ∧
    SeqAt ((s.heap.push o).push { cls := .type "list", data := .seq l.toArray }) "list" (s.heap.objs.size + 1) l.toArray := by
  refine ⟨fun b x e => Heap.get?_push_of_some _ (Heap.get?_push_of_some _ e), Heap.get?_none_of_le (Nat.le_succ _), ?_⟩
  have := Heap.get?_push_size (s.heap.push o) (o := { cls := .type "list", data := .seq l.toArray }) rfl
  rw [Heap.size_push] at this
  exact ⟨_, this, rfl, 0, rfl⟩
theorem x_lup {env : Env} {value up : Expr} {p pos : Pos} {Q : Value → Shared → Prop}
    (h : wpAny (model prog w) A (eval value env) (fun o s₁ => wpAny (model prog w) A (eval up env) (fun vu s₂ => LUp Q o vu s₂) E s₁) E s) (ht : ∀ o r, letTemporaryGo value o r = pure ()) :
    wpAny (model prog w) A (eval (.Subscript value (.Slice none (some up) none p) pos) env) Q E s := by
  refine wpAny_Subscript_list_slice (wpAny_mono h (fun o s₁ h₁ => ?_) fun _ _ e => e) ht
  rw [evalPart_none, evalPart_some]
  refine wpAny_pure (wpAny_mono h₁ (fun vu s₂ h₂ => ?_) fun _ _ e => e)
  obtain ⟨l, items, k, u, rfl, rfl, hl, hz, hQ⟩ := h₂
  refine ⟨l, items, none, some (k : Int), rfl, hl.isList, hz, .none, .int _ _, ?_⟩
  rw [slicePick_upto']
  obtain ⟨a1, a2, a3⟩ := two_push (s := s₂) (o := { cls := .type "slice", data := .fields #[.none, .int ((k : Nat) : Int) u, .none] }) (l := items.toList.take k)
  exact hQ _ _ a1 a2 a3
theorem x_ldn {env : Env} {value lo : Expr} {p pos : Pos} {Q : Value → Shared → Prop}
    (h : wpAny (model prog w) A (eval value env) (fun o s₁ => wpAny (model prog w) A (eval lo env) (fun vl s₂ => LDn Q o vl s₂) E s₁) E s) (ht : ∀ o r, letTemporaryGo value o r = pure ()) :
    wpAny (model prog w) A (eval (.Subscript value (.Slice (some lo) none none p) pos) env) Q E s := by
  refine wpAny_Subscript_list_slice (wpAny_mono h (fun o s₁ h₁ => ?_) fun _ _ e => e) ht
  rw [evalPart_none, evalPart_some]
  refine wpAny_mono h₁ (fun vl s₂ h₂ => wpAny_pure ?_) fun _ _ e => e
  obtain ⟨l, items, k, u, rfl, rfl, hl, hz, hQ⟩ := h₂
  refine ⟨l, items, some (k : Int), none, rfl, hl.isList, hz, .int _ _, .none, ?_⟩
  rw [slicePick_from']
  obtain ⟨a1, a2, a3⟩ := two_push (s := s₂) (o := { cls := .type "slice", data := .fields #[.int ((k : Nat) : Int) u, .none, .none] }) (l := items.toList.drop k)
  exact hQ _ _ a1 a2 a3
theorem x_lmid {env : Env} {value lo up : Expr} {p pos : Pos} {Q : Value → Shared → Prop}
    (h : wpAny (model prog w) A (eval value env) (fun o s₁ => wpAny (model prog w) A (eval lo env) (fun vl s₂ => wpAny (model prog w) A (eval up env) (fun vu s₃ => LMid Q o vl vu s₃) E s₂) E s₁) E s) (ht : ∀ o r, letTemporaryGo value o r = pure ()) :
    wpAny (model prog w) A (eval (.Subscript value (.Slice (some lo) (some up) none p) pos) env) Q E s := by
  refine wpAny_Subscript_list_slice (wpAny_mono h (fun o s₁ h₁ => ?_) fun _ _ e => e) ht
  rw [evalPart_some, evalPart_some]
  refine wpAny_mono h₁ (fun vl s₂ h₂ => wpAny_mono h₂ (fun vu s₃ h₃ => ?_) fun _ _ e => e) fun _ _ e => e
  obtain ⟨l, items, a, b, u, u', rfl, rfl, rfl, hl, hz, hab, hb, hQ⟩ := h₃
  refine ⟨l, items, some (a : Int), some (b : Int), rfl, hl.isList, hz, .int _ _, .int _ _, ?_⟩
  rw [slicePick_run _ _ _ hb hab]
  obtain ⟨a1, a2, a3⟩ := two_push (s := s₃) (o := { cls := .type "slice", data := .fields #[.int ((a : Nat) : Int) u, .int ((b : Nat) : Int) u', .none] }) (l := (items.toList.drop a).take (b - a))
  exact hQ _ _ a1 a2 a3
theorem x_LUp {l : Addr} {vs : List Value} {k : Nat} {u : Tok} {Q : Value → Shared → Prop} (W : Wx B L Mu X s.heap m) (hl : SeqAt s.heap "list" l vs.toArray) (hz : vs.length ≤ sizeLine)
    (h : ∀ r h', Wx B L Mu ((r, "list", (vs.take k).toArray) :: X) h' m → Q (.ref r) { s with heap := h' }) : LUp Q (.ref l) (.int ((k : Nat) : Int) u) s :=
  ⟨l, _, k, u, rfl, rfl, hl, by simpa using hz, fun r h' kk hr x => h r h' (W.add kk hr (by simpa using x))⟩
theorem x_LDn {l : Addr} {vs : List Value} {k : Nat} {u : Tok} {Q : Value → Shared → Prop} (W : Wx B L Mu X s.heap m) (hl : SeqAt s.heap "list" l vs.toArray) (hz : vs.length ≤ sizeLine)
    (h : ∀ r h', Wx B L Mu ((r, "list", (vs.drop k).toArray) :: X) h' m → Q (.ref r) { s with heap := h' }) : LDn Q (.ref l) (.int ((k : Nat) : Int) u) s :=
  ⟨l, _, k, u, rfl, rfl, hl, by simpa using hz, fun r h' kk hr x => h r h' (W.add kk hr (by simpa using x))⟩
theorem x_LMid {l : Addr} {vs : List Value} {a b : Nat} {u u' : Tok} {Q : Value → Shared → Prop} (W : Wx B L Mu X s.heap m) (hl : SeqAt s.heap "list" l vs.toArray) (hz : vs.length ≤ sizeLine) (hab : a ≤ b) (hb : b ≤ vs.length)
    (h : ∀ r h', Wx B L Mu ((r, "list", ((vs.drop a).take (b - a)).toArray) :: X) h' m → Q (.ref r) { s with heap := h' }) : LMid Q (.ref l) (.int ((a : Nat) : Int) u) (.int ((b : Nat) : Int) u') s :=
  ⟨l, _, a, b, u, u', rfl, rfl, rfl, hl, by simpa using hz, hab, by simpa using hb, fun r h' kk hr x => h r h' (W.add kk hr (by simpa using x))⟩

theorem x_max {nn : Nat} {a b : Int} {t u : Tok} {Q : Value → Shared → Prop} (W : Wx B L Mu X s.heap m) (D : AOk nn A) (h : ∀ h' tk v, Wx B L Mu X h' m → Q (.int (max a b) v) { s with heap := h', toks := tk }) :
    wpAny (model prog w) A (call (.builtin "max") [.int a t, .int b u]) Q E s := by
  refine max_two_ints D.1 fun h' tk hk => ?_
  by_cases hba : b > a
  · rw [if_pos hba]
    have e : max a b = b := by omega
    rw [← e]; exact h _ _ _ (W.grow hk)
  · rw [if_neg hba]
    have e : max a b = a := by omega
    have := h h' tk t (W.grow hk)
    rwa [e] at this
theorem x_min {nn : Nat} {a b : Int} {t u : Tok} {Q : Value → Shared → Prop} (W : Wx B L Mu X s.heap m) (D : AOk nn A) (h : ∀ h' tk v, Wx B L Mu X h' m → Q (.int (min a b) v) { s with heap := h', toks := tk }) :
    wpAny (model prog w) A (call (.builtin "min") [.int a t, .int b u]) Q E s := by
  refine min_two_ints D.1 fun h' tk hk => ?_
  by_cases hba : b < a
  · rw [if_pos hba]
    have e : min a b = b := by omega
    have := h h' tk u (W.grow hk)
    rwa [e] at this
  · rw [if_neg hba]
    have e : min a b = a := by omega
    have := h h' tk t (W.grow hk)
    rwa [e] at this

/-- a for over a list or a tuple -/
theorem x_forSeq {env : Env} {R : Result → Shared → Prop} {x : Str} {px : Pos} {body : List Stmt} {l : Addr} {vs : List Value} {c : String} {nn : Nat} (D : AOk nn A) (W : Wx B L Mu X s.heap m) (hc : c = "list" ∨ c = "tuple") (hv : SeqAt s.heap c l vs.toArray)
    (hlM : l ∉ adr Mu) (J : Nat → Heap → Mut → (Str → Option Value) → Prop) (hJ : ∀ {i B B' Mu m}, SeqMono B B' → J i B Mu m → J i B' Mu m)
    (hL : env.locals = L) (hk : env.scope.kind = .function) (hl : env.kindOf x = some .local) (h0 : J 0 B Mu m)
    (turn : ∀ i v B₁ Mu₁ m₁ h₁ tk, i < vs.length → vs[i]? = some v → Sub B B₁ → adr Mu₁ = adr Mu → Wx B₁ L Mu₁ [] h₁ (fun y => if y = x then some v else m₁ y) → J i B₁ Mu₁ m₁ →
      wpAny (model prog w) A (execs body env) (fun f s' => f = .next ∧ ∃ h' tk' B₂ Mu₂ m₂, s' = { s with heap := h', toks := tk' } ∧ Sub B₁ B₂ ∧ adr Mu₂ = adr Mu ∧ Wx B₂ L Mu₂ [] h' m₂ ∧ J (i + 1) B₂ Mu₂ m₂) (fun _ _ => False) { s with heap := h₁, toks := tk })
    (done : ∀ B₁ Mu₁ m₁ h₁ tk, Sub B B₁ → adr Mu₁ = adr Mu → Wx B₁ L Mu₁ [] h₁ m₁ → J vs.length B₁ Mu₁ m₁ → R (.ok .next) { s with heap := h₁, toks := tk }) :
    wpAny (model prog w) A (pyIter (.ref l)) (fun it s₂ => codeAny (model prog w) A (.forLoop (.Name x px) it body [] env) R s₂) E s := by
  refine x_iter D hc hv fun I St h₂ K hS hI hI2 hl2 hwrF hst => ?_
  have hIM : I ∉ adr Mu := fun q => by
    obtain ⟨p, hp, e⟩ := List.mem_map.mp q
    obtain ⟨o, ho⟩ := (W.mu p hp).1.get
    rw [e, hI] at ho; cases ho
  refine x_forLoop (s := { s with heap := h₂ }) K ((W.drop (X' := []) (fun p hp => nomatch hp)).grow hS) J hJ (fun b hb => ?_) (fun b hb => ?_) (fun i h hi b hb => ?_) hst hL hk hl h0 turn done
  · simp only [List.mem_cons, List.not_mem_nil, or_false] at hb
    rcases hb with rfl | rfl
    · refine ⟨fun e => ?_, hIM⟩
      obtain ⟨o, _, _, ho, _⟩ := W.ns
      rw [e, ho] at hI; cases hI
    · exact ⟨fun e => ns_ne W.ns hv e, hlM⟩
  · simp only [List.mem_cons, List.not_mem_nil, or_false] at hb
    rw [hb]; exact none_mono W.keep hI
  · simp only [List.mem_cons, List.not_mem_nil, or_false] at hb
    rw [hb]; exact hwrF i h hi
end

theorem div_lt_div {x y g k : Int} (hg : 0 < g) (hx : g ∣ x) (hy : g ∣ y) : x / g < k * (y / g) ↔ x < k * y := by
  obtain ⟨a, rfl⟩ := hx
  obtain ⟨b, rfl⟩ := hy
  rw [Int.mul_ediv_cancel_left _ (by omega), Int.mul_ediv_cancel_left _ (by omega)]
  have e : k * (g * b) = g * (k * b) := by simp only [Int.mul_left_comm]
  rw [e]
  exact ⟨fun h => Int.mul_lt_mul_of_pos_left h hg, fun h => Int.lt_of_mul_lt_mul_left h (by omega)⟩

/-- by how many doublings 64 comes to a thousand grains: side x / y -/
def Grains (x y : Int) (pw : Nat) : Prop := ∀ k : Nat, (0 < x ∧ 64 * 2 ^ k * x < 1024 * y) ↔ k < pw

theorem Grains.low {x y : Int} {pw : Nat} (hy : 0 < y) (G : Grains x y pw) : Grains (x / (Int.gcd x y : Int)) (y / (Int.gcd x y : Int)) pw := by
  intro k
  have hg : 0 < (Int.gcd x y : Int) := gcd_pos' hy
  have hx1 : (Int.gcd x y : Int) ∣ x := Int.gcd_dvd_left ..
  have hy1 : (Int.gcd x y : Int) ∣ y := Int.gcd_dvd_right ..
  rw [← G k]
  obtain ⟨a, ha⟩ := hx1
  obtain ⟨b, hb⟩ := hy1
  generalize (Int.gcd x y : Int) = g at *
  rw [ha, hb, Int.mul_ediv_cancel_left _ (by omega), Int.mul_ediv_cancel_left _ (by omega)]
  have e1 : 64 * 2 ^ k * (g * a) = g * (64 * 2 ^ k * a) := by simp only [Int.mul_left_comm]
  have e2 : 1024 * (g * b) = g * (1024 * b) := by simp only [Int.mul_left_comm]
  rw [e1, e2]
  constructor
  · rintro ⟨h1, h2⟩
    exact ⟨Int.mul_pos hg h1, Int.mul_lt_mul_of_pos_left h2 hg⟩
  · rintro ⟨h1, h2⟩
    exact ⟨Int.pos_of_mul_pos_right h1 hg, Int.lt_of_mul_lt_mul_left h2 (by omega)⟩

theorem low_ok {x y : Int} (h0 : 0 < y) (ho : IntOk y) : 0 < y / (Int.gcd x y : Int) ∧ IntOk (y / (Int.gcd x y : Int)) := by
  have hg := gcd_pos' (x := x) h0
  have hd : (Int.gcd x y : Int) ∣ y := Int.gcd_dvd_right ..
  have h1 : 0 < y / (Int.gcd x y : Int) := Int.ediv_pos_of_pos_of_dvd h0 (Int.le_of_lt hg) hd
  refine ⟨h1, ?_⟩
  have h2 : y / (Int.gcd x y : Int) ≤ y := Int.ediv_le_self _ (Int.le_of_lt h0)
  generalize y / (Int.gcd x y : Int) = z at *
  clear hd hg
  unfold IntOk at *
  omega
theorem low_cmp {x y xx yy r' : Int} {k p : Nat} (hy0 : 0 < y) (hgk : (0 < x ∧ 64 * 2 ^ k * x < 1024 * y) ↔ k < p) (hxp : 0 < x) (hxx : xx = x * (64 * 2 ^ k)) (hyy : yy = y * 1)
    (hr' : r' = sgn (xx / (Int.gcd xx yy : Int) * 1 - 1024 * (yy / (Int.gcd xx yy : Int)))) : r' < 0 ↔ k < p := by
  rw [hr', sgn_neg, ← hgk]
  have hyy0 : 0 < yy := by omega
  have hg := gcd_pos' (x := xx) hyy0
  have hd := div_lt_div (k := 1024) hg (Int.gcd_dvd_left xx yy) (Int.gcd_dvd_right xx yy)
  rw [Int.mul_one]
  have e3 : 64 * 2 ^ k * x = xx := by rw [hxx]; exact Int.mul_comm _ _
  rw [e3]
  clear hgk e3 hxx hr' hg
  generalize xx / (Int.gcd xx yy : Int) = u at *
  generalize yy / (Int.gcd xx yy : Int) = v at *
  constructor
  · intro q
    exact ⟨hxp, by have := hd.mp (by omega); omega⟩
  · rintro ⟨_, q⟩
    have := hd.mpr (by omega)
    omega
theorem turn_end {i k k0 p p1 p2 : Nat} (c0 : i = 0 → k0 = 0) (c1 : i = 1 → k0 = p1) (i0 : i = 0 → p = p1) (i1 : i = 1 → p = p2) (b1 : k0 ≤ k) (b2 : k ≤ max k0 p) (hkp : ¬ k < p) :
    (i + 1 = 0 → k = 0) ∧ (i + 1 = 1 → k = p1) ∧ (i + 1 = 2 → k = max p1 p2) := by
  have e : k = max k0 p := Nat.le_antisymm b2 (Nat.max_le.mpr ⟨b1, Nat.le_of_not_lt hkp⟩)
  refine ⟨fun q => absurd q (Nat.succ_ne_zero i), fun q => ?_, fun q => ?_⟩
  · have h0 : i = 0 := Nat.succ.inj q
    rw [e, c0 h0, i0 h0, Nat.zero_max]
  · have h1 : i = 1 := Nat.succ.inj q
    rw [e, c1 h1, i1 h1]
theorem le_max_20 {k k0 p : Nat} (h : k ≤ max k0 p) (hk0 : k0 ≤ 20) (hp : p ≤ 20) : k ≤ 20 := Nat.le_trans h (Nat.max_le.mpr ⟨hk0, hp⟩)
theorem sub_step {p k : Nat} (h : k < p) : p - (k + 1) < p - k := by omega
theorem twice {k : Nat} : (2 : Int) * (64 * 2 ^ k) = 64 * 2 ^ (k + 1) := by
  rw [Int.pow_succ, Int.mul_comm (2 : Int), Int.mul_assoc]

/-- what box_grain's points must be along one axis -/
def Axis (qs : List Fr2) (pw : Nat) : Prop :=
  ∀ q1 ∈ qs, ∀ q3 ∈ qs, (∀ q ∈ qs, q1.1 * q.2 ≤ q.1 * q1.2) → (∀ q ∈ qs, q.1 * q3.2 ≤ q3.1 * q.2) → 0 < q3.2 * q1.2 ∧ IntOk (q3.2 * q1.2) ∧ Grains (q3.1 * q1.2 - q1.1 * q3.2) (q3.2 * q1.2) pw

section
variable {prog : Program} {w : World} {A : Around} {E : Value → Shared → Prop} {s : Shared} {B : Heap} {L : Addr} {Mu : Mut} {X : Led} {m mg mb : Str → Option Value} {v : Value} {Q : Value → Shared → Prop}

theorem ok_pow {k : Nat} (h : k ≤ 20) : IntOk (64 * 2 ^ k) := by
  have h1 : 2 ^ k ≤ 2 ^ 20 := Nat.pow_le_pow_right (by decide) h
  have e : ((2 ^ k : Nat) : Int) = (2 : Int) ^ k := by simp
  unfold IntOk
  rw [← e]
  generalize 2 ^ k = n at h1
  omega

set_option maxHeartbeats 4000000 in
theorem box_grain_spec {l : Addr} {vs : List Value} {sgs : List Sg} {ps : List Pt2} {p1 p2 : Nat} (W : Wx B L Mu X s.heap m) (G : Gl mg mb B) (D : AOk 5 A) (hv : mg "box_grain" = some v) (hl : SeqAt s.heap "list" l vs.toArray)
    (hlen : vs.length = sgs.length) (hs : ∀ (i : Nat) v, vs[i]? = some v → ∃ a g, v = .ref a ∧ sgs[i]? = some g ∧ SgAt s.heap a g) (hq : Pts s.heap (sgs.map Sg.pts).flatten ps) (hn : ps.length ≤ 1000)
    (hok : ∀ p ∈ ps, IntOk p.1.1 ∧ 0 < p.1.2 ∧ IntOk p.2.1 ∧ 0 < p.2.2) (hok2 : ∀ p ∈ ps, IntOk p.1.2 ∧ IntOk p.2.2)
    (hx : Axis (ps.map (·.1)) p1) (hy : Axis (ps.map (·.2)) p2) (hp1 : p1 ≤ 20) (hp2 : p2 ≤ 20)
    (h : ∀ r h' tk u, (ps = [] → r = 64) → (ps ≠ [] → r = 64 * 2 ^ (max p1 p2)) → Wx B L Mu X h' m → Q (.int r u) { s with heap := h', toks := tk }) : wpAny (model prog w) A (call v [.ref l]) Q E s := by
  have fn := G.box_grain
  conv at fn => (arg 4; whnf)
  conv at fn => (arg 5; whnf)
  conv at fn => (arg 6; whnf)
  refine enterP fn W G D hv (by intros; rfl) (by decide) (by intro x hx; revert x; exact locs rfl) (by rfl) (by rfl) (by rfl) ?_
  intro a' cdv L' h₁ W₁ G₁ D₁
  dsimp only [List.map, List.zip, List.zipWith, List.length] at W₁ ⊢
  have hfl : (sgs.map Sg.pts).flatten.length ≤ 1000 := by rw [hq.1]; exact hn
  repeat kbo_bools
  kln_le
  repeat kbo_bools
  refine' x_CBA2 (fs := sgs.map Sg.pts) D₁ W₁ ?hL ?hke ?hy (W₁.old hl) ?hs1 ?hcell ?hkind ?hx ?hx1 ?hdb ?hlen hfl ?turn ?fin
  case hL => rfl
  case hke => rfl
  case hy => rfl
  case hs1 => intro _ _; rfl
  case hcell => decide
  case hkind => rfl
  case hx => rfl
  case hx1 => rfl
  case hdb => decide
  case hlen => rw [List.length_map]; exact hlen
  · intro i v z B₁ C D' ys m₁ h₂ tk hiv hz hB hO W₂
    obtain ⟨a, g, rfl, hg, hga⟩ := hs i v hiv
    rw [List.getElem?_map, hg] at hz
    obtain rfl : g.pts = z := by simpa using hz
    have G₂ := G₁.keeps hB
    obtain ⟨f1, hf1, if1⟩ := G₂.segment_points.name'
    have hgl : g.pts.length ≤ 1000 := by
      have := flat_len (sgs.map Sg.pts) (i + 1)
      rw [flat_take (z := g.pts) (by rw [List.getElem?_map, hg]; rfl), List.length_append] at this
      omega
    repeat kbo_bools
    refine segment_points_spec W₂ G₂ (D₁.less (by decide)) hf1 ((hga.keeps (SeqMono.of hB)).keeps (SeqMono.of W₂.keep)) hgl ?_
    intro r h₃ tk₃ W₃
    obtain ⟨B₂, hBB, W₄, hin⟩ := W₃.rebase
    have hr := W₃.seq List.mem_cons_self
    refine ⟨r, h₃, tk₃, B₂, _, rfl, rfl, hBB, W₄, ?_⟩
    obtain ⟨o, ho, hr'⟩ := hr
    exact ⟨o, hin _ _ ho (ns_ne W₃.ns ⟨o, ho, hr'⟩) (by simpa using (W₃.led _ List.mem_cons_self).2.1), hr'⟩
  intro Dp h₂ tk B₂ hB2 hO2 W₂ hDp hDn
  have G₂ := G₁.keeps hB2
  obtain ⟨tg, hgrain⟩ := G₂.grain
  repeat kbo_bools
  rename_i r₀ h₃ W₃ hr₀
  refine x_eq_nil D₁ (W₃.old hDp) (W₃.seq List.mem_cons_self) ?_
  repeat kbo_bools
  have hle : (sgs.map Sg.pts).flatten.length = ps.length := hq.1
  cases hps : (sgs.map Sg.pts).flatten with
  | nil =>
    have hp0 : ps = [] := List.eq_nil_of_length_eq_zero (by rw [← hle, hps]; rfl)
    rw [if_pos (by rfl)]
    repeat kbo_bools
    exact h _ _ _ _ (fun _ => rfl) (fun q => absurd hp0 q) (W.grow fun b o e => W₃.keep _ _ (hB2 _ _ e))
  | cons v0 vr =>
    have hp0 : ps ≠ [] := fun e => by rw [e, hps] at hle; simp at hle
    rw [if_neg (by simp)]
    rw [hps] at hDp hq
    obtain ⟨f1, hf1, if1⟩ := G₂.point_box.name'
    obtain ⟨f2, hf2, if2⟩ := G₂.minus.name'
    repeat kbo_bools
    refine point_box_spec W₃ G₂ (D₁.less (by decide)) hf1 (W₃.old hDp) (fun b o e => W₃.keep _ _ (hB2 _ _ e)) hq (by simp) (by rw [hps] at hfl; exact hfl) hok ?_
    rintro r r1 r2 r3 r4 q1 q2 q3 q4 h₅ tk₅ ⟨a1, t1, u1, rfl, A1⟩ ⟨a2, t2, u2, rfl, A2⟩ ⟨a3, t3, u3, rfl, A3⟩ ⟨a4, t4, u4, rfl, A4⟩ ⟨P1, hP1, e1⟩ ⟨P2, hP2, e2⟩ ⟨P3, hP3, e3⟩ ⟨P4, hP4, e4⟩ l1 l2 l3 l4 W₅
    subst e1 e2 e3 e4
    obtain ⟨x0, x1, x2⟩ := hx _ (List.mem_map_of_mem hP1) _ (List.mem_map_of_mem hP3) (fun q hq => by obtain ⟨p, hp, rfl⟩ := List.mem_map.mp hq; exact l1 p hp) (fun q hq => by obtain ⟨p, hp, rfl⟩ := List.mem_map.mp hq; exact l3 p hp)
    obtain ⟨y0, y1, y2⟩ := hy _ (List.mem_map_of_mem hP2) _ (List.mem_map_of_mem hP4) (fun q hq => by obtain ⟨p, hp, rfl⟩ := List.mem_map.mp hq; exact l2 p hp) (fun q hq => by obtain ⟨p, hp, rfl⟩ := List.mem_map.mp hq; exact l4 p hp)
    have A1' := A1.keeps hB2
    have A2' := A2.keeps hB2
    have A3' := A3.keeps hB2
    have A4' := A4.keeps hB2
    repeat kbo_bools
    refine wpAny_For ?_
    repeat kbo_bools
    rename_i h₆ W₆
    refine minus_spec W₆ G₂ (D₁.less (by decide)) hf2 (W₆.old A3') (W₆.old A1') (.inl (hok _ hP3).1) (.inl (hok _ hP1).1) (.inl (hok2 _ hP3).1) x0 x1 ?_
    intro s1 h₇ tk₇ v1 v2 x y hxe hye W₇
    repeat kbo_bools
    refine minus_spec W₇ G₂ (D₁.less (by decide)) hf2 (W₇.old A4') (W₇.old A2') (.inl (hok _ hP4).2.2.1) (.inl (hok _ hP2).2.2.1) (.inl (hok2 _ hP4).2) y0 y1 ?_
    intro s2 h₈ tk₈ v3 v4 x' y' hxe' hye' W₈
    repeat kbo_bools
    rename_i r₉ h₉ W₉
    obtain ⟨B₃, hBB, W₁₀, hin⟩ := W₉.rebase
    have G₃ := G₂.keeps hBB
    have hT := W₉.carry hin List.mem_cons_self
    have hS2 := W₉.carry hin (List.mem_cons_of_mem _ List.mem_cons_self)
    have hS1 := W₉.carry hin (List.mem_cons_of_mem _ (List.mem_cons_of_mem _ List.mem_cons_self))
    have gx : Grains (x / (Int.gcd x y : Int)) (y / (Int.gcd x y : Int)) p1 := by subst hxe hye; exact x2.low x0
    have gy : Grains (x' / (Int.gcd x' y' : Int)) (y' / (Int.gcd x' y' : Int)) p2 := by subst hxe' hye'; exact y2.low y0
    have okx := low_ok (x := x) (y := y) (hye ▸ x0) (hye ▸ x1)
    have oky := low_ok (x := x') (y := y') (hye' ▸ y0) (hye' ▸ y1)
    have items : ∀ (i : Nat) (v : Value), ([Value.ref s1, Value.ref s2] : List Value)[i]? = some v → ∃ a t u x y p, v = .ref a ∧ SeqAt B₃ "tuple" a #[.int x t, .int y u] ∧ 0 < y ∧ IntOk y ∧ Grains x y p ∧ p ≤ 20 ∧ (i = 0 → p = p1) ∧ (i = 1 → p = p2) := fun i v e =>
      two_at (P := fun i v => ∃ a t u x y p, v = .ref a ∧ SeqAt B₃ "tuple" a #[.int x t, .int y u] ∧ 0 < y ∧ IntOk y ∧ Grains x y p ∧ p ≤ 20 ∧ (i = 0 → p = p1) ∧ (i = 1 → p = p2)) e
        ⟨s1, _, _, _, _, p1, rfl, hS1, okx.1, okx.2, gx, hp1, fun _ => rfl, fun q => absurd q (by decide)⟩
        ⟨s2, _, _, _, _, p2, rfl, hS2, oky.1, oky.2, gy, hp2, fun q => absurd q (by decide), fun _ => rfl⟩
    refine' x_forSeq D₁ W₁₀ (.inr rfl) (W₁₀.old hT) (by simp) (fun i _ _ m => ∃ (k : Nat) (t : Tok), m "found" = some (.int (64 * 2 ^ k) t) ∧ k ≤ 20 ∧ (i = 0 → k = 0) ∧ (i = 1 → k = p1) ∧ (i = 2 → k = max p1 p2)) (fun _ x => x) ?gL ?gk ?gl ?g0 ?gturn ?gdone
    case gL => rfl
    case gk => rfl
    case gl => rfl
    case g0 => exact ⟨0, tg, rfl, by decide, fun _ => rfl, fun q => absurd q (by decide), fun q => absurd q (by decide)⟩
    case gturn =>
      rintro i v B₄ Mu₄ m₄ h₁₁ tk₁₁ hi hiv hB4 hM4 W₁₁ ⟨k0, t0, hm0, hk0, c0, c1, c2⟩
      obtain ⟨a, t, u, x, y, p, rfl, ha, hy0, hyo, hgr, hp, i0, i1⟩ := items i v hiv
      have hMu : Mu₄ = [] := by simpa using hM4
      subst hMu
      have G₄ := G₃.keeps hB4
      obtain ⟨la, lt, lu, hl1, hl2⟩ := G₄.leasts
      obtain ⟨f3, hf3, if3⟩ := G₄.compare.name'
      obtain ⟨f4, hf4, if4⟩ := G₄.times.name'
      have ha4 := ha.keeps hB4
      repeat kbo_bools
      refine x_while (fun n s' => ∃ h' tk k t X' m', s' = { s with heap := h', toks := tk } ∧ Wx B₄ L' [] X' h' m' ∧ m' "found" = some (.int (64 * 2 ^ k) t) ∧ m' "side" = some (.ref a) ∧ k0 ≤ k ∧ k ≤ max k0 p ∧ n = p - k) ?_ (p - k0) ?_
      · rintro n s' ⟨h₁₂, tk₁₂, k, tt, X', m', rfl, W₁₂, e1, e2, b1, b2, hn⟩
        have hk20 := le_max_20 b2 hk0 hp
        have okk := ok_pow hk20
        have hgk := hgr k
        have ok1 : IntOk 1 := by unfold IntOk; decide
        have ok2 : IntOk 2 := by unfold IntOk; decide
        have ok1024 : IntOk 1024 := by unfold IntOk; decide
        repeat kbo_bools
        refine x_if (fun hxp => ?_) (fun hxp => ?_)
        · repeat kbo_bools
          rename_i r₁ h₁₃ W₁₃
          refine times_spec W₁₃ G₄ (D₁.less (by decide)) hf4 (W₁₃.old ha4) (W₁₃.seq List.mem_cons_self) (.inr okk) (.inr ok1) (by omega) (by rw [Int.mul_one]; exact hyo) ?_
          intro r₂ h₁₄ tk₁₄ w1 w2 xx yy hxx hyy W₁₄
          repeat kbo_bools
          refine compare_spec W₁₄ G₄ (D₁.less (by decide)) hf3 (W₁₄.seq List.mem_cons_self) (W₁₄.old hl2) (.inr ok1) (.inl ok1024) ?_
          intro r' h₁₅ tk₁₅ u' hr' W₁₅
          repeat kbo_bools
          have hcmp : r' < 0 ↔ k < p := low_cmp hy0 hgk hxp hxx hyy hr'
          refine x_if (fun hlt => ?_) (fun hlt => ?_)
          · repeat kbo_bools
            rename_i h₁₆ W₁₆
            have hkp := hcmp.mp hlt
            refine' ⟨p - (k + 1), hn ▸ sub_step hkp, h₁₆, _, k + 1, _, _, _, rfl, W₁₆, ?_, by exact e2, Nat.le_succ_of_le b1, Nat.le_trans (Nat.succ_le_of_lt hkp) (Nat.le_max_right ..), rfl⟩
            show some (Value.int (2 * (64 * 2 ^ k)) _) = _
            rw [twice]
          · repeat kbo_bools
            have hkp : ¬ k < p := fun q => hlt (hcmp.mpr q)
            exact ⟨rfl, h₁₅, _, B₄, [], _, rfl, fun _ _ e => e, rfl, W₁₅.drop (fun p hp => nomatch hp), k, tt, e1, hk20, turn_end c0 c1 i0 i1 b1 b2 hkp⟩
        · repeat kbo_bools
          have hkp : ¬ k < p := fun q => hxp (hgk.mpr q).1
          exact ⟨rfl, h₁₂, _, B₄, [], _, rfl, fun _ _ e => e, rfl, W₁₂.drop (fun p hp => nomatch hp), k, tt, e1, hk20, turn_end c0 c1 i0 i1 b1 b2 hkp⟩
      · exact ⟨_, _, k0, t0, _, _, rfl, W₁₁, hm0, rfl, Nat.le_refl _, Nat.le_max_left .., rfl⟩
    case gdone =>
      rintro B₄ Mu₄ m₄ h₁₁ tk₁₁ hB4 hM4 W₁₁ ⟨k, t, hm, hk, c0, c1, c2⟩
      repeat kbo_bools
      refine h _ _ _ _ (fun q => absurd q hp0) (fun _ => by rw [c2 rfl]) (W.grow fun b o e => W₁₁.keep _ _ (hB4 _ _ (hBB _ _ (hB2 _ _ e))))
end

/-- the list that the law draws from -/
def IsSrc (it : Array Value) : Prop := ∃ g t l u, it = ([.int g t, .int l u] : List Value).toArray

section
variable {prog : Program} {w : World} {A : Around} {E : Value → Shared → Prop} {s : Shared} {B : Heap} {L : Addr} {Mu : Mut} {X : Led} {m mg mb : Str → Option Value} {v : Value} {Q : Value → Shared → Prop}

theorem x_set {src : Addr} {l : List Value} {k : Int} {t : Tok} {x : Value} {Q : Unit → Shared → Prop} (W : Wx B L ((src, l.toArray) :: Mu) X s.heap m) (h0 : 0 ≤ k) (h1 : k < l.length) (h2 : k < 2 ^ 63)
    (h : ∀ h', Wx B L ((src, (l.set k.toNat x).toArray) :: Mu) X h' m → Q () { s with heap := h' }) : wpAny (model prog w) A (setItem (.ref src) (.int k t) x) Q E s := by
  refine wpAny_setItem_list W.src.isList h0 h2 (by simpa using h1) fun h' hl hs => h h' (W.turn (fun b o hb e => (hs.2 b hb).trans e) ?_)
  have : SeqAt h' "list" src (l.toArray.setIfInBounds k.toNat x) := hl
  simpa using this

set_option maxHeartbeats 2000000 in
theorem take_spec {src : Addr} {it : Array Value} {top : Int} {tt : Tok} (W : Wx B L ((src, it) :: Mu) X s.heap m) (G : Gl mg mb B) (D : AOk 1 A) (hv : mg "_law_take" = some v) (hit : IsSrc it) (htop : 0 < top) (ot : IntOk top)
    (h : ∀ r h' tk u it', 0 ≤ r → r < top → IsSrc it' → Wx B L ((src, it') :: Mu) X h' m → Q (.int r u) { s with heap := h', toks := tk }) : wpAny (model prog w) A (call v [.ref src, .int top tt]) Q E s := by
  have fn := G.take
  conv at fn => (arg 4; whnf)
  conv at fn => (arg 5; whnf)
  conv at fn => (arg 6; whnf)
  refine enterS fn W G D hv (by intros; rfl) (by decide) (by intro x hx; revert x; exact locs rfl) (by rfl) (by rfl) (by rfl) ?_
  intro a' cdv L' h₁ W₁ G₁ D₁
  dsimp only [List.map, List.zip, List.zipWith, List.length] at W₁ ⊢
  obtain ⟨g, t, l, u, rfl⟩ := hit
  have ok1 : IntOk 39373 := by unfold IntOk; decide
  have ok2 : IntOk 32 := by unfold IntOk; decide
  repeat kbo_bools
  repeat kbo_bools
  refine x_if (fun hp => ?_) (fun hp => ?_)
  · repeat kbo_bools
    rename_i h₂ W₂
    refine x_set W₂ (by decide) (by simp) (by decide) fun h₃ W₃ => ?_
    repeat kbo_bools
    exact h _ _ _ _ _ (Int.emod_nonneg _ (by omega)) (Int.emod_lt_of_pos _ htop) ⟨_, _, _, _, rfl⟩ (W.backS W₃)
  · repeat kbo_bools
    refine x_set W₁ (by decide) (by simp) (by decide) fun h₃ W₃ => ?_
    have h0 := Int.emod_nonneg (l * 39373 + 7) (show (2147483647 : Int) ≠ 0 by decide)
    have h2 := Int.emod_lt_of_pos (l * 39373 + 7) (show (0 : Int) < 2147483647 by decide)
    have ok3 : IntOk ((l * 39373 + 7) % 2147483647) := by unfold IntOk; omega
    repeat kbo_bools
    exact h _ _ _ _ _ (Int.emod_nonneg _ (by omega)) (Int.emod_lt_of_pos _ htop) ⟨_, _, _, _, rfl⟩ (W.backS W₃)

end

section
variable {prog : Program} {w : World} {A : Around} {E : Value → Shared → Prop} {s : Shared} {B : Heap} {L : Addr} {Mu : Mut} {X : Led} {m mg mb : Str → Option Value} {v : Value} {Q : Value → Shared → Prop}

theorem seq_hide {h : Heap} {c : String} {a src : Addr} {items : Array Value} (x : SeqAt h c a items) (hne : a ≠ src) : SeqAt (hideAll h [src]) c a items := let ⟨o, ho, r⟩ := x; ⟨o, hideAll_get _ ho (by simpa using hne), r⟩

set_option maxHeartbeats 2000000 in
theorem one_spec {src a : Addr} {it : Array Value} {vs : List Value} (W : Wx B L ((src, it) :: Mu) X s.heap m) (G : Gl mg mb B) (D : AOk 2 A) (hv : mg "_law_one" = some v) (hit : IsSrc it) (ha : SeqAt s.heap "list" a vs.toArray) (hne : a ≠ src) (hvs : vs ≠ [])
    (hlen : vs.length ≤ 1000)
    (h : ∀ x h' tk it', x ∈ vs → IsSrc it' → Wx B L ((src, it') :: Mu) X h' m → Q x { s with heap := h', toks := tk }) : wpAny (model prog w) A (call v [.ref src, .ref a]) Q E s := by
  have fn := G.one
  conv at fn => (arg 4; whnf)
  conv at fn => (arg 5; whnf)
  conv at fn => (arg 6; whnf)
  refine enterS fn W G D hv (by intros; rfl) (by decide) (by intro x hx; revert x; exact locs rfl) (by rfl) (by rfl) (by rfl) ?_
  intro a' cdv L' h₁ W₁ G₁ D₁
  dsimp only [List.map, List.zip, List.zipWith, List.length] at W₁ ⊢
  have ha1 := seq_hide ha hne
  obtain ⟨f1, hf1, if1⟩ := G₁.take.name'
  obtain ⟨g1, g2, g3, g4, g5, g6, g7⟩ := G₁.no
  have hpos : 0 < vs.length := List.length_pos_iff.mpr hvs
  repeat kbo_bools
  refine x_len_list (W₁.old ha1) (by omega) ?_
  intro u tk
  repeat kbo_bools
  refine take_spec W₁ G₁ (D₁.less (by decide)) hf1 hit (by omega) (by unfold IntOk; omega) ?_
  intro r h₂ tk₂ u₂ it₂ hr0 hr1 hit₂ W₂
  have hrn : r.toNat < vs.length := by omega
  repeat kbo_bools
  refine x_list_at (W₂.old ha1) hr0 (by omega) (List.getElem?_eq_getElem hrn) ?_ (by with_unfolding_all rfl)
  repeat kbo_bools
  exact h _ _ _ _ (List.getElem_mem _) hit₂ (W.backS W₂)

/-- a side of a box: its length is S / P, and 64 comes to a thousand grains by pw doublings -/
def Side (S P : Int) (pw : Nat) : Prop := (pw = 0 ∧ P = 1 ∧ (S = 0 ∨ (16 ≤ S ∧ S ≤ 115))) ∨ (S = 16 ∧ 1 ≤ pw ∧ pw ≤ 16 ∧ 2 ^ (pw - 1) < P ∧ P ≤ 2 ^ pw)

set_option maxHeartbeats 4000000 in
theorem side_spec {src : Addr} {it : Array Value} (W : Wx B L ((src, it) :: Mu) X s.heap m) (G : Gl mg mb B) (D : AOk 3 A) (hv : mg "_law_side" = some v) (hit : IsSrc it)
    (h : ∀ r h' tk it' S P pw t1 t2 t3, Side S P pw → IsSrc it' → Wx B L ((src, it') :: Mu) ((r, "tuple", #[.int S t1, .int P t2, .int (pw : Int) t3]) :: X) h' m → Q (.ref r) { s with heap := h', toks := tk }) :
    wpAny (model prog w) A (call v [.ref src]) Q E s := by
  have fn := G.side
  conv at fn => (arg 4; whnf)
  conv at fn => (arg 5; whnf)
  conv at fn => (arg 6; whnf)
  refine enterS fn W G D hv (by intros; rfl) (by decide) (by intro x hx; revert x; exact locs rfl) (by rfl) (by rfl) (by rfl) ?_
  intro a' cdv L' h₁ W₁ G₁ D₁
  dsimp only [List.map, List.zip, List.zipWith, List.length] at W₁ ⊢
  obtain ⟨f1, hf1, if1⟩ := G₁.take.name'
  obtain ⟨f2, hf2, if2⟩ := G₁.one.name'
  repeat kbo_bools
  refine take_spec W₁ G₁ (D₁.less (by decide)) hf1 hit (by decide) (by unfold IntOk; decide) ?_
  intro r1 h₂ tk₂ u₂ it₂ hr0 hr1 hit₂ W₂
  repeat kbo_bools
  refine take_spec W₂ G₁ (D₁.less (by decide)) hf1 hit₂ (by decide) (by unfold IntOk; decide) ?_
  intro r2 h₃ tk₃ u₃ it₃ hr2 hr3 hit₃ W₃
  repeat kbo_bools
  rename_i rl h₄ W₄ hrn
  have hne₁ : rl ≠ src := by simpa using (W₄.led _ List.mem_cons_self).2.1
  refine one_spec W₄ G₁ (D₁.less (by decide)) hf2 hit₃ (W₄.seq List.mem_cons_self) hne₁ (by simp) (by simp) ?_
  intro x h₅ tk₅ it₅ hx hit₅ W₅
  obtain ⟨p, tp, rfl, hp0, hp16⟩ : ∃ p t, x = .int p t ∧ 0 ≤ p ∧ p ≤ 16 := by
    simp only [List.mem_cons, List.not_mem_nil, or_false] at hx
    rcases hx with rfl | rfl | rfl
    · exact ⟨_, _, rfl, by omega, by omega⟩
    · exact ⟨_, _, rfl, by omega, by omega⟩
    · exact ⟨_, _, rfl, by omega, by omega⟩
  repeat kbo_bools
  rename_i h₆ W₆
  refine x_ife (fun hpz => ?_) (fun hpz => ?_)
  · repeat kbo_bools
    refine take_spec W₆ G₁ (D₁.less (by decide)) hf1 hit₅ (by decide) (by unfold IntOk; decide) ?_
    intro r3 h₇ tk₇ u₇ it₇ hr4 hr5 hit₇ W₇
    repeat kbo_bools
    rename_i rl2 h₈ W₈ hrn2
    have hne₂ : rl2 ≠ src := by simpa using (W₈.led _ List.mem_cons_self).2.1
    refine one_spec W₈ G₁ (D₁.less (by decide)) hf2 hit₇ (W₈.seq List.mem_cons_self) hne₂ (by simp) (by simp) ?_
    intro x h₉ tk₉ it₉ hx hit₉ W₉
    obtain ⟨S, ts, rfl, hS⟩ : ∃ S t, x = .int S t ∧ (S = 0 ∨ (16 ≤ S ∧ S ≤ 115)) := by
      simp only [List.mem_cons, List.not_mem_nil, or_false] at hx
      rcases hx with rfl | rfl | rfl
      · exact ⟨_, _, rfl, by omega⟩
      · exact ⟨_, _, rfl, by omega⟩
      · exact ⟨_, _, rfl, by omega⟩
    repeat kbo_bools
    rename_i rr h₁₀ W₁₀
    exact h rr _ _ _ S 1 0 _ _ _ (.inl ⟨rfl, rfl, hS⟩) hit₉ (W.backS1 W₁₀ List.mem_cons_self)
  · repeat kbo_bools
    refine pow_int_small (by omega) (by omega) (by decide) ?_
    obtain ⟨k, hk⟩ : ∃ k : Nat, p = (k : Int) + 1 := ⟨(p - 1).toNat, by omega⟩
    have hk15 : k ≤ 15 := by omega
    have ek : (p - 1).toNat = k := by omega
    rw [ek]
    have hn1 : 2 ^ k ≤ 2 ^ 15 := Nat.pow_le_pow_right (by decide) hk15
    have hn0 : 0 < 2 ^ k := Nat.pow_pos (by decide)
    have e2 : ((2 ^ k : Nat) : Int) = (2 : Int) ^ k := by simp
    have e3 : ((2 : Int)) ^ (k + 1) = 2 ^ k * 2 := Int.pow_succ ..
    obtain ⟨low, hlow⟩ : ∃ low : Int, (2 : Int) ^ k = low := ⟨_, rfl⟩
    rw [hlow] at e2 e3 ⊢
    have hl0 : 0 < low := by omega
    have hl1 : low ≤ 32768 := by omega
    have okl : IntOk low := by unfold IntOk; omega
    have ok2 : IntOk 2 := by unfold IntOk; decide
    repeat kbo_bools
    rename_i h₆ W₆
    refine take_spec W₆ G₁ (D₁.less (by decide)) hf1 hit₅ hl0 okl ?_
    intro r3 h₇ tk₇ u₇ it₇ hr4 hr5 hit₇ W₇
    repeat kbo_bools
    rename_i rl2 h₈ W₈ hrn2
    have hne₂ : rl2 ≠ src := by simpa using (W₈.led _ List.mem_cons_self).2.1
    refine one_spec W₈ G₁ (D₁.less (by decide)) hf2 hit₇ (W₈.seq List.mem_cons_self) hne₂ (by simp) (by simp) ?_
    intro x h₉ tk₉ it₉ hx hit₉ W₉
    obtain ⟨P, ts, rfl, hP⟩ : ∃ P t, x = .int P t ∧ low < P ∧ P ≤ 2 * low := by
      simp only [List.mem_cons, List.not_mem_nil, or_false] at hx
      rcases hx with rfl | rfl | rfl
      · exact ⟨_, _, rfl, by omega, by omega⟩
      · exact ⟨_, _, rfl, by omega, by omega⟩
      · exact ⟨_, _, rfl, by omega, by omega⟩
    repeat kbo_bools
    rename_i rr h₁₀ W₁₀
    subst hk
    exact h rr _ _ _ 16 P (k + 1) _ _ _ (.inr ⟨rfl, by omega, by omega, by rw [Nat.add_sub_cancel, hlow]; exact hP.1, by rw [e3]; omega⟩) hit₉ (W.backS1 W₁₀ List.mem_cons_self)
end

section
variable {prog : Program} {w : World} {A : Around} {E : Value → Shared → Prop} {s : Shared} {B : Heap} {L : Addr} {Mu : Mut} {X : Led} {m mg mb : Str → Option Value} {v : Value} {Q : Value → Shared → Prop}

set_option maxHeartbeats 4000000 in
theorem pool_spec {a : Addr} {vs : List Value} (W : Wx B L Mu X s.heap m) (G : Gl mg mb B) (D : AOk 1 A) (hv : mg "_law_pool" = some v) (ha : SeqAt s.heap "list" a vs.toArray) (hlen : vs.length ≤ 1000) (hint : ∀ x ∈ vs, ∃ n t, x = Value.int n t)
    (h : ∀ r h' tk it', IsSrc it' → Wx B L Mu ((r, "list", it') :: X) h' m → Q (.ref r) { s with heap := h', toks := tk }) :
    wpAny (model prog w) A (call v [.ref a]) Q E s := by
  have fn := G.pool
  conv at fn => (arg 4; whnf)
  conv at fn => (arg 5; whnf)
  conv at fn => (arg 6; whnf)
  refine enterP fn W G D hv (by intros; rfl) (by decide) (by intro x hx; revert x; exact locs rfl) (by rfl) (by rfl) (by rfl) ?_
  intro a' cdv L' h₁ W₁ G₁ D₁
  dsimp only [List.map, List.zip, List.zipWith, List.length] at W₁ ⊢
  obtain ⟨g1, g2, g3, g4, g5, g6, g7⟩ := G₁.no
  repeat kbo_bools
  refine x_len_list (W₁.old ha) (by omega) ?_
  intro u tk
  repeat kbo_bools
  have okM : IntOk 2147483629 := by unfold IntOk; decide
  have okN : IntOk 48271 := by unfold IntOk; decide
  refine x_if (fun hp => ?_) (fun hp => ?_)
  · obtain ⟨v0, vr, rfl⟩ : ∃ v0 vr, vs = v0 :: vr := by
      cases vs with
      | nil => simp at hp
      | cons v0 vr => exact ⟨v0, vr, rfl⟩
    obtain ⟨n, t, rfl⟩ := hint _ List.mem_cons_self
    repeat kbo_bools
    refine x_max (by assumption) D₁ fun h₂ tk₂ gu W₂ => ?_
    generalize max n (-1 - n) = gr
    repeat kbo_bools
    refine wpAny_Compare1 ?_
    repeat kbo_bools
    refine pow_int_small (by decide) (by decide) (by decide) ?_
    repeat kbo_bools
    refine call_int_bool ?_
    refine x_mul (.inr (by split <;> (unfold IntOk; decide))) ?_
    repeat kbo_bools
    rename_i rr h₅ W₅ _
    exact h _ _ _ _ ⟨_, _, _, _, rfl⟩ (W.backP1 W₅ List.mem_cons_self)
  · repeat kbo_bools
    refine x_max (by assumption) D₁ fun h₂ tk₂ gu W₂ => ?_
    generalize max 0 (-1 - 0) = gr
    repeat kbo_bools
    refine wpAny_Compare1 ?_
    repeat kbo_bools
    refine pow_int_small (by decide) (by decide) (by decide) ?_
    repeat kbo_bools
    refine call_int_bool ?_
    refine x_mul (.inr (by split <;> (unfold IntOk; decide))) ?_
    repeat kbo_bools
    rename_i rr h₅ W₅ _
    exact h _ _ _ _ ⟨_, _, _, _, rfl⟩ (W.backP1 W₅ List.mem_cons_self)
end

section
variable {prog : Program} {w : World} {A : Around} {E : Value → Shared → Prop} {env : Env} {B : Heap} {L : Addr} {Mu : Mut} {X : Led} {m : Str → Option Value} {s₂ : Shared}

theorem comp_coreC {elt iter : Expr} {x : Str} {px : Pos} {scope : Scope} {cl : List (Str × Addr)} {pos : Pos} {I : Addr} {fp wr : List Addr} {n : Nat} {P : Nat → Value → Prop} {St : Nat → Heap → Prop}
    (K : Walks prog w A I fp wr n P St) (W : Wx B L Mu X s₂.heap m)
    (J : Nat → Heap → Mut → List Value → Prop) (hJ : ∀ {i B B' Mu ys}, SeqMono B B' → J i B Mu ys → J i B' Mu ys)
    (hfp : ∀ b ∈ fp, b < s₂.heap.objs.size ∧ b ∉ adr Mu) (hwr : ∀ b ∈ wr, B.get? b = none) (hwrF : ∀ i h, St i h → ∀ b ∈ wr, ∀ c items, ¬ SeqAt h c b items) (hst : St 0 s₂.heap)
    (hcf : ∀ n, cellsFrom n scope.names cl = (x, n) :: cl) (hpc : ∀ h, pushCells h scope.names = h.push { cls := .type "cell", data := .cell none }) (hkind : scope.kind = .function) (hx : ∀ cl' C, (compEnvC scope cl' C env).kindOf x = some .cell) (h0 : J 0 B Mu []) (hn : n ≤ 1000)
    (turn : ∀ i v B₁ C cS D Mu₁ ys (m₁ : Str → Option Value) h₁ tk, i < n → P i v → Sub B B₁ → Old s₂.heap (adr Mu ++ wr) B₁ → adr Mu₁ = adr Mu → Wx B₁ C (Mu₁ ++ [(D, ys.toArray)]) [] h₁ m₁ → B₁.IsCell cS (some v) → ys.length = i → J i B₁ Mu₁ ys →
      wpAny (model prog w) A (eval elt (compEnvC scope ((x, cS) :: cl) C env)) (fun y s' => ∃ h' tk' B₂ Mu₂ m₂, s' = { s₂ with heap := h', toks := tk' } ∧ Sub B₁ B₂ ∧ adr Mu₂ = adr Mu ∧ Wx B₂ C (Mu₂ ++ [(D, ys.toArray)]) [] h' m₂ ∧ J (i + 1) B₂ Mu₂ (ys ++ [y]))
        (fun _ _ => False) { s₂ with heap := h₁, toks := tk })
    {RR : Value → Addr → Result → Shared → Prop}
    (done : ∀ C D h' tk B₁ Mu₁ ys m', s₂.heap.get? D = none → s₂.heap.get? C = none → Sub B B₁ → Old s₂.heap (adr Mu ++ wr) B₁ → adr Mu₁ = adr Mu → Wx B₁ C (Mu₁ ++ [(D, ys.toArray)]) [] h' m' → ys.length = n → J n B₁ Mu₁ ys →
      RR (.ref D) C (.ok .next) { s₂ with heap := h', toks := tk }) :
    wpAny (model prog w) A (newList []) (fun acc s₃ => wpAny (model prog w) A (newFunctionEnv scope env.globals cl [] env.qual none .none (some env)) (fun cenv s₄ =>
      codeAny (model prog w) A (.compStart (.ListComp elt [⟨.Name x px, iter, [], 0⟩] scope pos) 0 (.ref I) acc { cenv with scope := relabel scope env }) (RR acc cenv.locals) s₄) E s₃) E s₂ := by
  refine wpAny_newObj_type ?_
  generalize hH2 : s₂.heap.push { cls := .type "list", dict := none, data := .seq ([] : List Value).toArray } = H2
  simp only [newFunctionEnv, Option.isSome_some, if_true]
  refine wpAny_bind (wpAny_alloc ?_)
  refine wpAny_bind (wpAny_layCells _ (fun name kind cells => by cases hkc : kind == NameKind.cell <;> simp [hkc]) _ _ _ _ ?_)
  rw [List.forIn_nil]
  refine wpAny_bind (wpAny_pure (wpAny_pure ?_))
  have hC : H2.objs.size = s₂.heap.objs.size + 1 := by rw [← hH2, Heap.size_push]
  dsimp only
  rw [hcf, hpc, Heap.size_push]
  generalize hH3 : H2.push { cls := .type "dict", data := .dict #[] } = H3
  have hS3 : H3.objs.size = s₂.heap.objs.size + 2 := by rw [← hH3, Heap.size_push, hC]
  generalize hh1 : H3.push { cls := .type "cell", data := .cell none } = h₁
  generalize hcS : H2.objs.size + 1 = cS
  have hDC : s₂.heap.objs.size ≠ H2.objs.size := by rw [hC]; exact Nat.ne_of_lt (Nat.lt_succ_self _)
  have hCc : H2.objs.size ≠ cS := by omega
  have hDc : s₂.heap.objs.size ≠ cS := by omega
  have below : ∀ b, b < s₂.heap.objs.size → b ≠ H2.objs.size ∧ b ≠ s₂.heap.objs.size ∧ b ≠ cS := fun b hb => by
    have hb' : (b : Nat) < s₂.heap.objs.size := hb
    exact ⟨Nat.ne_of_lt (by omega), Nat.ne_of_lt hb, Nat.ne_of_lt (by omega)⟩
  have hfD : s₂.heap.get? s₂.heap.objs.size = none := Heap.get?_none_of_le (Nat.le_refl _)
  have hfC : s₂.heap.get? H2.objs.size = none := Heap.get?_none_of_le (by rw [hC]; exact Nat.le_succ _)
  have hfc : s₂.heap.get? cS = none := Heap.get?_none_of_le (by omega)
  have k3 : ∀ b o, H2.get? b = some o → h₁.get? b = some o := fun b o e => by rw [← hh1, ← hH3]; exact Heap.get?_push_of_some _ (Heap.get?_push_of_some _ e)
  have old : ∀ b o, s₂.heap.get? b = some o → h₁.get? b = some o := fun b o e => k3 _ _ (by rw [← hH2]; exact Heap.get?_push_of_some _ e)
  have hacc : SeqAt h₁ "list" s₂.heap.objs.size ([] : List Value).toArray := ⟨_, k3 _ _ (by rw [← hH2]; exact Heap.get?_push_size _ rfl), rfl, 0, rfl⟩
  have hns₁ : h₁.Ns H2.objs.size (fun _ => none) := by
    rw [← hh1, ← hH3]
    exact (Heap.Ns.new H2 (.type "dict")).keeps fun _ _ e => Heap.get?_push_of_some _ e
  have hcell₁ : h₁.IsCell cS none := ⟨{ cls := .type "cell", data := .cell none }, by
    have : cS = H3.objs.size := by omega
    rw [this, ← hh1]; exact Heap.get?_push_size _ rfl, rfl⟩
  have hDM : s₂.heap.objs.size ∉ adr Mu := fun q => by
    obtain ⟨p, hp, e⟩ := List.mem_map.mp q
    obtain ⟨o, ho⟩ := (W.mu p hp).1.get
    rw [e, hfD] at ho; cases ho
  have hDf : s₂.heap.objs.size ∉ fp := fun q => Nat.lt_irrefl _ (hfp _ q).1
  have hCf : H2.objs.size ∉ fp := fun q => by have := (hfp _ q).1; rw [hC] at this; exact Nat.lt_irrefl _ (Nat.lt_of_succ_lt this)
  have hcf2 : cS ∉ fp := fun q => by have := (hfp _ q).1; have h2 : (cS : Nat) < s₂.heap.objs.size := this; omega
  have hBsub : Sub B (hideAll s₂.heap (adr Mu ++ wr)) := fun b o e => hideAll_get _ (W.keep _ _ e) fun q => by
    rcases List.mem_append.mp q with q | q
    · obtain ⟨p, hp, e'⟩ := List.mem_map.mp q
      rw [← e', (W.mu p hp).2] at e; cases e
    · rw [hwr b q] at e; cases e
  have W₁ : Wx (hideAll s₂.heap (adr Mu ++ wr)) H2.objs.size (Mu ++ [(s₂.heap.objs.size, ([] : List Value).toArray)]) [] h₁ (fun _ => none) := by
    refine ⟨hns₁, fun b o e => old _ _ (of_hideAll _ e), ?_, fun p hp => ?_, ?_, fun p hp => nomatch hp⟩
    · cases q : (hideAll s₂.heap (adr Mu ++ wr)).get? H2.objs.size with
      | none => rfl
      | some o => rw [of_hideAll _ q] at hfC; cases hfC
    · rcases List.mem_append.mp hp with hp | hp
      · exact ⟨(W.mu p hp).1.keeps old, hideAll_none _ (List.mem_append_left _ (List.mem_map_of_mem hp))⟩
      · simp only [List.mem_cons, List.not_mem_nil, or_false] at hp
        subst hp
        refine ⟨hacc, ?_⟩
        cases q : (hideAll s₂.heap (adr Mu ++ wr)).get? s₂.heap.objs.size with
        | none => rfl
        | some o => rw [of_hideAll _ q] at hfD; cases hfD
    · simp only [List.map_append, List.map_cons, List.map_nil, List.nodup_append]
      refine ⟨W.nd, by simp, fun a ha b hb e => hDM ?_⟩
      simp only [List.mem_cons, List.not_mem_nil, or_false] at hb
      rw [← hb, ← e]; exact ha
  have loop : ∀ s₃ : Shared, s₃ = { s₂ with heap := h₁ } →
      codeAny (model prog w) A (.compLoop (.ListComp elt [⟨.Name x px, iter, [], 0⟩] scope pos) 0 (.ref I) (.ref s₂.heap.objs.size) (compEnvC scope ((x, cS) :: cl) H2.objs.size env))
        (RR (.ref s₂.heap.objs.size) H2.objs.size) s₃ := by
    rintro s₃ rfl
    refine codeAny_compLoop_tests (fun k s' => ∃ h tk i B₁ Mu₁ ys m', s' = { s₂ with heap := h, toks := tk } ∧ k = n + 1 - i ∧ i ≤ n ∧ St i h ∧ Wx B₁ H2.objs.size (Mu₁ ++ [(s₂.heap.objs.size, List.toArray ys)]) [] h m' ∧
        Sub (hideAll s₂.heap (adr Mu ++ wr)) B₁ ∧ adr Mu₁ = adr Mu ∧ (∀ b ∈ wr, B₁.get? b = none) ∧ ys.length = i ∧ J i B₁ Mu₁ ys ∧ (∃ v₀, h.IsCell cS v₀) ∧ B₁.get? cS = none) ?_ (n + 1)
      ⟨h₁, _, 0, _, Mu, [], _, rfl, rfl, Nat.zero_le _, K.frame _ _ _ hst fun b _ o e => old b o e, W₁, fun _ _ e => e, rfl, fun b hb => hideAll_none _ (List.mem_append_right _ hb), rfl, hJ (SeqMono.of hBsub) h0, ⟨_, hcell₁⟩, none_mono (h' := s₂.heap) (fun _ _ e => of_hideAll _ e) hfc⟩
    rintro k s' ⟨h, tk, i, B₁, Mu₁, ys, m', rfl, rfl, hi, hst', W', hB, hM, hw, hys, hJi, ⟨v₀, hcl₀⟩, hcB⟩
    have hLw : H2.objs.size ∉ wr := fun q => hCf (K.sub _ q)
    have hMw : ∀ b ∈ adr (Mu₁ ++ [(s₂.heap.objs.size, List.toArray ys)]), b ∉ wr := fun b hb q => by
      simp only [adr, List.map_append, List.mem_append, List.map_cons, List.map_nil, List.mem_cons, List.not_mem_nil, or_false] at hb
      rcases hb with hb | hb
      · exact (hfp _ (K.sub _ q)).2 (hM ▸ hb)
      · exact hDf (hb ▸ K.sub _ q)
    by_cases hin : i < n
    · refine K.item i _ _ _ hin hst' fun v h₂ tk₂ hP hst₂ hk₂ => ?_
      have W₂ := W'.keepX hk₂ hLw hMw hw (fun p hp => nomatch hp)
      have hcw : cS ∉ wr := fun q => hcf2 (K.sub _ q)
      have hcl₂ : h₂.IsCell cS v₀ := let ⟨o, ho, hd⟩ := hcl₀; ⟨o, hk₂ _ _ hcw ho, hd⟩
      refine wpAny_assign_Name (wpAny_storeName_cell (env := compEnvC scope ((x, cS) :: cl) H2.objs.size env) hkind (hx _ _) (by simp [compEnvC]) hcl₂ (fun h₃ hn₃ hs₃ => ?_))
      have W₃ : Wx B₁ H2.objs.size (Mu₁ ++ [(s₂.heap.objs.size, List.toArray ys)]) [] h₃ m' := W₂.keepX (l := [cS]) (fun b o hb e => (hs₃.2 b (by simpa using hb)).trans e) (by simpa using hCc) (fun b hb q => by
          simp only [List.mem_cons, List.not_mem_nil, or_false] at q
          subst q
          obtain ⟨p, hp, e⟩ := List.mem_map.mp hb
          obtain ⟨o, ho, _, _, hd⟩ := (W₂.mu p hp).1
          obtain ⟨o', ho', hd'⟩ := hcl₂
          rw [e, ho'] at ho; cases ho; rw [hd'] at hd; cases hd) (by simpa using hcB) (fun p hp => nomatch hp)
      obtain ⟨B₂, hBB, W₄, hin₂⟩ := W₃.rebase
      have hcM : cS ∉ adr (Mu₁ ++ [(s₂.heap.objs.size, List.toArray ys)]) := fun hb => by
          obtain ⟨p, hp, e⟩ := List.mem_map.mp hb
          obtain ⟨o, ho, _, _, hd⟩ := (W₃.mu p hp).1
          obtain ⟨o', ho', hd'⟩ := hn₃
          rw [e, ho'] at ho; cases ho; rw [hd'] at hd; cases hd
      have hcB₂ : B₂.IsCell cS (some v) := let ⟨o, ho, hd⟩ := hn₃; ⟨o, hin₂ _ _ ho (Ne.symm hCc) hcM, hd⟩
      have hst₃ : St (i + 1) h₃ := K.frame _ _ _ hst₂ fun b hb o e => (hs₃.2 b (fun (q : b = cS) => hcf2 (q ▸ hb))).trans e
      refine forIn_nil_true ?_
      rw [if_pos rfl]
      refine wpAny_mono (turn i v B₂ H2.objs.size cS s₂.heap.objs.size Mu₁ ys m' h₃ _ hin hP (fun b o e => hBB _ _ (hB _ _ (hBsub _ _ e))) (fun b o e q => hBB _ _ (hB _ _ (hideAll_get _ e q))) hM W₄ hcB₂ hys (hJ (SeqMono.of hBB) hJi)) (fun y s₃ hf => ?_) fun _ _ f => f.elim
      obtain ⟨h₄, tk₄, B₃, Mu₂, m₂, rfl, hS, hM₂, W₅, hJ₂⟩ := hf
      have hl : SeqAt h₄ "list" s₂.heap.objs.size (List.toArray ys) := (W₅.mu (s₂.heap.objs.size, List.toArray ys) (by simp)).1
      refine wpAny_list_append hl.isList (fun h₅ hl₅ hs₅ => ?_) (hsz := by rw [List.size_toArray, sizeLine_eq]; omega)
      have W₆ : Wx B₃ H2.objs.size (Mu₂ ++ [(s₂.heap.objs.size, List.toArray (ys ++ [y]))]) [] h₅ m₂ :=
        W₅.turnG (fun b o hb e => hs₅.extBut b o hb e) (by have : SeqAt h₅ "list" s₂.heap.objs.size ((List.toArray ys).push y) := hl₅; simpa using this)
      have hst₅ : St (i + 1) h₅ := K.frame _ _ _ hst₃ fun b hb o e => hs₅.extBut b o (fun q => hDf (q ▸ hb)) (W₅.keep _ _ (hS _ _ (hin₂ b o e (fun q => hCf (q ▸ hb)) (fun q => by
        simp only [List.map_append, List.mem_append, List.map_cons, List.map_nil, List.mem_cons, List.not_mem_nil, or_false] at q
        rcases q with q | q
        · exact (hfp b hb).2 (hM ▸ q)
        · exact hDf (q ▸ hb)))))
      have hcl₅ : h₅.IsCell cS (some v) := let ⟨o, ho, hd⟩ := hcB₂; ⟨o, W₆.keep _ _ (hS _ _ ho), hd⟩
      have hBw : ∀ b ∈ wr, (hideAll s₂.heap (adr Mu ++ wr)).get? b = none := fun b hb => hideAll_none _ (List.mem_append_right _ hb)
      refine ⟨n + 1 - (i + 1), by omega, h₅, tk₄, i + 1, hideAll B₃ (cS :: wr), Mu₂, ys ++ [y], m₂, rfl, rfl, hin, hst₅, W₆.less (fun b o e => of_hideAll _ e), fun b o e => ?_, hM₂, fun b hb => hideAll_none _ (List.mem_cons_of_mem _ hb), by simp [hys], hJ (fun c a items x => ?_) hJ₂, ⟨some v, hcl₅⟩, hideAll_none _ (by simp)⟩
      · refine hideAll_get _ (hS _ _ (hBB _ _ (hB _ _ e))) fun q => ?_
        rcases List.mem_cons.mp q with rfl | q
        · rw [of_hideAll _ e] at hfc; cases hfc
        · rw [hBw b q] at e; cases e
      · obtain ⟨o, ho, r⟩ := x
        refine ⟨o, hideAll_get _ ho fun q => ?_, r⟩
        rcases List.mem_cons.mp q with rfl | q
        · obtain ⟨o', ho', hd'⟩ := hcl₅
          rw [W₆.keep _ _ ho] at ho'; cases ho'
          obtain ⟨_, k, hd⟩ := r
          rw [hd'] at hd; cases hd
        · exact hwrF _ _ hst₅ a q c items ⟨o, W₆.keep _ _ ho, r⟩
    · have hin' : i = n := by omega
      subst hin'
      refine K.done _ _ _ hst' fun h₂ tk₂ hk₂ => ?_
      exact done H2.objs.size s₂.heap.objs.size h₂ tk₂ B₁ Mu₁ ys m' hfD hfC (fun b o e => hB _ _ (hBsub _ _ e)) (fun b o e q => hB _ _ (hideAll_get _ e q)) hM (W'.keepX hk₂ hLw hMw hw (fun p hp => nomatch hp)) hys hJi
  exact codeAny_compStart_list (loop _ rfl) (K.self 0 _ _ _ (K.frame _ _ _ hst fun b _ o e => old b o e) (loop _ rfl))
end

section
variable {prog : Program} {w : World} {A : Around} {E : Value → Shared → Prop} {env : Env} {B : Heap} {L : Addr} {Mu : Mut} {X : Led} {m : Str → Option Value} {s : Shared}

theorem x_CBC {nn : Nat} {elt iter : Expr} {x : Str} {px : Pos} {scope : Scope} {cl : List (Str × Addr)} {pos : Pos} {l : Addr} {vs : List Value} {c : String} {RR : Value → Addr → Result → Shared → Prop}
    (D : AOk nn A) (W : Wx B L Mu X s.heap m) (hc : c = "list" ∨ c = "tuple") (hv : SeqAt s.heap c l vs.toArray) (hlM : l ∉ adr Mu)
    (J : Nat → Heap → Mut → List Value → Prop) (hJ : ∀ {i B B' Mu ys}, SeqMono B B' → J i B Mu ys → J i B' Mu ys)
    (hcf : ∀ n, cellsFrom n scope.names cl = (x, n) :: cl) (hpc : ∀ h, pushCells h scope.names = h.push { cls := .type "cell", data := .cell none }) (hkind : scope.kind = .function) (hx : ∀ cl' C, (compEnvC scope cl' C env).kindOf x = some .cell) (h0 : J 0 B Mu []) (hn : vs.length ≤ 1000)
    (turn : ∀ i v B₁ C cS D Mu₁ ys (m₁ : Str → Option Value) h₁ tk, vs[i]? = some v → Sub B B₁ → Old s.heap (adr Mu) B₁ → adr Mu₁ = adr Mu → Wx B₁ C (Mu₁ ++ [(D, ys.toArray)]) [] h₁ m₁ → B₁.IsCell cS (some v) → ys.length = i → J i B₁ Mu₁ ys →
      wpAny (model prog w) A (eval elt (compEnvC scope ((x, cS) :: cl) C env)) (fun y s' => ∃ h' tk' B₂ Mu₂ m₂, s' = { s with heap := h', toks := tk' } ∧ Sub B₁ B₂ ∧ adr Mu₂ = adr Mu ∧ Wx B₂ C (Mu₂ ++ [(D, ys.toArray)]) [] h' m₂ ∧ J (i + 1) B₂ Mu₂ (ys ++ [y]))
        (fun _ _ => False) { s with heap := h₁, toks := tk })
    (fin : ∀ C D h' tk B₂ Mu₁ ys m', Sub B B₂ → Old s.heap (L :: adr Mu) B₂ → adr Mu₁ = adr Mu → Wx B₂ L Mu₁ [] h' m → SeqAt B₂ "list" D ys.toArray → ys.length = vs.length → J vs.length B₂ Mu₁ ys → s.heap.get? D = none → h'.Ns C m' → C ≠ L → C ∉ adr Mu → B₂.get? C = none →
      RR (.ref D) C (.ok .next) { s with heap := h', toks := tk }) :
    wpAny (model prog w) A (pyIter (.ref l)) (fun it s₂ => CB prog w A E elt iter x px scope cl pos env RR it s₂) E s := by
  refine x_iter D hc hv fun I St h₂ K hS hI hI2 hl2 hwrF hst => ?_
  have hIM : I ∉ adr Mu := fun q => by
    obtain ⟨p, hp, e⟩ := List.mem_map.mp q
    obtain ⟨o, ho⟩ := (W.mu p hp).1.get
    rw [e, hI] at ho; cases ho
  refine comp_coreC (s₂ := { s with heap := h₂ }) K (W.grow hS) J hJ (fun b hb => ?_) (fun b hb => ?_) (fun i h hi b hb => ?_) hst hcf hpc hkind hx h0 hn ?_ ?_
  · simp only [List.mem_cons, List.not_mem_nil, or_false] at hb
    rcases hb with rfl | rfl
    · exact ⟨hI2, hIM⟩
    · exact ⟨hl2, hlM⟩
  · simp only [List.mem_cons, List.not_mem_nil, or_false] at hb
    rw [hb]; exact none_mono W.keep hI
  · simp only [List.mem_cons, List.not_mem_nil, or_false] at hb
    rw [hb]; exact hwrF i h hi
  · intro i v B₁ C cS D Mu₁ ys m₁ h₁ tk hi hP hB hO hM W₁ hcB hys hJ₁
    refine turn i v B₁ C cS D Mu₁ ys m₁ h₁ tk hP hB (fun b o e q => hO b o (hS _ _ e) fun q' => ?_) hM W₁ hcB hys hJ₁
    rcases List.mem_append.mp q' with q' | q'
    · exact q q'
    · simp only [List.mem_cons, List.not_mem_nil, or_false] at q'
      rw [q', hI] at e; cases e
  · intro C D h' tk B₁ Mu₁ ys m' hD hC hB hO hM W₁ hys hJ₁
    have hO' : Old s.heap (adr Mu ++ []) B₁ := fun b o e q => hO b o (hS _ _ e) fun q' => by
      rcases List.mem_append.mp q' with q' | q'
      · exact q (List.mem_append_left _ q')
      · simp only [List.mem_cons, List.not_mem_nil, or_false] at q'
        rw [q', hI] at e; cases e
    have hD' := none_mono hS hD
    have hC' := none_mono hS hC
    obtain ⟨B₂, hB2, W₂, hO2, hS2, hD2, hC2⟩ := comp_after W hB hO' hM (fun b hb => nomatch hb) hD' hC' W₁
    refine fin C D h' tk B₂ Mu₁ ys m' hB2 hO2 hM W₂ hD2 hys (hJ hS2 hJ₁) hD' W₁.ns (fun e => ?_) (fun q => ?_) hC2
    · obtain ⟨o, es, ep, ho, r⟩ := W.ns
      rw [e, ho] at hC'; cases hC'
    · obtain ⟨p, hp, e⟩ := List.mem_map.mp q
      obtain ⟨o, ho⟩ := (W.mu p hp).1.get
      rw [e, hC'] at ho; cases ho

/-- the value of a comprehension -/
theorem x_CBEC {nn : Nat} {elt iter : Expr} {x : Str} {px : Pos} {scope : Scope} {cl : List (Str × Addr)} {pos : Pos} {l : Addr} {vs : List Value} {c : String} {Q : Value → Shared → Prop}
    (D : AOk nn A) (W : Wx B L Mu X s.heap m) (hc : c = "list" ∨ c = "tuple") (hv : SeqAt s.heap c l vs.toArray) (hlM : l ∉ adr Mu)
    (J : Nat → Heap → Mut → List Value → Prop) (hJ : ∀ {i B B' Mu ys}, SeqMono B B' → J i B Mu ys → J i B' Mu ys)
    (hcf : ∀ n, cellsFrom n scope.names cl = (x, n) :: cl) (hpc : ∀ h, pushCells h scope.names = h.push { cls := .type "cell", data := .cell none }) (hkind : scope.kind = .function) (hx : ∀ cl' C, (compEnvC scope cl' C env).kindOf x = some .cell) (h0 : J 0 B Mu []) (hn : vs.length ≤ 1000)
    (turn : ∀ i v B₁ C cS D Mu₁ ys (m₁ : Str → Option Value) h₁ tk, vs[i]? = some v → Sub B B₁ → Old s.heap (adr Mu) B₁ → adr Mu₁ = adr Mu → Wx B₁ C (Mu₁ ++ [(D, ys.toArray)]) [] h₁ m₁ → B₁.IsCell cS (some v) → ys.length = i → J i B₁ Mu₁ ys →
      wpAny (model prog w) A (eval elt (compEnvC scope ((x, cS) :: cl) C env)) (fun y s' => ∃ h' tk' B₂ Mu₂ m₂, s' = { s with heap := h', toks := tk' } ∧ Sub B₁ B₂ ∧ adr Mu₂ = adr Mu ∧ Wx B₂ C (Mu₂ ++ [(D, ys.toArray)]) [] h' m₂ ∧ J (i + 1) B₂ Mu₂ (ys ++ [y]))
        (fun _ _ => False) { s with heap := h₁, toks := tk })
    (fin : ∀ D h' tk B₂ Mu₁ ys, Sub B B₂ → Old s.heap (L :: adr Mu) B₂ → adr Mu₁ = adr Mu → Wx B₂ L Mu₁ [] h' m → SeqAt B₂ "list" D ys.toArray → ys.length = vs.length → J vs.length B₂ Mu₁ ys → s.heap.get? D = none → Q (.ref D) { s with heap := h', toks := tk }) :
    wpAny (model prog w) A (pyIter (.ref l)) (fun it s₂ => CB prog w A E elt iter x px scope cl pos env (fun acc C => compPost (model prog w) A E none Q acc C) it s₂) E s := by
  refine x_CBC D W hc hv hlM J hJ hcf hpc hkind hx h0 hn turn ?_
  intro C D h' tk B₂ Mu₁ ys m' hB hO hM W₂ hD hys hJ₂ hDn hC hCL hCM hC2
  refine ⟨m', hC, fun h'' hs => ?_⟩
  exact fin D h'' tk B₂ Mu₁ ys hB hO hM (W₂.keepX (l := [C]) (fun b o hb e => hs.extBut b o (by simpa using hb) e) (by simpa using Ne.symm hCL) (fun b hb q => hCM (by simp only [List.mem_cons, List.not_mem_nil, or_false] at q; rw [← q, ← hM]; exact hb))
    (fun b hb => by simp only [List.mem_cons, List.not_mem_nil, or_false] at hb; rw [hb]; exact hC2) (fun p hp => nomatch hp)) hD hys hJ₂ hDn

/-- an iterator over a range -/
theorem x_iterRange {nn : Nat} {n : Nat} {t : Tok} {Q : Value → Shared → Prop} (D : AOk nn A) (W : Wx B L Mu X s.heap m) (hn : n ≤ 1000)
    (h : ∀ I St h₂ tk, Walks prog w A I [I] [I] n (fun i v => ∃ t, v = .int (0 + i * 1) t) St → Sub s.heap h₂ → s.heap.get? I = none → (∀ i h, St i h → ∀ c items, ¬ SeqAt h c I items) → St 0 h₂ →
      Q (.ref I) { s with heap := h₂, toks := tk }) : wpAny (model prog w) A (call (.type "range") [.int (n : Int) t]) (fun r s' => wpAny (model prog w) A (pyIter r) Q E s') E s := by
  refine call_range_1 ?_
  have hsz : Builtin.Range.rangeSize 0 (n : Int) 1 = n := by rw [rangeSize_one]; split <;> omega
  refine wpAny_pyIter_range (IsRange.new _ _ _ _ _ _ _) (small_one (by decide) (by decide) (by omega) (by omega)) ?_
  have hI : s.heap.get? (s.heap.objs.size + 1) = none := Heap.get?_none_of_le (Nat.le_succ _)
  have e : (s.heap.push { cls := .type "range", data := .fields #[.int 0 s.toks, .int (n : Int) t, .int 1 (s.toks + 1)] }).objs.size = s.heap.objs.size + 1 := Heap.size_push ..
  refine h _ (fun i h => IsRangeIter h (s.heap.objs.size + 1) (0 + (i : Nat) * 1) ((n : Int) - (i : Nat)) 1) _ _ (e ▸ Walks.range (prog := prog) (w := w) D.1 (s.heap.objs.size + 1) 0 1 n) (fun _ _ e => Heap.get?_push_of_some _ (Heap.get?_push_of_some _ e)) (e ▸ hI) ?_ ?_
  · rintro i h hst c items ⟨o, ho, _, k, hd⟩
    rw [e] at ho
    rw [hst] at ho; cases ho; cases hd
  · show Heap.get? _ _ = _
    have := Heap.get?_push_size (s.heap.push { cls := .type "range", data := .fields #[.int 0 s.toks, .int (n : Int) t, .int 1 (s.toks + 1)] }) (o := { cls := .type "range_iterator", data := .fields #[rawInt 0, rawInt (Builtin.Range.rangeSize 0 (n : Int) 1), rawInt 1] }) rfl
    rw [e] at this
    rw [this, hsz]
    simp
end

section
variable {prog : Program} {w : World} {A : Around} {E : Value → Shared → Prop} {s : Shared} {B : Heap} {L : Addr} {Mu : Mut} {X : Led} {m mg mb : Str → Option Value} {v : Value} {Q : Value → Shared → Prop}

/-- a call of a def that captures parameters, and may turn the first of the lists that turn -/
theorem enterSC {n : Nat} {name : Str} {params : Arguments} {body : List Stmt} {scope : Scope} {v : Value} {vals : List Value} {src : Addr} {it : Array Value} {Q : Value → Shared → Prop}
    (fn : FnAt mg B name params body scope) (W : Wx B L ((src, it) :: Mu) X s.heap m) (G : Gl mg mb B) (D : AOk (n + 1) A) (hv : mg name = some v)
    (hbind : ∀ doc pm an cdv ct, bindArgs (fnX name name params body scope [] .none .none doc pm an cdv ct) ⟨vals, []⟩ = pure ((params.args.map (·.arg)).zip vals))
    (hkind : ∀ n, ∀ x ∈ (params.args.map (·.arg)).zip vals, scope.names.lookup x.1 = some .local ∨ (scope.names.lookup x.1 = some .cell ∧ ((cellsFrom n scope.names []).lookup x.1).isSome = true))
    (hco : scope.isCoroutine = false) (hgen : scope.isGenerator = false) (hk : scope.kind = .function)
    (h : ∀ a cdv L' h₁ tk, Wx (hideAll s.heap [src]) L' [(src, it)] [] h₁ (bindL (envOfC name scope L' a cdv).kindOf ((params.args.map (·.arg)).zip vals) fun _ => none) → Gl mg mb (hideAll s.heap [src]) →
      (∀ n c, (cellsFrom (L' + 1) scope.names []).lookup n = some c → h₁.IsCell c (bindC (envOfC name scope L' a cdv).kindOf ((params.args.map (·.arg)).zip vals) (fun _ => none) n) ∧ c ≠ L') → AOk n (A.deeper (envOfC name scope L' a cdv)) →
      wpAny (model prog w) (A.deeper (envOfC name scope L' a cdv)) (execs body (envOfC name scope L' a cdv)) (fun fl s' => match fl with | .ret r => Q r s' | _ => False) (fun _ _ => False)
        { s with heap := h₁, toks := tk }) : wpAny (model prog w) A (call v vals) Q E s := by
  obtain ⟨a, o, doc, pm, an, cdv, ct, h1, h2, h3, h4⟩ := fn
  rw [h1] at hv; cases hv
  refine wpAny_call (codeAny_call_function (fd := fnX name name params body scope [] .none .none doc pm an cdv ct) (body := body) D.room (W.keep _ _ h2) h3 hco hgen rfl (h4.keeps W.keep) ?_)
  rw [hbind]
  refine wpAny_pure (wpAny_newFunctionEnv_cells hk (hkind _) fun env' he s' x => ?_)
  subst he
  refine ⟨((G.nolimit.keeps W.keep).keeps x.toInCall.keep), codeAny_func ?_⟩
  obtain ⟨h₁, tk, rfl⟩ := x.toInCall.same
  have hk₁ := x.toInCall.keep
  have hmu := W.mu _ List.mem_cons_self
  have hB : ∀ b o, B.get? b = some o → (hideAll s.heap [src]).get? b = some o := fun b o e => hideAll_get _ (W.keep b o e) fun q => by
    have : b = src := by simpa using q
    rw [this, hmu.2] at e; cases e
  have W' : Wx (hideAll s.heap [src]) s.heap.objs.size [(src, it)] [] h₁ (bindL (envOfC name scope s.heap.objs.size a cdv).kindOf ((params.args.map (·.arg)).zip vals) fun _ => none) := by
    refine ⟨x.toInCall.ns, fun b o e => hk₁ _ _ (of_hideAll _ e), ?_, fun p hp => ?_, by simp, fun p hp => nomatch hp⟩
    · refine Heap.get?_none_of_le ?_
      rw [hideAll_size]; exact Nat.le_refl _
    · rcases List.mem_cons.mp hp with rfl | hp
      · exact ⟨hmu.1.keeps hk₁, hideAll_none _ (by simp)⟩
      · cases hp
  refine wpAny_mono (h a cdv _ h₁ tk W' (G.keeps hB) (fun n c hc => ⟨x.cell n c hc, Nat.ne_of_gt (x.above n c (mem_of_lookup hc))⟩) (D.deeper _)) (fun fl s' hq => ?_) fun _ _ f => f.elim
  cases fl with
  | ret r => exact hq
  | _ => exact hq.elim

theorem x_cell {env : Env} {x : Str} {pos : Pos} {c : Addr} {v : Value} {C : Heap} {Q : Value → Shared → Prop} (k : Sub C s.heap) (hc : C.IsCell c (some v)) (h : Q v s)
    (hl : env.cells.lookup x = some c) (hk : env.scope.kind = .function) (hx : env.kindOf x = some .cell) (hd : (x == ("__debug__" : Str)) = false := by decide) :
    wpAny (model prog w) A (eval (.Name x pos) env) Q E s := wpAny_Name (wpAny_loadName_cell hk hx hl (hc.keeps k) h) hd

/-- a point along one axis: begin + side * share, in lowest terms -/
def plc (b : Fr2) (S P : Int) (q : Fr2) : Fr2 :=
  let x := b.1 * P * q.2 + S * q.1 * b.2
  let y := b.2 * P * q.2
  (x / (Int.gcd x y : Int), y / (Int.gcd x y : Int))

/-- a share lies in 0 .. 1, written in small numbers -/
def ShOk (q : Fr2) : Prop := 0 ≤ q.1 ∧ q.1 ≤ q.2 ∧ 0 < q.2 ∧ q.2 ≤ 10
def BegOk (b : Fr2) : Prop := -1000 ≤ b.1 ∧ b.1 ≤ 1000 ∧ 0 < b.2 ∧ b.2 ≤ 12

/-- the shares' list, its four corners among them -/
def ShsOk (hs : List Pt2) : Prop := (∀ p ∈ hs, ShOk p.1 ∧ ShOk p.2) ∧ (∃ p ∈ hs, p.1 = (0, 1)) ∧ (∃ p ∈ hs, p.1 = (1, 1)) ∧ (∃ p ∈ hs, p.2 = (0, 1)) ∧ (∃ p ∈ hs, p.2 = (1, 1))

theorem x_tupof {l : Addr} {vs : List Value} {Q : Value → Shared → Prop} (W : Wx B L Mu X s.heap m) (hl : SeqAt s.heap "list" l vs.toArray) (hsz : vs.length ≤ sizeLine)
    (h : ∀ r h', Wx B L Mu ((r, "tuple", vs.toArray) :: X) h' m → s.heap.get? r = none → Q (.ref r) { s with heap := h' }) : wpAny (model prog w) A (call (.type "tuple") [.ref l]) Q E s := by
  refine call_tuple_list hl.isList (fun h' hk => ?_) (by simpa using hsz)
  have hn : s.heap.get? h'.objs.size = none := none_mono hk (Heap.get?_none_of_le (Nat.le_refl _))
  exact h _ _ (W.add (fun b o e => Heap.get?_push_of_some _ (hk _ _ e)) hn ⟨_, Heap.get?_push_size _ rfl, rfl, 0, rfl⟩) hn

theorem Frs.snoc {h : Heap} {vs : List Value} {l : List Fr2} {j : Nat} {v : Value} {q : Fr2} (x : Frs h vs (l.take j)) (hj : l[j]? = some q) (y : FrAt h v q) : Frs h (vs ++ [v]) (l.take (j + 1)) := by
  have e : l.take (j + 1) = l.take j ++ [q] := by rw [List.take_add_one, hj]; rfl
  rw [e]
  refine ⟨by simp [x.1], fun i w ew => ?_⟩
  by_cases hi : i < vs.length
  · rw [List.getElem?_append_left hi] at ew
    obtain ⟨p, hp, hx⟩ := x.2 i w ew
    exact ⟨p, by rw [List.getElem?_append_left (by rw [← x.1]; exact hi)]; exact hp, hx⟩
  · rw [List.getElem?_append_right (by omega)] at ew
    have hi0 : i = vs.length := by
      have := (List.getElem?_eq_some_iff.mp ew).1
      simp at this; omega
    subst hi0
    simp at ew; subst ew
    exact ⟨q, by rw [x.1, List.getElem?_append_right (Nat.le_refl _), Nat.sub_self]; rfl, y⟩
theorem ne_cls {h : Heap} {c1 c2 : String} {a b : Addr} {i1 i2 : Array Value} (x : SeqAt h c1 a i1) (y : SeqAt h c2 b i2) (hc : c1 ≠ c2) : a ≠ b := by
  rintro rfl
  obtain ⟨o, ho, hc1, _⟩ := x
  obtain ⟨o', ho', hc2, _⟩ := y
  rw [ho] at ho'; cases ho'
  rw [hc1] at hc2
  exact hc (by injection hc2)

theorem side_ok {S P : Int} {w : Nat} (x : Side S P w) : 0 ≤ S ∧ S ≤ 115 ∧ 1 ≤ P ∧ P ≤ 65536 := by
  rcases x with ⟨_, h1, h2⟩ | ⟨h1, h2, h3, h4, h5⟩
  · omega
  · have h6 : (2 : Nat) ^ w ≤ 2 ^ 16 := Nat.pow_le_pow_right (by decide) h3
    have h7 : ((2 ^ w : Nat) : Int) = (2 : Int) ^ w := by simp
    have h8 : 0 < (2 : Nat) ^ (w - 1) := Nat.pow_pos (by decide)
    have h9 : ((2 ^ (w - 1) : Nat) : Int) = (2 : Int) ^ (w - 1) := by simp
    omega

theorem ok_le {x a b : Int} (h1 : a ≤ x) (h2 : x ≤ b) (ha : -18446744073709551616 < a := by decide) (hb : b < 18446744073709551616 := by decide) : IntOk x := by unfold IntOk; omega
theorem place_ok {a b c : Int} (ha : 0 < a) (ha' : a ≤ 12) (hb : 1 ≤ b) (hb' : b ≤ 65536) (hc : 0 < c) (hc' : c ≤ 10) : 0 < a * b * c ∧ a * b * c ≤ 7864320 := by
  have h1 : 0 < a * b := Int.mul_pos ha (by omega)
  have h2 : a * b ≤ 12 * 65536 := Int.mul_le_mul ha' hb' (by omega) (by decide)
  refine ⟨Int.mul_pos h1 hc, ?_⟩
  have h3 : a * b * c ≤ (12 * 65536) * 10 := Int.mul_le_mul h2 hc' (by omega) (by decide)
  omega

end
local macro_rules | `(tactic| kbo_bools) => `(tactic| first
  | ((with_reducible refine' x_lup ?h ?ht); (case ht => (intro _ _; rfl)))
  | ((with_reducible refine' x_ldn ?h ?ht); (case ht => (intro _ _; rfl)))
  | ((with_reducible refine' x_lmid ?h ?ht); (case ht => (intro _ _; rfl))))
section
variable {prog : Program} {w : World} {A : Around} {E : Value → Shared → Prop} {s : Shared} {B : Heap} {L : Addr} {Mu : Mut} {X : Led} {m mg mb : Str → Option Value} {v : Value} {Q : Value → Shared → Prop}

theorem Pts.nil {h : Heap} : Pts h [] [] := ⟨rfl, fun i v e => by simp at e⟩
theorem Pts.cons {h : Heap} {v : Value} {p : Pt2} {vs : List Value} {ps : List Pt2} (x : PtAt h v p) (y : Pts h vs ps) : Pts h (v :: vs) (p :: ps) := by
  refine ⟨by simp [y.1], fun i w e => ?_⟩
  cases i with
  | zero => simp at e; subst e; exact ⟨p, rfl, x⟩
  | succ i => exact y.2 i w e
theorem Pts.append {h : Heap} {vs ws : List Value} {ps qs : List Pt2} (x : Pts h vs ps) (y : Pts h ws qs) : Pts h (vs ++ ws) (ps ++ qs) := by
  refine ⟨by simp [x.1, y.1], fun i w e => ?_⟩
  by_cases hi : i < vs.length
  · rw [List.getElem?_append_left hi] at e
    obtain ⟨p, hp, hx⟩ := x.2 i w e
    exact ⟨p, by rw [List.getElem?_append_left (by rw [← x.1]; exact hi)]; exact hp, hx⟩
  · rw [List.getElem?_append_right (by omega)] at e
    obtain ⟨p, hp, hx⟩ := y.2 _ w e
    exact ⟨p, by rw [List.getElem?_append_right (by rw [← x.1]; omega), ← x.1]; exact hp, hx⟩
theorem Pts.snoc {h : Heap} {vs : List Value} {l : List Pt2} {j : Nat} {v : Value} {q : Pt2} (x : Pts h vs (l.take j)) (hj : l[j]? = some q) (y : PtAt h v q) : Pts h (vs ++ [v]) (l.take (j + 1)) := by
  have e : l.take (j + 1) = l.take j ++ [q] := by rw [List.take_add_one, hj]; rfl
  rw [e]
  exact x.append (.cons y .nil)

theorem Pts.take {h : Heap} {vs : List Value} {ps : List Pt2} (x : Pts h vs ps) (k : Nat) : Pts h (vs.take k) (ps.take k) := by
  refine ⟨by simp [x.1], fun i w e => ?_⟩
  rw [List.getElem?_take] at e
  split at e
  · rename_i hi
    obtain ⟨p, hp, hx⟩ := x.2 i w e
    exact ⟨p, by rw [List.getElem?_take, if_pos hi]; exact hp, hx⟩
  · cases e
theorem Pts.drop {h : Heap} {vs : List Value} {ps : List Pt2} (x : Pts h vs ps) (k : Nat) : Pts h (vs.drop k) (ps.drop k) := by
  refine ⟨by simp [x.1], fun i w e => ?_⟩
  rw [List.getElem?_drop] at e
  obtain ⟨p, hp, hx⟩ := x.2 _ w e
  exact ⟨p, by rw [List.getElem?_drop]; exact hp, hx⟩
theorem ShsOk.insert {hs : List Pt2} {p : Pt2} (x : ShsOk hs) (k : Nat) (h1 : ShOk p.1) (h2 : ShOk p.2) : ShsOk (hs.take k ++ [p] ++ hs.drop k) := by
  have hm : ∀ q ∈ hs, q ∈ hs.take k ++ [p] ++ hs.drop k := fun q hq => by
    rw [← List.take_append_drop k hs] at hq
    simp only [List.mem_append] at hq ⊢
    rcases hq with hq | hq
    · exact .inl (.inl hq)
    · exact .inr hq
  obtain ⟨a, ⟨p1, b1, c1⟩, ⟨p2, b2, c2⟩, ⟨p3, b3, c3⟩, ⟨p4, b4, c4⟩⟩ := x
  refine ⟨fun q hq => ?_, ⟨p1, hm _ b1, c1⟩, ⟨p2, hm _ b2, c2⟩, ⟨p3, hm _ b3, c3⟩, ⟨p4, hm _ b4, c4⟩⟩
  simp only [List.mem_append, List.mem_cons, List.not_mem_nil, or_false] at hq
  rcases hq with (hq | rfl) | hq
  · exact a q (List.mem_of_mem_take hq)
  · exact ⟨h1, h2⟩
  · exact a q (List.mem_of_mem_drop hq)

set_option maxHeartbeats 4000000 in
theorem points_spec {src lb ls b0 b1 s0 s1 : Addr} {it : Array Value} {q0 q1 : Fr2} {S0 P0 S1 P1 : Int} {w0 w1 : Nat} {t1 t2 t3 t4 t5 t6 t7 t8 t9 t10 : Tok} (W : Wx B L ((src, it) :: Mu) X s.heap m) (G : Gl mg mb B) (D : AOk 4 A) (hv : mg "_law_points" = some v) (hit : IsSrc it)
    (hlb : SeqAt s.heap "list" lb [.ref b0, .ref b1].toArray) (hb0 : SeqAt s.heap "tuple" b0 #[.int q0.1 t1, .int q0.2 t2]) (hb1 : SeqAt s.heap "tuple" b1 #[.int q1.1 t3, .int q1.2 t4])
    (hls : SeqAt s.heap "list" ls [.ref s0, .ref s1].toArray) (hs0 : SeqAt s.heap "tuple" s0 #[.int S0 t5, .int P0 t6, .int (w0 : Int) t7]) (hs1 : SeqAt s.heap "tuple" s1 #[.int S1 t8, .int P1 t9, .int (w1 : Int) t10])
    (hlbs : lb ≠ src) (hlss : ls ≠ src) (ob0 : BegOk q0) (ob1 : BegOk q1) (sd0 : Side S0 P0 w0) (sd1 : Side S1 P1 w1)
    (h : ∀ r h' tk it' vs hs, IsSrc it' → ShsOk hs → hs.length ≤ 6 → SeqAt h' "list" r vs.toArray → Pts h' vs (hs.map fun p => (plc q0 S0 P0 p.1, plc q1 S1 P1 p.2)) → s.heap.get? r = none → Wx B L ((src, it') :: Mu) X h' m → Q (.ref r) { s with heap := h', toks := tk }) :
    wpAny (model prog w) A (call v [.ref src, .ref lb, .ref ls]) Q E s := by
  have fn := G.points
  conv at fn => (arg 4; whnf)
  conv at fn => (arg 5; whnf)
  conv at fn => (arg 6; whnf)
  refine enterSC fn W G D hv (by intros; rfl) (kindsX (by rfl)) (by rfl) (by rfl) (by rfl) ?_
  intro a' cdv L' h₁ tk₁ W₁ G₁ hcells D₁
  obtain ⟨B₁, hBB, W₂, hin⟩ := W₁.rebase
  have hc1 := hcells "begins" (L' + 1) rfl
  have hc2 := hcells "sides" (L' + 2) rfl
  have hcell : ∀ c v, h₁.IsCell c (some v) → c ≠ L' → B₁.IsCell c (some v) := fun c v hc hn => by
    obtain ⟨o, ho, hd⟩ := hc
    refine ⟨o, hin _ _ ho hn fun q => ?_, hd⟩
    simp only [List.map_cons, List.map_nil, List.mem_cons, List.not_mem_nil, or_false] at q
    obtain ⟨o', ho', _, _, hd'⟩ := W₁.src
    rw [← q, ho] at ho'; cases ho'; rw [hd] at hd'; cases hd'
  have C1 : B₁.IsCell (L' + 1) (some (.ref lb)) := hcell _ _ hc1.1 hc1.2
  have C2 : B₁.IsCell (L' + 2) (some (.ref ls)) := hcell _ _ hc2.1 hc2.2
  have G₂ := G₁.keeps hBB
  obtain ⟨f1, hf1, if1⟩ := G₂.take.name'
  obtain ⟨f2, hf2, if2⟩ := G₂.one.name'
  obtain ⟨g1, g2, g3, g4, g5, g6, g7⟩ := G₂.no
  repeat kbo_bools
  refine take_spec W₂ G₂ (D₁.less (by decide)) hf1 hit (by decide) (by unfold IntOk; decide) ?_
  intro r h₂ tk₂ u₂ it₂ hr0 hr1 hit₂ W₃
  repeat kbo_bools
  rename_i a1 _ _ a2 _ _ A1 _ _ a3 _ _ a4 _ _ A2 _ _ sh _ _ _ _ _ c1 _ _ c2 _ _ c3 _ _ c4 _ _ c5 _ _ so _ _ hso h₄ W₄
  obtain ⟨B₂, hB2, W₅, hin₂⟩ := W₄.rebase
  have G₃ := G₂.keeps hB2
  have Sso := W₄.carry hin₂ List.mem_cons_self
  have Ssh : SeqAt B₂ "list" sh [.ref A1, .ref A2].toArray := W₄.carry hin₂ (by kcf_m)
  have SA1 : SeqAt B₂ "tuple" A1 #[.ref a1, .ref a2] := W₄.carry hin₂ (by kcf_m)
  have SA2 : SeqAt B₂ "tuple" A2 #[.ref a3, .ref a4] := W₄.carry hin₂ (by kcf_m)
  have Fa1 : FrAt B₂ (.ref a1) (0, 1) := ⟨_, _, _, rfl, W₄.carry hin₂ (by kcf_m)⟩
  have Fa2 : FrAt B₂ (.ref a2) (r, 1) := ⟨_, _, _, rfl, W₄.carry hin₂ (by kcf_m)⟩
  have Fa3 : FrAt B₂ (.ref a3) (1, 1) := ⟨_, _, _, rfl, W₄.carry hin₂ (by kcf_m)⟩
  have Fa4 : FrAt B₂ (.ref a4) (1 - r, 1) := ⟨_, _, _, rfl, W₄.carry hin₂ (by kcf_m)⟩
  have Fc1 : FrAt B₂ (.ref c1) (0, 1) := ⟨_, _, _, rfl, W₄.carry hin₂ (by kcf_m)⟩
  have Fc2 : FrAt B₂ (.ref c2) (1, 1) := ⟨_, _, _, rfl, W₄.carry hin₂ (by kcf_m)⟩
  have Fc3 : FrAt B₂ (.ref c3) (1, 2) := ⟨_, _, _, rfl, W₄.carry hin₂ (by kcf_m)⟩
  have Fc4 : FrAt B₂ (.ref c4) (2, 7) := ⟨_, _, _, rfl, W₄.carry hin₂ (by kcf_m)⟩
  have Fc5 : FrAt B₂ (.ref c5) (9, 10) := ⟨_, _, _, rfl, W₄.carry hin₂ (by kcf_m)⟩
  have hsome : ∀ x ∈ ([.ref c1, .ref c2, .ref c3, .ref c4, .ref c5] : List Value), ∃ q, FrAt B₂ x q ∧ ShOk q := by
    intro x hx
    simp only [List.mem_cons, List.not_mem_nil, or_false] at hx
    rcases hx with rfl | rfl | rfl | rfl | rfl
    · exact ⟨_, Fc1, by simp [ShOk]⟩
    · exact ⟨_, Fc2, by simp [ShOk]⟩
    · exact ⟨_, Fc3, by simp [ShOk]⟩
    · exact ⟨_, Fc4, by simp [ShOk]⟩
    · exact ⟨_, Fc5, by simp [ShOk]⟩
  have hsh0 : ShsOk [((0, 1), (r, 1)), ((1, 1), (1 - r, 1))] := by
    have hr : r = 0 ∨ r = 1 := by omega
    rcases hr with rfl | rfl
    · refine ⟨?_, ⟨_, List.mem_cons_self, rfl⟩, ⟨_, List.mem_cons_of_mem _ List.mem_cons_self, rfl⟩, ⟨_, List.mem_cons_self, rfl⟩, ⟨_, List.mem_cons_of_mem _ List.mem_cons_self, rfl⟩⟩
      intro p hp; simp only [List.mem_cons, List.not_mem_nil, or_false] at hp
      rcases hp with rfl | rfl <;> simp [ShOk]
    · refine ⟨?_, ⟨_, List.mem_cons_self, rfl⟩, ⟨_, List.mem_cons_of_mem _ List.mem_cons_self, rfl⟩, ⟨_, List.mem_cons_of_mem _ List.mem_cons_self, rfl⟩, ⟨_, List.mem_cons_self, rfl⟩⟩
      intro p hp; simp only [List.mem_cons, List.not_mem_nil, or_false] at hp
      rcases hp with rfl | rfl <;> simp [ShOk]
  have hps0 : Pts B₂ [.ref A1, .ref A2] [((0, 1), (r, 1)), ((1, 1), (1 - r, 1))] :=
    .cons ⟨A1, _, _, rfl, SA1, Fa1, Fa2⟩ (.cons ⟨A2, _, _, rfl, SA2, Fa3, Fa4⟩ .nil)
  have lift : ∀ {c : String} {a : Addr} {items : Array Value}, SeqAt s.heap c a items → a ≠ src → SeqAt B₁ c a items := fun x hn => (seq_hide x hn).keeps hBB
  have Slb := lift hlb hlbs
  have Sls := lift hls hlss
  have Sb0 := lift hb0 (ne_cls hb0 W.src (by decide))
  have Sb1 := lift hb1 (ne_cls hb1 W.src (by decide))
  have Ss0 := lift hs0 (ne_cls hs0 W.src (by decide))
  have Ss1 := lift hs1 (ne_cls hs1 W.src (by decide))
  refine wpAny_For ?_
  repeat kbo_bools
  refine take_spec W₅ G₃ (D₁.less (by decide)) hf1 hit₂ (by decide) (by unfold IntOk; decide) ?_
  intro r5 h₅ tk₅ u₅ it₃ hr5 hr6 hit₃ W₆
  obtain ⟨n, rfl⟩ := Int.eq_ofNat_of_zero_le hr5
  repeat kbo_bools
  refine x_iterRange (n := n) D₁ W₆ (by omega) fun I St h₇ tk₇ K hS hI hwrF hst => ?_
  have W₇ := W₆.grow hS
  have hIL : I ≠ L' := fun e => by
    obtain ⟨o, _, _, ho, _⟩ := W₆.ns
    rw [e, ho] at hI; cases hI
  have hIM : I ∉ adr [(src, it₃)] := fun q => by
    obtain ⟨p, hp, e⟩ := List.mem_map.mp q
    obtain ⟨o, ho⟩ := (W₆.mu p hp).1.get
    rw [e, hI] at ho; cases ho
  refine' x_forLoop K W₇ (fun i B Mu m => ∃ it vs hs lsh, Mu = [(src, it)] ∧ IsSrc it ∧ m "shares" = some (.ref lsh) ∧ m "source" = some (.ref src) ∧ m "some" = some (.ref so) ∧ SeqAt B "list" lsh (List.toArray vs) ∧ Pts B vs hs ∧ ShsOk hs ∧ hs.length = 2 + i) ?hJ ?hfp ?hwr ?hwrF hst ?gL ?gk ?gl ?h0 ?turn ?done
  case hJ => rintro i B B' Mu m k ⟨it, vs, hs, lsh, e1, e2, e3, e4, e5, e6, e7, e8, e9⟩; exact ⟨it, vs, hs, lsh, e1, e2, e3, e4, e5, k _ _ _ e6, e7.mono k, e8, e9⟩
  case hfp =>
    intro b hb
    simp only [List.mem_cons, List.not_mem_nil, or_false] at hb
    rw [hb]; exact ⟨hIL, hIM⟩
  case hwr =>
    intro b hb
    simp only [List.mem_cons, List.not_mem_nil, or_false] at hb
    rw [hb]; exact none_mono W₆.keep hI
  case hwrF =>
    intro i h hi b hb
    simp only [List.mem_cons, List.not_mem_nil, or_false] at hb
    rw [hb]; exact hwrF i h hi
  case gL => rfl
  case gk => rfl
  case gl => rfl
  case h0 => exact ⟨it₃, _, _, sh, rfl, hit₃, rfl, rfl, rfl, Ssh, hps0, hsh0, rfl⟩
  case turn =>
    rintro i v B₃ Mu₁ m₁ h₈ tk₈ hi hP hB3 hM W₈ ⟨it₄, vs, hs, lsh, rfl, hit₄, e3, e4, e5, e6, e7, e8, e9⟩
    have G₄ := G₃.keeps hB3
    have hvl : vs.length = 2 + i := by rw [e7.1, e9]
    have Sso' := Sso.keeps hB3
    obtain ⟨f1, hf1, if1⟩ := G₄.take.name'
    obtain ⟨f2, hf2, if2⟩ := G₄.one.name'
    repeat kbo_bools
    refine x_len_list (W₈.old e6) (by omega) ?_
    intro u tk
    repeat kbo_bools
    refine take_spec W₈ G₄ (D₁.less (by decide)) hf1 hit₄ (by omega) (by unfold IntOk; omega) ?_
    intro r6 h₉ tk₉ u₉ it₅ hr7 hr8 hit₅ W₉
    obtain ⟨k, rfl⟩ := Int.eq_ofNat_of_zero_le hr7
    repeat kbo_bools
    rename_i h₉' W₉'
    have hso2 : so ≠ src := fun e => by
      have h1 := (W₈.mu _ List.mem_cons_self).2
      obtain ⟨o, ho, _⟩ := Sso'
      rw [e] at ho; rw [h1] at ho; cases ho
    refine x_LUp W₉' (W₉'.old e6) (by rw [sizeLine_eq]; omega) fun t1 h₁₀ W₁₀ => ?_
    repeat kbo_bools
    refine one_spec W₁₀ G₄ (D₁.less (by decide)) hf2 hit₅ (W₁₀.old Sso') hso2 (by simp) (by simp) ?_
    intro x1 h₁₁ tk₁₁ it₆ hx1 hit₆ W₁₁
    repeat kbo_bools
    refine one_spec W₁₁ G₄ (D₁.less (by decide)) hf2 hit₆ (W₁₁.old Sso') hso2 (by simp) (by simp) ?_
    intro x2 h₁₂ tk₁₂ it₇ hx2 hit₇ W₁₂
    repeat kbo_bools
    rename_i T3 _ _ l2 h₁₃ W₁₃ _
    refine x_add_list W₁₃ (W₁₃.seq (by kcf_m)) (W₁₃.seq List.mem_cons_self) (by rw [sizeLine_eq]; simp; omega) ?_
    intro l3 h₁₄ W₁₄
    repeat kbo_bools
    refine x_LDn W₁₄ (W₁₄.old e6) (by rw [sizeLine_eq]; omega) fun t2 h₁₅ W₁₅ => ?_
    repeat kbo_bools
    refine x_add_list W₁₅ (W₁₅.seq (by kcf_m)) (W₁₅.seq List.mem_cons_self) (by rw [sizeLine_eq]; simp; omega) ?_
    intro l5 h₁₆ W₁₆
    repeat kbo_bools
    rename_i h₁₇ W₁₇
    obtain ⟨B₄, hB4, W₁₈, hin₄⟩ := W₁₇.rebase
    obtain ⟨y1, f1, o1⟩ := hsome x1 hx1
    obtain ⟨y2, f2, o2⟩ := hsome x2 hx2
    have ST3 : SeqAt B₄ "tuple" T3 #[x1, x2] := W₁₇.carry hin₄ (by kcf_m)
    have hM4 : SeqMono B₂ B₄ := fun c a items x => (x.keeps hB3).keeps hB4
    have hP3 : PtAt B₄ (.ref T3) (y1, y2) := ⟨T3, _, _, rfl, ST3, f1.mono hM4, f2.mono hM4⟩
    have e7' := e7.mono (SeqMono.of hB4)
    refine ⟨rfl, h₁₇, _, B₄, [(src, it₇)], _, rfl, hB4, rfl, W₁₈, it₇, _, hs.take k ++ [(y1, y2)] ++ hs.drop k, l5, rfl, hit₇, rfl, by exact e4, by exact e5, W₁₇.carry hin₄ List.mem_cons_self, ((e7'.take k).append (.cons hP3 .nil)).append (e7'.drop k), e8.insert k o1 o2, ?_⟩
    have hkl : k ≤ hs.length := by omega
    simp
    omega
  case done =>
    rintro B₃ Mu₁ m₁ h₈ tk₈ hB3 hM W₈ ⟨it₄, vs, hs, lsh, rfl, hit₄, e3, e4, e5, e6, e7, e8, e9⟩
    have G₄ := G₃.keeps hB3
    have hvl : vs.length = 2 + n := by rw [e7.1, e9]
    repeat kbo_bools
    keq_rows
    repeat kbo_bools
    refine' x_CBEC D₁ W₈ (.inl rfl) (W₈.old e6) ?clM (fun i B Mu' ys => Mu' = [(src, it₄)] ∧ Pts B ys ((hs.map fun p => (plc q0 S0 P0 p.1, plc q1 S1 P1 p.2)).take i)) ?cJ ?ccf ?cpc ?ck ?cx ?c0 (by omega) ?cturn ?cfin
    case clM => intro q; have h1 := (W₈.mu _ List.mem_cons_self).2; obtain ⟨o, ho, _⟩ := e6; simp only [adr, List.map_cons, List.map_nil, List.mem_cons, List.not_mem_nil, or_false] at q; rw [q, h1] at ho; cases ho
    case cJ => exact fun k x => ⟨x.1, x.2.mono k⟩
    case ccf => intro; rfl
    case cpc => intro; rfl
    case ck => rfl
    case cx => intros; rfl
    case c0 => exact ⟨rfl, .nil⟩
    case cturn =>
      intro i v B₅ Cf cS D Mu₂ ys m₂ h₉ tk₉ hiv hB5 hO hM2 W₉ hcS hys hJ
      obtain ⟨rfl, hJ⟩ := hJ
      obtain ⟨p, hp, hpa⟩ := e7.2 i v hiv
      have G₅ := G₄.keeps hB5
      obtain ⟨f3, hf3, if3⟩ := G₅.place.name'
      repeat kbo_bools
      keq_rows
      repeat kbo_bools
      rename_i T h₁₀ W₁₀
      obtain ⟨fa, fx, fy, rfl, Sfa, ⟨x1, tx1, ux1, rfl, Sx1⟩, ⟨x2, tx2, ux2, rfl, Sx2⟩⟩ := hpa
      have hT : T ∉ adr ([(src, it₄)] ++ [(D, ys.toArray)]) := (W₁₀.led _ List.mem_cons_self).2.1
      refine' x_CBE (J := fun i B Mu' zs => Mu' = [(src, it₄)] ++ [(D, ys.toArray)] ∧ Frs B zs ([plc q0 S0 P0 p.1, plc q1 S1 P1 p.2].take i)) D₁ W₁₀ (.inr rfl) (W₁₀.seq List.mem_cons_self) hT ?dJ ?dcell ?dk ?dx ?d0 (by simp) ?dturn ?dfin
      case dJ => exact fun k x => ⟨x.1, x.2.mono k⟩
      case dcell => decide
      case dk => rfl
      case dx => rfl
      case d0 => exact ⟨rfl, rfl, fun i v e => by simp at e⟩
      case dturn =>
        intro j x B₆ Cg D' Mu₃ zs m₃ h₁₁ tk₁₁ hjx hB6 hO' hM3 W₁₁ hzs hJ'
        obtain ⟨rfl, hJ'⟩ := hJ'
        have hpm : p ∈ hs := List.mem_of_getElem? hp
        have par := two_at (P := fun (j : Nat) (x : Value) => ∃ (bj sj fj : Addr) (tx : Tok) (q : Fr2) (S P : Int) (wj : Nat) (fr : Fr2) (k1 k2 k3 k4 k5 k6 k7 : Tok), x = .int (j : Int) tx ∧ j < 2 ∧ ([.ref b0, .ref b1] : List Value)[j]? = some (.ref bj) ∧ ([.ref s0, .ref s1] : List Value)[j]? = some (.ref sj) ∧
            ([.ref x1, .ref x2] : List Value)[j]? = some (.ref fj) ∧ SeqAt B₁ "tuple" bj #[.int q.1 k1, .int q.2 k2] ∧ SeqAt B₁ "tuple" sj #[.int S k3, .int P k4, .int (wj : Int) k5] ∧ SeqAt B₃ "tuple" fj #[.int fr.1 k6, .int fr.2 k7] ∧
            BegOk q ∧ Side S P wj ∧ ShOk fr ∧ [plc q0 S0 P0 p.1, plc q1 S1 P1 p.2][j]? = some (plc q S P fr)) hjx
          ⟨b0, s0, x1, _, q0, S0, P0, w0, p.1, _, _, _, _, _, _, _, rfl, by decide, rfl, rfl, rfl, Sb0, Ss0, Sx1, ob0, sd0, (e8.1 p hpm).1, rfl⟩
          ⟨b1, s1, x2, _, q1, S1, P1, w1, p.2, _, _, _, _, _, _, _, rfl, by decide, rfl, rfl, rfl, Sb1, Ss1, Sx2, ob1, sd1, (e8.1 p hpm).2, rfl⟩
        obtain ⟨bj, sj, fj, tx, q, S, P, wj, fr, k1, k2, k3, k4, k5, k6, k7, rfl, hj2, l1, l2, l3, Sb, Ss, Sf, obq, sdq, osh, lF⟩ := par
        have hs36 : Sub B₃ B₆ := fun b o e => hB6 _ _ (hB5 _ _ e)
        have hs16 : Sub B₁ B₆ := fun b o e => hs36 _ _ (hB3 _ _ (hB2 _ _ e))
        have hk1 : Sub B₁ h₁₁ := fun b o e => W₁₁.keep _ _ (hs16 _ _ e)
        have hk3 : Sub B₃ h₁₁ := fun b o e => W₁₁.keep _ _ (hs36 _ _ e)
        have hk5 : Sub B₅ h₁₁ := fun b o e => W₁₁.keep _ _ (hB6 _ _ e)
        have G₆ := G₅.keeps hB6
        obtain ⟨f4, hf4, if4⟩ := G₆.place.name'
        have hsj := side_ok sdq
        obtain ⟨c1, c2, c3, c4⟩ := hsj
        obtain ⟨d1, d2, d3, d4⟩ := obq
        obtain ⟨g1, g2, g3, g4⟩ := osh
        have hpl := place_ok d3 d4 c3 c4 g3 g4
        repeat kbo_bools
        refine x_cell (C := B₁) hk1 C1 ?_ rfl rfl rfl
        repeat kbo_bools
        refine x_list_at (Slb.keeps hk1) (by omega) (by omega) (by rw [Int.toNat_natCast]; exact l1) ?_ (by with_unfolding_all rfl)
        repeat kbo_bools
        refine x_cell (C := B₁) hk1 C2 ?_ rfl rfl rfl
        repeat kbo_bools
        refine x_list_at (Sls.keeps hk1) (by omega) (by omega) (by rw [Int.toNat_natCast]; exact l2) ?_ (by with_unfolding_all rfl)
        repeat kbo_bools
        refine x_cell (C := B₅) hk5 hcS ?_ rfl rfl rfl
        repeat kbo_bools
        refine x_tup_at (l := [.ref x1, .ref x2]) (j := j) (Sfa.keeps hk3) (by omega) (by omega) (by simp [seqIndex?]; omega) l3 ?_ (by with_unfolding_all rfl)
        repeat kbo_bools
        refine place_spec W₁₁ G₆ (D₁.less (by decide)) hf4 (Sb.keeps hk1) (Ss.keeps hk1) (Sf.keeps hk3) (ok_le d1 d2) (ok_le (Int.le_of_lt d3) d4) (ok_le c1 c2) (ok_le c3 c4) (ok_le g1 (Int.le_trans g2 g4)) (ok_le (Int.le_of_lt g3) g4) hpl.1 (ok_le (Int.le_of_lt hpl.1) hpl.2) ?_
        intro r' h₁₂ tk₁₂ v1 v2 xx yy hxx hyy W₁₂
        obtain ⟨B₇, hB7, W₁₃, hin₇⟩ := W₁₂.rebase
        refine ⟨h₁₂, tk₁₂, B₇, _, _, rfl, hB7, hM3, W₁₃, rfl, (hJ'.mono (SeqMono.of hB7)).snoc lF ⟨r', v1, v2, rfl, ?_⟩⟩
        have := W₁₂.carry hin₇ List.mem_cons_self
        subst hxx hyy
        exact this
      case dfin =>
        intro D2 h₁₁ tk₁₁ B₆ Mu₃ zs hB6 hO' hM3 W₁₁ hD2 hzs hJ' hDn2
        obtain ⟨rfl, hJ'⟩ := hJ'
        obtain ⟨z1, z2, rfl⟩ : ∃ z1 z2, zs = [z1, z2] := two_of hzs
        obtain ⟨y1, e1, fz1⟩ := hJ'.2 0 z1 rfl
        obtain ⟨y2, e2, fz2⟩ := hJ'.2 1 z2 rfl
        have e1' : plc q0 S0 P0 p.1 = y1 := by simpa using e1
        have e2' : plc q1 S1 P1 p.2 = y2 := by simpa using e2
        repeat kbo_bools
        refine x_tupof W₁₁ (W₁₁.old hD2) (by rw [sizeLine_eq]; simp) ?_
        intro T2 h₁₂ W₁₂ hT2
        obtain ⟨B₇, hB7, W₁₃, hin₇⟩ := W₁₂.rebase
        have ST2 := W₁₂.carry hin₇ List.mem_cons_self
        have hM7 : SeqMono B₆ B₇ := SeqMono.of hB7
        have hS57 : Sub B₅ B₇ := fun b o e => hB7 _ _ (hB6 _ _ e)
        subst e1' e2'
        exact ⟨h₁₂, _, B₇, [(src, it₄)], _, rfl, hS57, rfl, W₁₃, rfl, (hJ.mono (SeqMono.of hS57)).snoc (by rw [List.getElem?_map, hp]; rfl) ⟨T2, _, _, rfl, ST2, fz1.mono hM7, fz2.mono hM7⟩⟩
    case cfin =>
      intro D2 h₉ tk₉ B₅ Mu₃ zs hB5 hO' hM3 W₉ hD2 hzs hJ' hDn2
      obtain ⟨rfl, hJ'⟩ := hJ'
      have hl : vs.length = (hs.map fun p => (plc q0 S0 P0 p.1, plc q1 S1 P1 p.2)).length := by rw [List.length_map, e7.1]
      rw [hl, List.take_length] at hJ'
      repeat kbo_bools
      have hk : Sub B₁ B₅ := fun b o e => hB5 _ _ (hB3 _ _ (hB2 _ _ e))
      refine h D2 h₉ _ it₄ zs hs hit₄ e8 (by omega) (W₉.old hD2) (hJ'.mono (SeqMono.of W₉.keep)) ?_ ?_
      · cases q : s.heap.get? D2 with
        | none => rfl
        | some o =>
          by_cases hne : D2 = src
          · obtain ⟨o', ho'⟩ := W₈.src.get
            rw [hne, ho'] at hDn2; cases hDn2
          · rw [W₈.keep _ _ (hB3 _ _ (hB2 _ _ (hBB _ _ (hideAll_get [src] q (by simpa using hne)))))] at hDn2; cases hDn2
      · exact W.turn (fun b o hb e => W₉.keep _ _ (hk _ _ (hBB _ _ (hideAll_get [src] e (by simpa using hb))))) W₉.src
end

def Sgs (h : Heap) (fvs : List Value) (sgs : List Sg) : Prop := fvs.length = sgs.length ∧ ∀ (i : Nat) v, fvs[i]? = some v → ∃ a g, v = .ref a ∧ sgs[i]? = some g ∧ SgAt h a g
theorem Sgs.mono {h h' : Heap} {fvs : List Value} {sgs : List Sg} (x : Sgs h fvs sgs) (k : ∀ a g, SgAt h a g → SgAt h' a g) : Sgs h' fvs sgs :=
  ⟨x.1, fun i v e => let ⟨a, g, e1, e2, y⟩ := x.2 i v e; ⟨a, g, e1, e2, k _ _ y⟩⟩
theorem Sgs.push {h : Heap} {fvs : List Value} {sgs : List Sg} {a : Addr} {g : Sg} (x : Sgs h fvs sgs) (y : SgAt h a g) : Sgs h (fvs ++ [.ref a]) (sgs ++ [g]) := by
  refine ⟨by simp [x.1], fun i w e => ?_⟩
  by_cases hi : i < fvs.length
  · rw [List.getElem?_append_left hi] at e
    obtain ⟨b, k, e1, e2, z⟩ := x.2 i w e
    exact ⟨b, k, e1, by rw [List.getElem?_append_left (by rw [← x.1]; exact hi)]; exact e2, z⟩
  · rw [List.getElem?_append_right (by omega)] at e
    have hi0 : i = fvs.length := by
      have := (List.getElem?_eq_some_iff.mp e).1
      simp at this; omega
    subst hi0
    simp at e; subst e
    exact ⟨a, g, rfl, by rw [x.1, List.getElem?_append_right (Nat.le_refl _), Nat.sub_self]; rfl, y⟩
theorem plain_seq {h : Heap} {a : Addr} {items : Array Value} (x : h.PlainList a items) : SeqAt h "list" a items := let ⟨n, e⟩ := x; ⟨_, e, rfl, n, rfl⟩
theorem SgAt.tup {h : Heap} {a : Addr} {g : Sg} (x : SgAt h a g) : ∃ items, SeqAt h "tuple" a items := by
  cases g with
  | close => exact let ⟨t, x⟩ := x; ⟨_, x⟩
  | pl w ps => exact let ⟨h1, h2, t, x⟩ := x; ⟨_, x⟩
  | arc ah ps => exact let ⟨h1, t, x⟩ := x; ⟨_, x⟩
theorem SgAt.one {h h' : Heap} {a : Addr} {g : Sg} (x : SgAt h a g) (k : ∀ items, SeqAt h "tuple" a items → SeqAt h' "tuple" a items) : SgAt h' a g := by
  cases g with
  | close => exact let ⟨t, x⟩ := x; ⟨t, k _ x⟩
  | pl w ps => exact let ⟨h1, h2, t, x⟩ := x; ⟨h1, h2, t, k _ x⟩
  | arc ah ps => exact let ⟨h1, t, x⟩ := x; ⟨h1, t, k _ x⟩

section
variable {prog : Program} {w : World} {A : Around} {E : Value → Shared → Prop} {s : Shared} {B : Heap} {L : Addr} {Mu : Mut} {X : Led} {m mg mb : Str → Option Value} {v : Value} {Q : Value → Shared → Prop}

theorem four {a b c d : Value} {k : Nat} (hk : k < 3) : ([a, b, c, d] : List Value)[(1 + (k : Int)).toNat]? = some (if k = 0 then b else if k = 1 then c else d) := by
  have e : (1 + (k : Int)).toNat = k + 1 := by omega
  rw [e]
  match k, hk with
  | 0, _ => rfl
  | 1, _ => rfl
  | 2, _ => rfl
theorem word_at {wx : Str} {tx t1 t2 t3 : Tok} {k : Nat} (hk : k < 3) (hwx : wx ≠ "close") : ∃ wd td, ([.str "" t1, .str wx tx, .str "quad" t2, .str "cubic" t3] : List Value)[(1 + (k : Int)).toNat]? = some (.str wd td) ∧ wd ≠ "close" := by
  rw [four hk]
  by_cases h0 : k = 0
  · rw [if_pos h0]; exact ⟨wx, tx, rfl, hwx⟩
  · rw [if_neg h0]
    by_cases h1 : k = 1
    · rw [if_pos h1]; exact ⟨"quad", t2, rfl, by decide⟩
    · rw [if_neg h1]; exact ⟨"cubic", t3, rfl, by decide⟩

/-- an empty list, to be grown -/
theorem x_list0 {Q : Value → Shared → Prop} (W : Wx B L Mu X s.heap m)
    (h : ∀ r h' B', Sub B B' → Wx B' L Mu [] h' m → B'.PlainList r ([] : List Value).toArray → s.heap.get? r = none → Q (.ref r) { s with heap := h' }) : wpAny (model prog w) A (newList []) Q E s := by
  refine wpAny_newObj_type ?_
  have hn : s.heap.get? s.heap.objs.size = none := Heap.get?_none_of_le (Nat.le_refl _)
  have W₁ := W.add (h' := s.heap.push { cls := .type "list", dict := none, data := .seq ([] : List Value).toArray }) (c := "list") (items := ([] : List Value).toArray) (fun _ _ e => Heap.get?_push_of_some _ e) hn ⟨_, Heap.get?_push_size _ rfl, rfl, 0, rfl⟩
  obtain ⟨B', hB, W₂, hin⟩ := W₁.rebase
  have hm := W₁.led _ List.mem_cons_self
  exact h _ _ B' hB W₂ ⟨0, hin _ _ (Heap.get?_push_size _ rfl) (ns_ne W₁.ns hm.1) hm.2.1⟩ hn

theorem x_push {fa : Addr} {fvs : List Value} {x : Value} {Q : Value → Shared → Prop} (W : Wx B L Mu X s.heap m) (hf : B.PlainList fa fvs.toArray) (hsz : fvs.length ≤ 5000)
    (h : ∀ h' B', Sub (hideAll B [fa]) B' → Wx B' L Mu [] h' m → B'.PlainList fa (fvs ++ [x]).toArray → (∀ c a items, SeqAt s.heap c a items → a ≠ fa → a ∉ adr Mu → SeqAt B' c a items) → Q .none { s with heap := h' }) :
    wpAny (model prog w) A (call (.builtin "list.append") [.ref fa, x]) Q E s := by
  have hfh : s.heap.PlainList fa fvs.toArray := let ⟨n, e⟩ := hf; ⟨n, W.keep _ _ e⟩
  obtain ⟨nf, ef⟩ := hf
  have hfL : fa ≠ L := fun e => by rw [e, W.nL] at ef; cases ef
  have hfM : fa ∉ adr Mu := fun q => by
    obtain ⟨p, hp, e⟩ := List.mem_map.mp q
    rw [← e, (W.mu p hp).2] at ef; cases ef
  refine wpAny_list_append_plain hfh (fun h' hp hs => ?_) (hsz := by rw [List.size_toArray, sizeLine_eq]; omega)
  have W₀ : Wx (hideAll B [fa]) L Mu [] s.heap m := (W.drop (X' := []) (fun p hp => nomatch hp)).less (fun b o e => of_hideAll _ e)
  have W₁ : Wx (hideAll B [fa]) L Mu [] h' m := W₀.keepX (l := [fa]) (fun b o hb e => (hs.2 b (by simpa using hb)).trans e) (by simpa using Ne.symm hfL) (fun b hb q => by
      simp only [List.mem_cons, List.not_mem_nil, or_false] at q
      exact hfM (q ▸ hb)) (fun b hb => by
      simp only [List.mem_cons, List.not_mem_nil, or_false] at hb
      rw [hb]; exact hideAll_none _ (by simp)) (fun p hp => nomatch hp)
  obtain ⟨B', hB, W₂, hin⟩ := W₁.rebase
  refine h h' B' hB W₂ ?_ ?_
  · obtain ⟨n, e⟩ := hp
    exact ⟨n, by have := hin _ _ e hfL hfM; simpa using this⟩
  · rintro c a items ⟨o, ho, r⟩ hne hM
    exact ⟨o, hin _ _ ((hs.2 a hne).trans ho) (ns_ne W.ns ⟨o, ho, r⟩) hM, r⟩

end
local macro_rules | `(tactic| kbo_bools) => `(tactic| first
  | ((with_reducible refine' x_list0 ?W ?h); (case W => with_reducible assumption); intro _ _ _ _ _ _ _)
  | with_reducible refine Constant_bool ?_)
section
variable {prog : Program} {w : World} {A : Around} {E : Value → Shared → Prop} {s : Shared} {B : Heap} {L : Addr} {Mu : Mut} {X : Led} {m mg mb : Str → Option Value} {v : Value} {Q : Value → Shared → Prop}

set_option maxHeartbeats 4000000 in
theorem segments_spec {src lp : Addr} {it : Array Value} {vs : List Value} (W : Wx B L ((src, it) :: Mu) X s.heap m) (G : Gl mg mb B) (D : AOk 3 A) (hv : mg "_law_segments" = some v) (hit : IsSrc it)
    (hl : SeqAt s.heap "list" lp vs.toArray) (hne : lp ≠ src) (hlen : vs.length ≤ 1000)
    (h : ∀ r h' tk it' fvs sgs, IsSrc it' → SeqAt h' "list" r (List.toArray fvs) → Sgs h' fvs sgs → (sgs.map Sg.pts).flatten = vs → s.heap.get? r = none → Wx B L ((src, it') :: Mu) X h' m → Q (.ref r) { s with heap := h', toks := tk }) :
    wpAny (model prog w) A (call v [.ref src, .ref lp]) Q E s := by
  have fn := G.segments
  conv at fn => (arg 4; whnf)
  conv at fn => (arg 5; whnf)
  conv at fn => (arg 6; whnf)
  refine enterS fn W G D hv (by intros; rfl) (by decide) (by intro x hx; revert x; exact locs rfl) (by rfl) (by rfl) (by rfl) ?_
  intro a' cdv L' h₁ W₁ G₁ D₁
  dsimp only [List.map, List.zip, List.zipWith, List.length] at W₁ ⊢
  have Slp := seq_hide hl hne
  repeat kbo_bools
  rename_i fa h₂ B₁ hB1 W₂ hfa hfn _ _ _ _ _ _ _ h₃ W₃
  have hf0 : (hideAll s.heap [src]).get? fa = none := none_mono W₁.keep hfn
  have hfs : fa ≠ src := fun e => by
    obtain ⟨o, ho⟩ := W₁.src.get
    rw [← e] at ho
    exact absurd (hfn.symm.trans ho) (by simp)
  have hlpf : lp ≠ fa := fun e => by
    obtain ⟨o, ho⟩ := Slp.get
    rw [e, hf0] at ho; cases ho
  refine x_while (fun nn s' => ∃ h' tk it' Bk fvs sgs at' t X' m', s' = { s with heap := h', toks := tk } ∧ Wx Bk L' [(src, it')] X' h' m' ∧ IsSrc it' ∧ Sub (hideAll s.heap [src]) Bk ∧ Bk.PlainList fa (List.toArray fvs) ∧ Sgs Bk fvs sgs ∧
      (sgs.map Sg.pts).flatten = vs.take at' ∧ at' ≤ vs.length ∧ fvs.length ≤ 2 * at' ∧ m' "found" = some (.ref fa) ∧ m' "at" = some (.int ((at' : Nat) : Int) t) ∧ m' "points" = some (.ref lp) ∧ m' "source" = some (.ref src) ∧ nn = vs.length - at') ?_ vs.length ?_
  · rintro nn s' ⟨h₄, tk₄, it₄, B₄, fvs, sgs, at', t4, X₄, m₄, rfl, W₄, hit₄, hB4, hfa4, hsg, hfl, hat, hfv, e1, e2, e3, e4, rfl⟩
    have G₄ := G₁.keeps hB4
    have Slp4 := Slp.keeps hB4
    obtain ⟨g1, g2, g3, g4, g5, g6, g7⟩ := G₄.no
    obtain ⟨f1, hf1, if1⟩ := G₄.take.name'
    obtain ⟨f2, hf2, if2⟩ := G₄.one.name'
    repeat kbo_bools
    refine x_len_list (W₄.old Slp4) (by omega) ?_
    intro u tk
    repeat kbo_bools
    refine x_if (fun hlt => ?_) (fun hge => ?_)
    · repeat kbo_bools
      refine x_len_list (W₄.old Slp4) (by omega) ?_
      intro u tk
      repeat kbo_bools
      refine x_min W₄ D₁ fun h₅ tk₅ um W₅ => ?_
      obtain ⟨mn, hmn, hm0, hm3, hmv⟩ : ∃ mn : Int, min 3 ((vs.length : Int) - (at' : Int)) = mn ∧ 0 < mn ∧ mn ≤ 3 ∧ mn + at' ≤ vs.length := ⟨_, rfl, by omega, by omega, by omega⟩
      rw [hmn]
      repeat kbo_bools
      refine take_spec W₅ G₄ (D₁.less (by decide)) hf1 hit₄ hm0 (by unfold IntOk; omega) ?_
      intro r6 h₆ tk₆ u₆ it₆ hr0 hr1 hit₆ W₆
      obtain ⟨k, rfl⟩ := Int.eq_ofNat_of_zero_le hr0
      have hk3 : k < 3 := by omega
      repeat kbo_bools
      rename_i h₇ W₇
      rw [show (at' : Int) + (1 + (k : Int)) = ((at' + (1 + k) : Nat) : Int) by omega]
      refine x_LMid W₇ (W₇.old Slp4) (by rw [sizeLine_eq]; omega) (by omega) (by omega) fun l1 h₈ W₈ => ?_
      have hpl : at' + (1 + k) - at' = 1 + k := by omega
      rw [hpl] at W₈
      repeat kbo_bools
      refine x_tupof W₈ (W₈.seq List.mem_cons_self) (by rw [sizeLine_eq]; simp; omega) ?_
      intro T1 h₉ W₉ hT1
      repeat kbo_bools
      rename_i rl h₁₁ W₁₁ hrn
      have hne₁ : rl ≠ src := by simpa using (W₁₁.led _ List.mem_cons_self).2.1
      refine one_spec W₁₁ G₄ (D₁.less (by decide)) hf2 hit₆ (W₁₁.seq List.mem_cons_self) hne₁ (by simp) (by simp) ?_
      intro x h₁₂ tk₁₂ it₇ hx hit₇ W₁₂
      obtain ⟨wx, tx, rfl, hwx⟩ : ∃ wx tx, x = .str wx tx ∧ wx ≠ "close" := by
        simp only [List.mem_cons, List.not_mem_nil, or_false] at hx
        rcases hx with rfl | rfl | rfl
        · exact ⟨_, _, rfl, by decide⟩
        · exact ⟨_, _, rfl, by decide⟩
        · exact ⟨_, _, rfl, by decide⟩
      clear hx
      repeat kbo_bools
      rename_i rw h₁₃ W₁₃ _
      obtain ⟨wd, td, hwd, hwc⟩ := word_at (tx := tx) (t1 := _) (t2 := _) (t3 := _) hk3 hwx
      refine x_list_at (W₁₃.seq List.mem_cons_self) (by omega) (by omega) hwd ?_ (by with_unfolding_all rfl)
      repeat kbo_bools
      have key : ∀ (h₁₄ : Heap) (tk : Nat) (T2 : Addr) (X : Led) (m' : Str → Option Value) (ah : List Value), Wx B₄ L' [(src, it₇)] X h₁₄ m' → m' "ahead" = some (.ref T2) → m' "word" = some (.str wd td) → m' "part" = some (.ref T1) →
          (∃ tm, m' "many" = some (.int (1 + (k : Int)) tm)) → m' "found" = some (.ref fa) → m' "points" = some (.ref lp) → m' "source" = some (.ref src) → (∃ ta, m' "at" = some (.int ((at' : Nat) : Int) ta)) →
          (T2, "tuple", ah.toArray) ∈ X → (T1, "tuple", ((vs.drop at').take (1 + k)).toArray) ∈ X → ((wd = "arc" ∧ ah.length = 5) ∨ (wd ≠ "arc" ∧ ah = [])) → Qs .next { s with heap := h₁₄, toks := tk } := by
        clear e1 e2 e3 e4
        rintro h₁₄ tk T2 X m' ah W₁₄ k1 k2 k3 ⟨tm, k4⟩ k5 k6 k7 ⟨ta, k8⟩ mT2 mT1 hah
        repeat kbo_bools
        refine wpAny_Expr ?_
        refine MethodCall_ ?_
        repeat kbo_bools
        refine Calls.getMethod_list_append (W₁₄.keep _ _ hfa4.choose_spec) rfl rfl ?_
        refine callWith_method1 ?_
        repeat kbo_bools
        rename_i T4 h₁₅ W₁₅
        have ST2 : SeqAt h₁₅ "tuple" T2 ah.toArray := W₁₅.seq (List.mem_cons_of_mem _ mT2)
        have hal5 : ah.length ≤ 5 := by rcases hah with ⟨_, q⟩ | ⟨_, rfl⟩ <;> simp_all
        refine x_add_tup W₁₅ (W₁₅.seq List.mem_cons_self) ST2 (by simp) (by rw [sizeLine_eq]; simp; omega) ?_
        intro r1 h₁₆ W₁₆ S1
        repeat kbo_bools
        have ST1 : SeqAt h₁₆ "tuple" T1 (((vs.drop at').take (1 + k)).toArray) := W₁₆.seq (List.mem_cons_of_mem _ mT1)
        refine x_add_tup W₁₆ S1 ST1 (by simp) (by rw [sizeLine_eq]; simp; omega) ?_
        intro r2 h₁₇ W₁₇ S2
        repeat kbo_bools
        refine x_push W₁₇ hfa4 (by omega) fun h₁₈ B₅ hBp W₁₈ hf5 hcar => ?_
        have hB5 : Sub (hideAll s.heap [src]) B₅ := fun b o e => hBp _ _ (hideAll_get _ (hB4 _ _ e) fun q => by
          simp only [List.mem_cons, List.not_mem_nil, or_false] at q
          rw [q, hf0] at e; cases e)
        have hfa17 : SeqAt h₁₇ "list" fa (List.toArray fvs) := (plain_seq hfa4).keeps W₁₇.keep
        have S2' := hcar _ _ _ S2 (ne_cls S2 hfa17 (by decide)) (by simpa using ne_cls S2 W₁₇.src (by decide))
        obtain ⟨g, hg, hgp⟩ : ∃ g, SgAt B₅ r2 g ∧ g.pts = (vs.drop at').take (1 + k) := by
          rcases hah with ⟨rfl, hal⟩ | ⟨harc, rfl⟩
          · exact ⟨.arc ah ((vs.drop at').take (1 + k)), ⟨hal, td, by simpa using S2'⟩, rfl⟩
          · exact ⟨.pl wd ((vs.drop at').take (1 + k)), ⟨hwc, harc, td, by simpa using S2'⟩, rfl⟩
        have hsg5 : Sgs B₅ (fvs ++ [.ref r2]) (sgs ++ [g]) := (hsg.mono fun a g x => x.one fun items y => by
          have y17 := (y.keeps W₁₇.keep)
          exact hcar _ _ _ y17 (ne_cls y17 hfa17 (by decide)) (by simpa using ne_cls y17 W₁₇.src (by decide))).push hg
        have hflat : (sgs.map Sg.pts).flatten ++ (vs.drop at').take (1 + k) = vs.take (at' + (1 + k)) := by
          rw [hfl]; exact List.take_add.symm
        have G₅ := G₁.keeps hB5
        obtain ⟨f3, hf3, if3⟩ := G₅.take.name'
        repeat kbo_bools
        refine take_spec W₁₈ G₅ (D₁.less (by decide)) hf3 hit₇ (by decide) (by unfold IntOk; decide) ?_
        intro r8 h₁₉ tk₁₉ u₁₉ it₉ hr8 hr9 hit₉ W₁₉
        repeat kbo_bools
        refine x_ife (fun hz => ?_) (fun hz => ?_)
        · repeat kbo_bools
          refine wpAny_Expr ?_
          refine MethodCall_ ?_
          repeat kbo_bools
          refine Calls.getMethod_list_append (W₁₉.keep _ _ hf5.choose_spec) rfl rfl ?_
          refine callWith_method1 ?_
          repeat kbo_bools
          rename_i T5 h₂₀ W₂₀
          refine x_push W₂₀ hf5 (by simp; omega) fun h₂₁ B₆ hBq W₂₁ hf6 hcar2 => ?_
          have hB6 : Sub (hideAll s.heap [src]) B₆ := fun b o e => hBq _ _ (hideAll_get _ (hB5 _ _ e) fun q => by
            simp only [List.mem_cons, List.not_mem_nil, or_false] at q
            rw [q, hf0] at e; cases e)
          have hfa20 : SeqAt h₂₀ "list" fa (List.toArray (fvs ++ [.ref r2])) := (plain_seq hf5).keeps W₂₀.keep
          have S5 := W₂₀.seq List.mem_cons_self
          have S5' := hcar2 _ _ _ S5 (ne_cls S5 hfa20 (by decide)) (by simpa using ne_cls S5 W₂₀.src (by decide))
          have hsg6 : Sgs B₆ ((fvs ++ [.ref r2]) ++ [.ref T5]) ((sgs ++ [g]) ++ [.close]) := (hsg5.mono fun a g x => x.one fun items y => by
            have y17 := (y.keeps W₂₀.keep)
            exact hcar2 _ _ _ y17 (ne_cls y17 hfa20 (by decide)) (by simpa using ne_cls y17 W₂₀.src (by decide))).push ⟨_, S5'⟩
          repeat kbo_bools
          rename_i h₂₅ W₂₅
          rw [show (at' : Int) + (1 + (k : Int)) = ((at' + (1 + k) : Nat) : Int) by omega] at W₂₅
          refine ⟨vs.length - (at' + (1 + k)), by omega, h₂₅, _, it₉, B₆, (fvs ++ [.ref r2]) ++ [.ref T5], (sgs ++ [g]) ++ [.close], at' + (1 + k), _, _, _, rfl, W₂₅, hit₉, hB6, hf6, hsg6, ?_, by omega, by simp; omega, by exact k5, rfl, by exact k6, by exact k7, rfl⟩
          rw [← hflat]; simp [show Sg.pts .close = [] from rfl, hgp]
        · repeat kbo_bools
          rename_i h₂₃ W₂₃
          rw [show (at' : Int) + (1 + (k : Int)) = ((at' + (1 + k) : Nat) : Int) by omega] at W₂₃
          refine ⟨vs.length - (at' + (1 + k)), by omega, h₂₃, _, it₉, B₅, fvs ++ [.ref r2], sgs ++ [g], at' + (1 + k), _, _, _, rfl, W₂₃, hit₉, hB5, hf5, hsg5, ?_, by omega, by simp; omega, by exact k5, rfl, by exact k6, by exact k7, rfl⟩
          rw [← hflat]; simp [hgp]
      clear hQs
      refine x_ifs (fun harc => ?_) (fun harc => ?_)
      · repeat kbo_bools
        rename_i T2 _ _ h₁₄ W₁₄
        exact key _ _ _ _ _ _ W₁₄ rfl rfl rfl ⟨_, rfl⟩ (by exact e1) (by exact e3) (by exact e4) ⟨_, by exact e2⟩ List.mem_cons_self (by kcf_m) (.inl ⟨harc, rfl⟩)
      · repeat kbo_bools
        rename_i T2 _ _ h₁₄ W₁₄
        exact key _ _ _ _ _ _ W₁₄ rfl rfl rfl ⟨_, rfl⟩ (by exact e1) (by exact e3) (by exact e4) ⟨_, by exact e2⟩ List.mem_cons_self (by kcf_m) (.inr ⟨harc, rfl⟩)
    · repeat kbo_bools
      have hae : at' = vs.length := by omega
      subst hae
      rw [List.take_length] at hfl
      refine h fa h₄ _ it₄ fvs sgs hit₄ ((plain_seq hfa4).keeps W₄.keep) (hsg.mono fun a g x => x.keeps (SeqMono.of W₄.keep)) hfl ?_ ?_
      · cases q : s.heap.get? fa with
        | none => rfl
        | some o => rw [hideAll_get [src] q (by simpa using hfs)] at hf0; cases hf0
      · exact W.turn (fun b o hb e => W₄.keep _ _ (hB4 _ _ (hideAll_get [src] e (by simpa using hb)))) W₄.src
  · exact ⟨_, _, it, B₁, [], [], 0, _, _, _, rfl, W₃, hit, hB1, hfa, ⟨rfl, fun i v e => by simp at e⟩, rfl, Nat.zero_le _, Nat.zero_le _, rfl, rfl, rfl, rfl, rfl⟩
end

/-- what a point along one axis is, in plain numbers -/
theorem plc_get {b : Fr2} {S P : Int} {q : Fr2} (hb : 0 < b.2) (hP : 0 < P) (hq : 0 < q.2) :
    ∃ g : Int, 0 < g ∧ (plc b S P q).1 * g = b.1 * P * q.2 + S * q.1 * b.2 ∧ (plc b S P q).2 * g = b.2 * P * q.2 ∧ 0 < (plc b S P q).2 := by
  have hy : 0 < b.2 * P * q.2 := Int.mul_pos (Int.mul_pos hb hP) hq
  have hg := gcd_pos' (x := b.1 * P * q.2 + S * q.1 * b.2) hy
  have h1 : (Int.gcd (b.1 * P * q.2 + S * q.1 * b.2) (b.2 * P * q.2) : Int) ∣ b.1 * P * q.2 + S * q.1 * b.2 := Int.gcd_dvd_left ..
  have h2 : (Int.gcd (b.1 * P * q.2 + S * q.1 * b.2) (b.2 * P * q.2) : Int) ∣ b.2 * P * q.2 := Int.gcd_dvd_right ..
  refine ⟨_, hg, Int.ediv_mul_cancel h1, Int.ediv_mul_cancel h2, ?_⟩
  exact Int.ediv_pos_of_pos_of_dvd hy (by omega) h2

theorem natAbs_mul_le {a b : Int} {m n : Nat} (h1 : a.natAbs ≤ m) (h2 : b.natAbs ≤ n) : (a * b).natAbs ≤ m * n := by
  rw [Int.natAbs_mul]; exact Nat.mul_le_mul h1 h2

/-- its size -/
theorem plc_ok {b : Fr2} {S P : Int} {w : Nat} {q : Fr2} (hb : BegOk b) (hs : Side S P w) (hq : ShOk q) : (plc b S P q).1.natAbs ≤ 700000000 ∧ 0 < (plc b S P q).2 ∧ (plc b S P q).2 ≤ 7864320 := by
  obtain ⟨b1, b2, b3, b4⟩ := hb
  obtain ⟨s1, s2, s3, s4⟩ := side_ok hs
  obtain ⟨q1, q2, q3, q4⟩ := hq
  obtain ⟨g, hg, e1, e2, h2⟩ := plc_get (b := b) (S := S) (P := P) (q := q) b3 (by omega) q3
  have hy := place_ok b3 b4 s3 s4 q3 q4
  have m1 : (b.1 * P * q.2).natAbs ≤ 1000 * 65536 * 10 := natAbs_mul_le (natAbs_mul_le (by omega) (by omega)) (by omega)
  have m2 : (S * q.1 * b.2).natAbs ≤ 115 * 10 * 12 := natAbs_mul_le (natAbs_mul_le (by omega) (by omega)) (by omega)
  refine ⟨?_, h2, ?_⟩
  · have e3 := congrArg Int.natAbs e1
    rw [Int.natAbs_mul] at e3
    have : (plc b S P q).1.natAbs * 1 ≤ (plc b S P q).1.natAbs * g.natAbs := Nat.mul_le_mul_left _ (by omega)
    omega
  · have : (plc b S P q).2 * 1 ≤ (plc b S P q).2 * g := Int.mul_le_mul_of_nonneg_left (by omega) (by omega)
    omega

theorem cancel_le {a b g : Int} (hg : 0 < g) (h : a * g ≤ b * g) : a ≤ b := Int.le_of_mul_le_mul_right h hg
theorem cancel_eq {a b g : Int} (hg : 0 < g) (h : a * g = b * g) : a = b := Int.eq_of_mul_eq_mul_right (by omega) h

theorem plc_ge {b : Fr2} {S P : Int} {q : Fr2} (hb : 0 < b.2) (hS : 0 ≤ S) (hP : 0 < P) (h0 : 0 ≤ q.1) (hq : 0 < q.2) : b.1 * (plc b S P q).2 ≤ (plc b S P q).1 * b.2 := by
  obtain ⟨g, hg, e1, e2, h2⟩ := plc_get (b := b) (S := S) (P := P) (q := q) hb hP hq
  refine cancel_le hg ?_
  have t : 0 ≤ S * q.1 * b.2 * b.2 := Int.mul_nonneg (Int.mul_nonneg (Int.mul_nonneg hS h0) (by omega)) (by omega)
  have l : b.1 * (plc b S P q).2 * g = b.1 * (b.2 * P * q.2) := by rw [Int.mul_assoc, e2]
  have r : (plc b S P q).1 * b.2 * g = (b.1 * P * q.2 + S * q.1 * b.2) * b.2 := by rw [Int.mul_right_comm, e1]
  rw [l, r]
  grind
theorem plc_le {b : Fr2} {S P : Int} {q : Fr2} (hb : 0 < b.2) (hS : 0 ≤ S) (hP : 0 < P) (h1 : q.1 ≤ q.2) (hq : 0 < q.2) : (plc b S P q).1 * (b.2 * P) ≤ (b.1 * P + S * b.2) * (plc b S P q).2 := by
  obtain ⟨g, hg, e1, e2, h2⟩ := plc_get (b := b) (S := S) (P := P) (q := q) hb hP hq
  refine cancel_le hg ?_
  have t : 0 ≤ S * b.2 * b.2 * P * (q.2 - q.1) := Int.mul_nonneg (Int.mul_nonneg (Int.mul_nonneg (Int.mul_nonneg hS (by omega)) (by omega)) (by omega)) (by omega)
  have l : (plc b S P q).1 * (b.2 * P) * g = (b.1 * P * q.2 + S * q.1 * b.2) * (b.2 * P) := by rw [Int.mul_right_comm, e1]
  have r : (b.1 * P + S * b.2) * (plc b S P q).2 * g = (b.1 * P + S * b.2) * (b.2 * P * q.2) := by rw [Int.mul_assoc, e2]
  rw [l, r]
  grind
theorem plc_zero {b : Fr2} {S P : Int} (hb : 0 < b.2) (hP : 0 < P) : (plc b S P (0, 1)).1 * b.2 = b.1 * (plc b S P (0, 1)).2 := by
  obtain ⟨g, hg, e1, e2, h2⟩ := plc_get (b := b) (S := S) (P := P) (q := (0, 1)) hb hP (by decide)
  refine cancel_eq hg ?_
  rw [Int.mul_right_comm, e1, Int.mul_assoc b.1 _ g, e2]
  grind
theorem plc_one {b : Fr2} {S P : Int} (hb : 0 < b.2) (hP : 0 < P) : (plc b S P (1, 1)).1 * (b.2 * P) = (b.1 * P + S * b.2) * (plc b S P (1, 1)).2 := by
  obtain ⟨g, hg, e1, e2, h2⟩ := plc_get (b := b) (S := S) (P := P) (q := (1, 1)) hb hP (by decide)
  refine cancel_eq hg ?_
  rw [Int.mul_right_comm, e1, Int.mul_assoc (b.1 * P + S * b.2) _ g, e2]
  grind

theorem two_pow_cast (k : Nat) : ((2 ^ k : Nat) : Int) = (2 : Int) ^ k := by simp

/-- a side tells its grains -/
theorem Side.grains {S P : Int} {w : Nat} (hs : Side S P w) : Grains S P w := by
  intro k
  have hk : 0 < (2 : Nat) ^ k := Nat.pow_pos (by decide)
  have ek := two_pow_cast k
  rcases hs with ⟨rfl, rfl, h⟩ | ⟨rfl, h1, h2, h3, h4⟩
  · constructor
    · rintro ⟨a, b⟩
      rcases h with rfl | ⟨c, d⟩
      · omega
      · have : 64 * 2 ^ k * 16 ≤ 64 * 2 ^ k * S := Int.mul_le_mul_of_nonneg_left c (by omega)
        omega
    · omega
  · have ew := two_pow_cast w
    have ew1 := two_pow_cast (w - 1)
    constructor
    · rintro ⟨_, b⟩
      by_cases hkw : k < w
      · exact hkw
      · have : (2 : Nat) ^ w ≤ 2 ^ k := Nat.pow_le_pow_right (by decide) (by omega)
        omega
    · intro hkw
      have : (2 : Nat) ^ k ≤ 2 ^ (w - 1) := Nat.pow_le_pow_right (by decide) (by omega)
      refine ⟨by decide, ?_⟩
      omega

theorem Grains.same {S P x y : Int} {w : Nat} (hP : 0 < P) (hy : 0 < y) (G : Grains S P w) (e : x * P = S * y) : Grains x y w := by
  intro k
  rw [← G k]
  have a1 : 0 < x ↔ 0 < S := by
    constructor
    · intro h
      have h1 : 0 < S * y := e ▸ Int.mul_pos h hP
      exact Int.pos_of_mul_pos_left h1 hy
    · intro h
      have h1 : 0 < x * P := e ▸ Int.mul_pos h hy
      exact Int.pos_of_mul_pos_left h1 hP
  have a2 : 64 * 2 ^ k * x < 1024 * y ↔ 64 * 2 ^ k * S < 1024 * P := by
    generalize (64 : Int) * 2 ^ k = c
    constructor
    · intro h
      have h1 : c * x * P < 1024 * y * P := Int.mul_lt_mul_of_pos_right h hP
      have h2 : c * x * P = c * S * y := by rw [Int.mul_assoc, e, Int.mul_assoc]
      have h3 : 1024 * y * P = 1024 * P * y := Int.mul_right_comm ..
      rw [h2, h3] at h1
      exact Int.lt_of_mul_lt_mul_right h1 (by omega)
    · intro h
      have h1 : c * S * y < 1024 * P * y := Int.mul_lt_mul_of_pos_right h hy
      have h2 : c * x * P = c * S * y := by rw [Int.mul_assoc, e, Int.mul_assoc]
      have h3 : 1024 * y * P = 1024 * P * y := Int.mul_right_comm ..
      rw [← h2, ← h3] at h1
      exact Int.lt_of_mul_lt_mul_right h1 (by omega)
  rw [a1, a2]

/-- the points of a box along one axis -/
theorem axis_of {b : Fr2} {S P : Int} {w : Nat} {hs : List Fr2} (hb : BegOk b) (hsd : Side S P w) (ok : ∀ q ∈ hs, ShOk q) (z : (0, 1) ∈ hs) (o : (1, 1) ∈ hs) : Axis (hs.map (plc b S P)) w := by
  intro q1 m1 q3 m3 l1 l3
  obtain ⟨a1, ha1, rfl⟩ := List.mem_map.mp m1
  obtain ⟨a3, ha3, rfl⟩ := List.mem_map.mp m3
  have k1 := l1 _ (List.mem_map_of_mem z)
  have k3 := l3 _ (List.mem_map_of_mem o)
  have p1 := plc_ok hb hsd (ok _ ha1)
  have p3 := plc_ok hb hsd (ok _ ha3)
  have p0 := plc_ok hb hsd (ok _ z)
  have p4 := plc_ok hb hsd (ok _ o)
  obtain ⟨s1, s2, s3, s4⟩ := side_ok hsd
  obtain ⟨b1, b2, b3, b4⟩ := hb
  have hP : 0 < P := by omega
  have c1 := plc_ge (b := b) (S := S) (P := P) b3 s1 hP (ok _ ha1).1 (ok _ ha1).2.2.1
  have c3 := plc_le (b := b) (S := S) (P := P) b3 s1 hP (ok _ ha3).2.1 (ok _ ha3).2.2.1
  have z0 := plc_zero (b := b) (S := S) (P := P) b3 hP
  have o1 := plc_one (b := b) (S := S) (P := P) b3 hP
  generalize plc b S P a1 = q1 at *
  generalize plc b S P a3 = q3 at *
  generalize plc b S P (0, 1) = q0 at *
  generalize plc b S P (1, 1) = q4 at *
  have hbP : 0 < b.2 * P := Int.mul_pos b3 hP
  have d1 : q1.1 * b.2 ≤ b.1 * q1.2 := frac_trans p1.2.1 p0.2.1 b3 k1 (Int.le_of_eq z0)
  have d3 : (b.1 * P + S * b.2) * q3.2 ≤ q3.1 * (b.2 * P) := frac_trans hbP p4.2.1 p3.2.1 (Int.le_of_eq o1.symm) k3
  have f1 : q1.1 * b.2 = b.1 * q1.2 := Int.le_antisymm d1 c1
  have f3 : q3.1 * (b.2 * P) = (b.1 * P + S * b.2) * q3.2 := Int.le_antisymm c3 d3
  have hpos : 0 < q3.2 * q1.2 := Int.mul_pos p3.2.1 p1.2.1
  refine ⟨hpos, ?_, ?_⟩
  · have := natAbs_mul_le (a := q3.2) (b := q1.2) (m := 7864320) (n := 7864320) (by omega) (by omega)
    unfold IntOk; omega
  · refine hsd.grains.same hP hpos ?_
    refine cancel_eq b3 ?_
    have g1 : (q3.1 * q1.2 - q1.1 * q3.2) * P * b.2 = (q3.1 * (b.2 * P)) * q1.2 - (q1.1 * b.2) * q3.2 * P := by grind
    rw [g1, f3, f1]
    grind

/-- the points of a box -/
theorem box_of {q0 q1 : Fr2} {S0 P0 S1 P1 : Int} {w0 w1 : Nat} {hs : List Pt2} (ob0 : BegOk q0) (ob1 : BegOk q1) (sd0 : Side S0 P0 w0) (sd1 : Side S1 P1 w1) (hh : ShsOk hs) :
    let ps : List Pt2 := hs.map fun p => (plc q0 S0 P0 p.1, plc q1 S1 P1 p.2)
    Axis (ps.map (·.1)) w0 ∧ Axis (ps.map (·.2)) w1 ∧ (∀ p ∈ ps, IntOk p.1.1 ∧ 0 < p.1.2 ∧ IntOk p.2.1 ∧ 0 < p.2.2) ∧ (∀ p ∈ ps, IntOk p.1.2 ∧ IntOk p.2.2) ∧ ps ≠ [] := by
  obtain ⟨ok, ⟨x1, m1, e1⟩, ⟨x2, m2, e2⟩, ⟨x3, m3, e3⟩, ⟨x4, m4, e4⟩⟩ := hh
  intro ps
  have i1 : ps.map (·.1) = (hs.map (·.1)).map (plc q0 S0 P0) := by simp [ps]
  have i2 : ps.map (·.2) = (hs.map (·.2)).map (plc q1 S1 P1) := by simp [ps]
  refine ⟨?_, ?_, ?_, ?_, ?_⟩
  · rw [i1]
    refine axis_of ob0 sd0 (fun q hq => ?_) (e1 ▸ List.mem_map_of_mem m1) (e2 ▸ List.mem_map_of_mem m2)
    obtain ⟨p, hp, rfl⟩ := List.mem_map.mp hq
    exact (ok p hp).1
  · rw [i2]
    refine axis_of ob1 sd1 (fun q hq => ?_) (e3 ▸ List.mem_map_of_mem m3) (e4 ▸ List.mem_map_of_mem m4)
    obtain ⟨p, hp, rfl⟩ := List.mem_map.mp hq
    exact (ok p hp).2
  · intro p hp
    obtain ⟨h, hm, rfl⟩ := List.mem_map.mp hp
    have a := plc_ok ob0 sd0 (ok h hm).1
    have b := plc_ok ob1 sd1 (ok h hm).2
    refine ⟨?_, a.2.1, ?_, b.2.1⟩
    · unfold IntOk; show (plc q0 S0 P0 h.1).1.natAbs < _; omega
    · unfold IntOk; show (plc q1 S1 P1 h.2).1.natAbs < _; omega
  · intro p hp
    obtain ⟨h, hm, rfl⟩ := List.mem_map.mp hp
    have a := plc_ok ob0 sd0 (ok h hm).1
    have b := plc_ok ob1 sd1 (ok h hm).2
    refine ⟨?_, ?_⟩
    · unfold IntOk; show (plc q0 S0 P0 h.1).2.natAbs < _; omega
    · unfold IntOk; show (plc q1 S1 P1 h.2).2.natAbs < _; omega
  · intro e
    have : hs = [] := by simpa [ps] using e
    rw [this] at m1; cases m1

section
variable {prog : Program} {w : World} {A : Around} {E : Value → Shared → Prop} {s : Shared} {B : Heap} {L : Addr} {Mu : Mut} {X : Led} {m mg mb : Str → Option Value} {v : Value}

theorem cell_ne_seq {h : Heap} {c a : Addr} {cl : String} {v : Option Value} {items : Array Value} (x : h.IsCell c v) (y : SeqAt h cl a items) : a ≠ c := by
  rintro rfl
  obtain ⟨o, ho, hd⟩ := x
  obtain ⟨o', ho', _, k, hd'⟩ := y
  rw [ho] at ho'; cases ho'; rw [hd] at hd'; cases hd'
theorem cell_ne_ns {h : Heap} {c L : Addr} {v : Option Value} {m : Str → Option Value} (x : h.IsCell c v) (y : h.Ns L m) : L ≠ c := by
  rintro rfl
  obtain ⟨o, ho, hd⟩ := x
  obtain ⟨o', es, ep, ho', hd', _⟩ := y
  rw [ho] at ho'; cases ho'; rw [hd] at hd'; cases hd'

/-- a store into a cell of the frame's -/
theorem x_storeCell {env : Env} {x : Str} {c : Addr} {v₀ : Option Value} {v : Value} {Q : Unit → Shared → Prop} (W : Wx B L Mu X s.heap m) (hcB : B.IsCell c v₀)
    (h : ∀ h' B', Sub (hideAll B [c]) B' → Wx B' L Mu [] h' m → B'.IsCell c (some v) → Q () { s with heap := h' })
    (hk : env.scope.kind = .function) (hl : env.kindOf x = some .cell) (hcl : env.cells.lookup x = some c) : wpAny (model prog w) A (storeName env x v) Q E s := by
  have hc : s.heap.IsCell c v₀ := let ⟨o, ho, hd⟩ := hcB; ⟨o, W.keep _ _ ho, hd⟩
  have hcL := cell_ne_ns hc W.ns
  have hcM : c ∉ adr Mu := fun q => by
    obtain ⟨p, hp, e⟩ := List.mem_map.mp q
    exact cell_ne_seq hc (W.mu p hp).1 e
  refine wpAny_storeName_cell hk hl hcl hc fun h' hn hs => ?_
  have W₀ : Wx (hideAll B [c]) L Mu [] s.heap m := (W.drop (X' := []) (fun p hp => nomatch hp)).less (fun b o e => of_hideAll _ e)
  have W₁ : Wx (hideAll B [c]) L Mu [] h' m := W₀.keepX (l := [c]) (fun b o hb e => (hs.2 b (by simpa using hb)).trans e) (by simpa using hcL) (fun b hb q => by
      simp only [List.mem_cons, List.not_mem_nil, or_false] at q
      exact hcM (q ▸ hb)) (fun b hb => by
      simp only [List.mem_cons, List.not_mem_nil, or_false] at hb
      rw [hb]; exact hideAll_none _ (by simp)) (fun p hp => nomatch hp)
  obtain ⟨B', hB, W₂, hin⟩ := W₁.rebase
  refine h h' B' hB W₂ ?_
  obtain ⟨o, ho, hd⟩ := hn
  exact ⟨o, hin _ _ ho (Ne.symm hcL) hcM, hd⟩

theorem x_nei {a b : Int} {P R : Prop} (h1 : a ≠ b → P) (h2 : a = b → R) : if (a != b) = true then P else R := by
  by_cases h : a = b
  · rw [if_neg (by simpa using h)]; exact h2 h
  · rw [if_pos (by simpa using h)]; exact h1 h

end
local macro_rules | `(tactic| kbo_bools) => `(tactic| first
  | with_reducible refine PyProof.Rows.ne_int ?_)
section
variable {prog : Program} {w : World} {A : Around} {E : Value → Shared → Prop} {s : Shared} {B : Heap} {L : Addr} {Mu : Mut} {X : Led} {m mg mb : Str → Option Value} {v : Value}

theorem FrAt.monoT {h h' : Heap} {v : Value} {q : Fr2} (x : FrAt h v q) (k : ∀ a items, SeqAt h "tuple" a items → SeqAt h' "tuple" a items) : FrAt h' v q := let ⟨a, t, u, e, x⟩ := x; ⟨a, t, u, e, k _ _ x⟩
theorem Pts.monoT {h h' : Heap} {vs : List Value} {ps : List Pt2} (x : Pts h vs ps) (k : ∀ a items, SeqAt h "tuple" a items → SeqAt h' "tuple" a items) : Pts h' vs ps := by
  refine ⟨x.1, fun i v e => ?_⟩
  obtain ⟨q, e', ⟨a, fx, fy, e1, y, fx', fy'⟩⟩ := x.2 i v e
  exact ⟨q, e', ⟨a, fx, fy, e1, k _ _ y, fx'.monoT k, fy'.monoT k⟩⟩
theorem Sgs.monoT {h h' : Heap} {vs : List Value} {ps : List Sg} (x : Sgs h vs ps) (k : ∀ a items, SeqAt h "tuple" a items → SeqAt h' "tuple" a items) : Sgs h' vs ps :=
  x.mono fun a g y => y.one fun items z => k _ _ z

/-- all tuples go over -/
theorem Wx.tups {src : Addr} {it : Array Value} {B' h : Heap} (W : Wx B L [(src, it)] X h m) (hin : ∀ b o, h.get? b = some o → b ≠ L → b ∉ ([(src, it)] : Mut).map (·.1) → B'.get? b = some o) : ∀ a items, SeqAt h "tuple" a items → SeqAt B' "tuple" a items := by
  intro a items x
  have h1 := ns_ne W.ns x
  have h2 := ne_cls x W.src (by decide)
  obtain ⟨o, ho, r⟩ := x
  exact ⟨o, hin _ _ ho h1 (by simpa using h2), r⟩
theorem Wx.lst {src r : Addr} {it items : Array Value} {B' h : Heap} (W : Wx B L [(src, it)] X h m) (hin : ∀ b o, h.get? b = some o → b ≠ L → b ∉ ([(src, it)] : Mut).map (·.1) → B'.get? b = some o) (x : SeqAt h "list" r items) (hr : r ≠ src) : SeqAt B' "list" r items := by
  have h1 := ns_ne W.ns x
  obtain ⟨o, ho, r⟩ := x
  exact ⟨o, hin _ _ ho h1 (by simpa using hr), r⟩

theorem axis_first : Axis [(0, 1), (16, 1)] 0 := by
  have h := axis_of (b := (0, 1)) (S := 16) (P := 1) (w := 0) (hs := [(0, 1), (1, 1)]) ⟨by decide, by decide, by decide, by decide⟩ (.inl ⟨rfl, rfl, .inr ⟨by decide, by decide⟩⟩) (fun q hq => by
    simp only [List.mem_cons, List.not_mem_nil, or_false] at hq
    rcases hq with rfl | rfl <;> simp [ShOk]) List.mem_cons_self (List.mem_cons_of_mem _ List.mem_cons_self)
  have e : ([(0, 1), (1, 1)] : List Fr2).map (plc (0, 1) 16 1) = [(0, 1), (16, 1)] := by decide +kernel
  rwa [e] at h
theorem side_w {S P : Int} {w : Nat} (x : Side S P w) : w ≤ 20 := by
  rcases x with ⟨h, _⟩ | ⟨_, _, h, _⟩ <;> omega
theorem axis_nil {w : Nat} : Axis [] w := fun q hq => nomatch hq

def Begs (h : Heap) (ys : List Value) : Prop := ∀ z ∈ ys, ∃ q, FrAt h z q ∧ BegOk q
def SidAt (h : Heap) (z : Value) : Prop := ∃ a S P w t1 t2 t3, z = .ref a ∧ SeqAt h "tuple" a #[.int S t1, .int P t2, .int ((w : Nat) : Int) t3] ∧ Side S P w
def Sids (h : Heap) (ys : List Value) : Prop := ∀ z ∈ ys, SidAt h z
theorem Begs.mono {h h' : Heap} {ys : List Value} (x : Begs h ys) (k : SeqMono h h') : Begs h' ys := fun z hz => let ⟨q, f, o⟩ := x z hz; ⟨q, f.mono k, o⟩
theorem Sids.mono {h h' : Heap} {ys : List Value} (x : Sids h ys) (k : SeqMono h h') : Sids h' ys := by
  intro z hz
  obtain ⟨a, S, P, w, t1, t2, t3, e, y, o⟩ := x z hz
  exact ⟨a, S, P, w, t1, t2, t3, e, k _ _ _ y, o⟩
theorem Begs.snoc {h : Heap} {ys : List Value} {y : Value} {q : Fr2} (x : Begs h ys) (f : FrAt h y q) (o : BegOk q) : Begs h (ys ++ [y]) := fun z hz => by
  rcases List.mem_append.mp hz with hz | hz
  · exact x z hz
  · simp only [List.mem_cons, List.not_mem_nil, or_false] at hz
    rw [hz]; exact ⟨q, f, o⟩
theorem Sids.snoc {h : Heap} {ys : List Value} {y : Value} (x : Sids h ys) (f : SidAt h y) : Sids h (ys ++ [y]) := fun z hz => by
  rcases List.mem_append.mp hz with hz | hz
  · exact x z hz
  · simp only [List.mem_cons, List.not_mem_nil, or_false] at hz
    rw [hz]; exact f

theorem beg_ok {x y : Int} (h1 : -1000 ≤ x) (h2 : x ≤ 1000) (h3 : 0 < y) (h4 : y ≤ 12) : BegOk (x / (Int.gcd x y : Int), y / (Int.gcd x y : Int)) := by
  have hg := gcd_pos' (x := x) h3
  have a : (Int.gcd x y : Int) ∣ x := Int.gcd_dvd_left ..
  have b : (Int.gcd x y : Int) ∣ y := Int.gcd_dvd_right ..
  have e1 := Int.ediv_mul_cancel a
  have e2 := Int.ediv_mul_cancel b
  have p2 : 0 < y / (Int.gcd x y : Int) := Int.ediv_pos_of_pos_of_dvd h3 (by omega) b
  generalize (Int.gcd x y : Int) = g at *
  generalize x / g = u at *
  generalize y / g = t at *
  have k1 : t * 1 ≤ t * g := Int.mul_le_mul_of_nonneg_left (by omega) (by omega)
  have k2 : u.natAbs * 1 ≤ u.natAbs * g.natAbs := Nat.mul_le_mul_left _ (by omega)
  have k3 : u.natAbs * g.natAbs = x.natAbs := by rw [← Int.natAbs_mul, e1]
  refine ⟨?_, ?_, p2, ?_⟩
  · show -1000 ≤ u; omega
  · show u ≤ 1000; omega
  · show t ≤ 12; omega

set_option maxHeartbeats 8000000 in
theorem law_spec {a fa : Addr} {cd : Value} {vs : List Value} {v₀ : Option Value} {body : List Stmt} {scope : Scope} {Q : Flow → Shared → Prop} (hb : dBody (defAt 28) = body) (hsc : dScope (defAt 28) = scope)
    (W : Wx B L [] [] s.heap m) (G : Gl mg mb B) (D : AOk 6 A) (hm : m "script" = some (.ref a)) (ha : SeqAt B "list" a vs.toArray) (hlen : vs.length ≤ 1000) (hint : ∀ x ∈ vs, ∃ n t, x = Value.int n t)
    (hc : s.heap.IsCell (L + 1) v₀) (hcB : B.get? (L + 1) = none)
    (h : ∀ h' tk, (∀ b o, B.get? b = some o → h'.get? b = some o) → Q (.ret (.bool true)) { s with heap := h', toks := tk }) :
    wpAny (model prog w) A (execs body (envOfC "law" scope L fa cd)) Q E s := by
  conv at hb => (lhs; whnf)
  conv at hsc => (lhs; whnf)
  subst hb hsc
  obtain ⟨B₀, hB0, W₀, hin₀⟩ := W.rebase
  have hcL := cell_ne_ns hc W.ns
  have Hc : B₀.IsCell (L + 1) v₀ := let ⟨o, ho, hd⟩ := hc; ⟨o, hin₀ _ _ ho (Ne.symm hcL) (by simp), hd⟩
  have G₀ := G.keeps hB0
  have ha0 := ha.keeps hB0
  clear W
  obtain ⟨f1, hf1, if1⟩ := G₀.box_grain.name'
  obtain ⟨f2, hf2, if2⟩ := G₀.pool.name'
  have ok1 : IntOk 1 := by unfold IntOk; decide
  have ok0 : IntOk 0 := by unfold IntOk; decide
  have ok16 : IntOk 16 := by unfold IntOk; decide
  repeat kbo_bools
  rename_i p1 _ _ p2 _ _ P1 _ _ S1 _ _ p3 _ _ p4 _ _ P2 _ _ S2 _ _ l1 h₁ W₁ _
  refine box_grain_spec (sgs := [.pl "move" [.ref P1], .pl "line" [.ref P2]]) (ps := [((0, 1), (0, 1)), ((16, 1), (16, 1))]) (p1 := 0) (p2 := 0) W₁ G₀ (D.less (by decide)) hf1 (W₁.seq List.mem_cons_self) rfl ?_ ?_ (by decide) ?_ ?_ axis_first axis_first (by decide) (by decide) ?_
  · intro i v e
    exact two_at (P := fun i v => ∃ a g, v = .ref a ∧ ([.pl "move" [.ref P1], .pl "line" [.ref P2]] : List Sg)[i]? = some g ∧ SgAt h₁ a g) e ⟨S1, _, rfl, rfl, by decide, by decide, _, W₁.seq (by kcf_m)⟩
      ⟨S2, _, rfl, rfl, by decide, by decide, _, W₁.seq (by kcf_m)⟩
  · exact .cons ⟨P1, _, _, rfl, W₁.seq (by kcf_m), ⟨p1, _, _, rfl, W₁.seq (by kcf_m)⟩, ⟨p2, _, _, rfl, W₁.seq (by kcf_m)⟩⟩
      (.cons ⟨P2, _, _, rfl, W₁.seq (by kcf_m), ⟨p3, _, _, rfl, W₁.seq (by kcf_m)⟩, ⟨p4, _, _, rfl, W₁.seq (by kcf_m)⟩⟩ .nil)
  · intro p hp
    simp only [List.mem_cons, List.not_mem_nil, or_false] at hp
    rcases hp with rfl | rfl
    · exact ⟨ok0, by decide, ok0, by decide⟩
    · exact ⟨ok16, by decide, ok16, by decide⟩
  · intro p hp
    simp only [List.mem_cons, List.not_mem_nil, or_false] at hp
    rcases hp with rfl | rfl <;> exact ⟨ok1, ok1⟩
  intro r h₂ tk₂ u₂ _ hr2 W₂
  have hr2 : r = 64 := by rw [hr2 (by simp)]; rfl
  clear W₁
  replace W₂ := W₂.drop (X' := []) (fun p hp => nomatch hp)
  repeat kbo_bools
  refine x_nei (fun q => absurd hr2 q) (fun _ => ?_)
  repeat kbo_bools
  refine pool_spec W₂ G₀ (D.less (by decide)) hf2 (W₂.old ha0) hlen hint ?_
  intro src h₃ tk₃ it₃ hit₃ W₃
  obtain ⟨B₁, hB1, W₄, hin₁⟩ := W₃.openMut (W₃.seq List.mem_cons_self) (by simp) (W₃.new List.mem_cons_self)
  repeat kbo_bools
  refine x_storeCell (c := L + 1) W₄ (let ⟨o, ho, hd⟩ := Hc; ⟨o, hB1 _ _ ho, hd⟩) ?_ rfl rfl rfl
  intro h₅ B₂ hB2 W₅ C₂
  have hB02 : Sub B B₂ := fun b o e => hB2 _ _ (hideAll_get _ (hB1 _ _ (hB0 _ _ e)) fun q => by
    simp only [List.mem_cons, List.not_mem_nil, or_false] at q
    rw [q, hcB] at e; cases e)
  have G₂ := G.keeps hB02
  clear W₂ W₃ W₄ G₀ hf1 if1 hf2 if2 Hc ha0
  obtain ⟨f1, hf1, if1⟩ := G₂.box_grain.name'
  obtain ⟨f2, hf2, if2⟩ := G₂.take.name'
  repeat kbo_bools
  rename_i t1 _ _ l2 h₆ W₆ _
  refine x_cell (C := B₂) W₆.keep C₂ ?_ rfl rfl rfl
  repeat kbo_bools
  refine take_spec W₆ G₂ (D.less (by decide)) hf2 hit₃ (by decide) (by unfold IntOk; decide) ?_
  intro r3 h₇ tk₇ u₇ it₇ hr3 hr3' hit₇ W₇
  obtain ⟨n, rfl⟩ := Int.eq_ofNat_of_zero_le hr3
  repeat kbo_bools
  refine x_mul_list W₇ (W₇.seq List.mem_cons_self) hr3 (by omega) (by simp) ?_
  intro l3 h₈ W₈
  rw [Int.toNat_natCast, List.flatten_replicate_singleton] at W₈
  repeat kbo_bools
  refine box_grain_spec (vs := List.replicate n (.ref t1)) (sgs := List.replicate n .close) (ps := []) (p1 := 0) (p2 := 0) W₈ G₂ (D.less (by decide)) hf1 (W₈.seq List.mem_cons_self) (by simp) ?_ ?_ (by decide) (fun p hp => nomatch hp) (fun p hp => nomatch hp) axis_nil axis_nil (by decide) (by decide) ?_
  · intro i v e
    have hi := (List.getElem?_eq_some_iff.mp e).1
    have hv := List.mem_of_getElem? e
    obtain rfl := List.eq_of_mem_replicate hv
    rw [List.length_replicate] at hi
    exact ⟨t1, .close, rfl, by rw [List.getElem?_replicate, if_pos hi], _, W₈.seq (by kcf_m)⟩
  · have e : ((List.replicate n Sg.close).map Sg.pts).flatten = [] := by rw [List.map_replicate]; exact List.flatten_replicate_nil
    rw [e]; exact .nil
  intro r4 h₉ tk₉ u₉ hr4 _ W₉
  have hr4 : r4 = 64 := hr4 rfl
  clear W₅ W₆ W₇ W₈
  replace W₉ := W₉.drop (X' := []) (fun p hp => nomatch hp)
  repeat kbo_bools
  refine x_nei (fun q => absurd hr4 q) (fun _ => ?_)
  repeat kbo_bools
  keq_hits
  repeat kbo_bools
  rename_i lt h₁₀ W₁₀
  have hltM : lt ∉ adr [(src, it₇)] := (W₁₀.led _ List.mem_cons_self).2.1
  refine' x_CBA D W₁₀ ?hL ?hke ?hy (.inr rfl) (W₁₀.seq List.mem_cons_self) hltM (fun i B Mu' ys => ∃ it, Mu' = [(src, it)] ∧ IsSrc it ∧ Begs B ys) ?cJ ?ccell ?ck ?cx ?c0 (by simp) ?cturn ?cfin
  case hL => rfl
  case hke => rfl
  case hy => rfl
  case cJ => rintro i B B' Mu' ys k ⟨it, e, i1, b⟩; exact ⟨it, e, i1, b.mono k⟩
  case ccell => decide
  case ck => rfl
  case cx => rfl
  case c0 => exact ⟨it₇, rfl, hit₇, fun z hz => nomatch hz⟩
  case cturn =>
    rintro i v B₃ Cf Dl Mu₁ ys m₁ h₁₁ tk₁₁ hiv hB3 hO hM W₁₁ hys ⟨it, rfl, hit, hbg⟩
    replace W₁₁ : Wx B₃ Cf ((src, it) :: [(Dl, ys.toArray)]) [] h₁₁ (fun y => if y = "turn" then some v else m₁ y) := W₁₁
    have G₃ := G₂.keeps hB3
    obtain ⟨f3, hf3, if3⟩ := G₃.take.name'
    obtain ⟨f4, hf4, if4⟩ := G₃.lowest.name'
    have C₃ : B₃.IsCell (L + 1) (some (.ref src)) := let ⟨o, ho, hd⟩ := C₂; ⟨o, hB3 _ _ ho, hd⟩
    repeat kbo_bools
    refine x_cell (C := B₃) W₁₁.keep C₃ ?_ rfl rfl rfl
    repeat kbo_bools
    refine take_spec W₁₁ G₃ (D.less (by decide)) hf3 hit (by decide) (by unfold IntOk; decide) ?_
    intro r5 h₁₂ tk₁₂ u₁₂ it₁₂ a1 a2 hit₁₂ W₁₂
    repeat kbo_bools
    refine x_cell (C := B₃) W₁₂.keep C₃ ?_ rfl rfl rfl
    repeat kbo_bools
    refine take_spec W₁₂ G₃ (D.less (by decide)) hf3 hit₁₂ (by decide) (by unfold IntOk; decide) ?_
    intro r6 h₁₃ tk₁₃ u₁₃ it₁₃ a3 a4 hit₁₃ W₁₃
    repeat kbo_bools
    refine lowest_spec W₁₃ G₃ (D.less (by decide)) hf4 (by omega) (by unfold IntOk; omega) ?_
    intro r7 h₁₄ tk₁₄ u1 u2 W₁₄
    obtain ⟨B₄, hB4, W₁₅, hin₄⟩ := W₁₄.rebase
    have hr7 := W₁₄.carry hin₄ List.mem_cons_self
    exact ⟨h₁₄, tk₁₄, B₄, [(src, it₁₃)], _, rfl, hB4, rfl, W₁₅, it₁₃, rfl, hit₁₃, (hbg.mono (SeqMono.of hB4)).snoc ⟨r7, _, _, rfl, hr7⟩ (beg_ok (by omega) (by omega) (by omega) (by omega))⟩
  case cfin =>
    rintro lb h₁₁ tk₁₁ B₃ Mu₁ ys hB3 hO hM W₁₁ hlb hys ⟨it, rfl, hit, hbg⟩ hDn
    replace W₁₁ : Wx B₃ L ((src, it) :: []) [] h₁₁ _ := W₁₁
    clear W₉ W₁₀
    have G₃ := G₂.keeps hB3
    have C₃ : B₃.IsCell (L + 1) (some (.ref src)) := let ⟨o, ho, hd⟩ := C₂; ⟨o, hB3 _ _ ho, hd⟩
    repeat kbo_bools
    keq_hits
    repeat kbo_bools
    rename_i ltt h₁₂ W₁₂
    have hlttM : ltt ∉ adr [(src, it)] := (W₁₂.led _ List.mem_cons_self).2.1
    refine' x_CBA D W₁₂ ?hL ?hke ?hy (.inr rfl) (W₁₂.seq List.mem_cons_self) hlttM (fun i B Mu' ys => ∃ it, Mu' = [(src, it)] ∧ IsSrc it ∧ Sids B ys) ?cJ ?ccell ?ck ?cx ?c0 (by simp) ?cturn ?cfin
    case hL => rfl
    case hke => rfl
    case hy => rfl
    case cJ => rintro i B B' Mu' ys k ⟨it, e, i1, b⟩; exact ⟨it, e, i1, b.mono k⟩
    case ccell => decide
    case ck => rfl
    case cx => rfl
    case c0 => exact ⟨it, rfl, hit, fun z hz => nomatch hz⟩
    case cturn =>
      rintro i v B₄ Cf Dl Mu₁ zs m₁ h₁₃ tk₁₃ hiv hB4 hO hM W₁₃ hzs ⟨it2, rfl, hit2, hsd⟩
      replace W₁₃ : Wx B₄ Cf ((src, it2) :: [(Dl, zs.toArray)]) [] h₁₃ (fun y => if y = "turn" then some v else m₁ y) := W₁₃
      have G₄ := G₃.keeps hB4
      obtain ⟨f3, hf3, if3⟩ := G₄.side.name'
      have C₄ : B₄.IsCell (L + 1) (some (.ref src)) := let ⟨o, ho, hd⟩ := C₃; ⟨o, hB4 _ _ ho, hd⟩
      repeat kbo_bools
      refine x_cell (C := B₄) W₁₃.keep C₄ ?_ rfl rfl rfl
      repeat kbo_bools
      refine side_spec W₁₃ G₄ (D.less (by decide)) hf3 hit2 ?_
      intro r7 h₁₄ tk₁₄ it₁₄ S P pw t1 t2 t3 hside hit₁₄ W₁₄
      obtain ⟨B₅, hB5, W₁₅, hin₅⟩ := W₁₄.rebase
      have hr7 := W₁₄.carry hin₅ List.mem_cons_self
      exact ⟨h₁₄, tk₁₄, B₅, [(src, it₁₄)], _, rfl, hB5, rfl, W₁₅, it₁₄, rfl, hit₁₄, (hsd.mono (SeqMono.of hB5)).snoc ⟨r7, S, P, pw, t1, t2, t3, rfl, hr7, hside⟩⟩
    case cfin =>
      rintro ls h₁₃ tk₁₃ B₄ Mu₁ zs hB4 hO2 hM2 W₁₃ hls hzs ⟨it2, rfl, hit2, hsd⟩ hDn2
      replace W₁₃ : Wx B₄ L ((src, it2) :: []) [] h₁₃ _ := W₁₃
      clear W₁₁ W₁₂
      have G₄ := G₃.keeps hB4
      have C₄ : B₄.IsCell (L + 1) (some (.ref src)) := let ⟨o, ho, hd⟩ := C₃; ⟨o, hB4 _ _ ho, hd⟩
      have hlb4 := hlb.keeps hB4
      replace hbg := hbg.mono (SeqMono.of hB4)
      obtain ⟨y0, y1, rfl⟩ : ∃ y0 y1, ys = [y0, y1] := two_of hys
      obtain ⟨z0, z1, rfl⟩ : ∃ z0 z1, zs = [z0, z1] := two_of hzs
      obtain ⟨q0, ⟨b0, t1, t2, rfl, Sb0⟩, ob0⟩ := hbg y0 (by simp)
      obtain ⟨q1, ⟨b1, t3, t4, rfl, Sb1⟩, ob1⟩ := hbg y1 (by simp)
      obtain ⟨s0, S0, P0, w0, t5, t6, t7, rfl, Ss0, sd0⟩ := hsd z0 (by simp)
      obtain ⟨s1, S1, P1, w1, t8, t9, t10, rfl, Ss1, sd1⟩ := hsd z1 (by simp)
      obtain ⟨f1, hf1, if1⟩ := G₄.segments.name'
      obtain ⟨f2, hf2, if2⟩ := G₄.points.name'
      repeat kbo_bools
      refine x_cell (C := B₄) W₁₃.keep C₄ ?_ rfl rfl rfl
      repeat kbo_bools
      refine x_cell (C := B₄) W₁₃.keep C₄ ?_ rfl rfl rfl
      repeat kbo_bools
      have hsrcB := (W₁₃.mu _ List.mem_cons_self).2
      have hne : ∀ {c : String} {a : Addr} {items : Array Value}, SeqAt B₄ c a items → a ≠ src := fun x e => by
        obtain ⟨o, ho⟩ := x.get
        rw [e, hsrcB] at ho; cases ho
      refine points_spec W₁₃ G₄ (D.less (by decide)) hf2 hit2 (W₁₃.old hlb4) (W₁₃.old Sb0) (W₁₃.old Sb1) (W₁₃.old hls) (W₁₃.old Ss0) (W₁₃.old Ss1) (hne hlb4) (hne hls) ob0 ob1 sd0 sd1 ?_
      intro pl h₁₄ tk₁₄ it₁₄ pvs hs hit₁₄ hsh hs6 hpl hpts hpln W₁₄
      have hplsrc : pl ≠ src := fun e => by
        obtain ⟨o, ho⟩ := W₁₃.src.get
        rw [e, ho] at hpln; cases hpln
      repeat kbo_bools
      obtain ⟨B₅, hB5, W₁₅, hin₅⟩ := W₁₄.rebase
      have Spl := W₁₄.lst hin₅ hpl hplsrc
      have Ppl := hpts.monoT (W₁₄.tups hin₅)
      have G₅ := G₄.keeps hB5
      have hpvl : pvs.length ≤ 1000 := by have := hpts.1; rw [List.length_map] at this; omega
      refine segments_spec W₁₅ G₅ (D.less (by decide)) hf1 hit₁₄ (W₁₅.old Spl) hplsrc hpvl ?_
      intro sl h₁₆ tk₁₆ it₁₆ fvs sgs hit₁₆ hsl hsg hflat hsln W₁₆
      have hslsrc : sl ≠ src := fun e => by
        obtain ⟨o, ho⟩ := W₁₅.src.get
        rw [e, ho] at hsln; cases hsln
      obtain ⟨B₆, hB6, W₁₇, hin₆⟩ := W₁₆.rebase
      have Ssl := W₁₆.lst hin₆ hsl hslsrc
      have Hsg := hsg.monoT (W₁₆.tups hin₆)
      replace Ppl := Ppl.mono (SeqMono.of hB6)
      rw [← hflat] at Ppl
      have hB46 : Sub B₄ B₆ := fun b o e => hB6 _ _ (hB5 _ _ e)
      have G₆ := G₅.keeps hB6
      have hls6 := hls.keeps hB46
      have Ss06 := Ss0.keeps hB46
      have Ss16 := Ss1.keeps hB46
      clear W₁₃ W₁₄ W₁₅ W₁₆
      obtain ⟨f3, hf3, if3⟩ := G₆.box_grain.name'
      obtain ⟨g1, g2, g3, g4, g5, g6, g7⟩ := G₆.no
      obtain ⟨ax, ay, ok, ok2, pne⟩ := box_of ob0 ob1 sd0 sd1 hsh
      repeat kbo_bools
      rename_i h₁₈ W₁₈
      refine wpAny_Compare1 ?_
      repeat kbo_bools
      refine box_grain_spec (p1 := w0) (p2 := w1) W₁₈ G₆ (D.less (by decide)) hf3 (W₁₈.old Ssl) Hsg.1 ?_ ?_ (by rw [List.length_map]; omega) ok ok2 ax ay (side_w sd0) (side_w sd1) ?_
      · intro i v e
        obtain ⟨a, g, e1, e2, y⟩ := Hsg.2 i v e
        exact ⟨a, g, e1, e2, y.keeps (SeqMono.of W₁₈.keep)⟩
      · exact Ppl.mono (SeqMono.of W₁₈.keep)
      intro r9 h₁₉ tk₁₉ u₁₉ _ hr9 W₁₉
      have hr9 := hr9 pne
      repeat kbo_bools
      refine x_max W₁₉ D fun h₂₀ tk₂₀ u₂₀ W₂₀ => ?_
      have hw : max (w0 : Int) (w1 : Int) = ((max w0 w1 : Nat) : Int) := by omega
      have hwl : max w0 w1 ≤ 20 := by have := side_w sd0; have := side_w sd1; omega
      rw [hw]
      repeat kbo_bools
      refine pow_int_small (by omega) (by omega) (by decide) ?_
      rw [Int.toNat_natCast]
      have ok64 : IntOk 64 := by unfold IntOk; decide
      repeat kbo_bools
      have e9 : (r9 == 64 * 2 ^ max w0 w1) = true := by simpa using hr9
      rw [e9]
      exact h _ _ (fun b o e => W₂₀.keep _ _ (hB46 _ _ (hB4 _ _ (hB3 _ _ (hB02 _ _ e)))))

end

def dPos : Stmt → Pos
  | .FunctionDef (pos := p) .. => p
  | _ => ⟨0, 0, 0, 0⟩
def recAt (name : Str) (i : Nat) : DefRec := ⟨name, dParams (defAt i), dBody (defAt i), dScope (defAt i), dPos (defAt i)⟩

section
variable {p : Program} {loose : List Str} {mean : ExcName → Option Value} {mg mb : Str → Option Value} {h : Heap} {K : Frag}

theorem fn_of {name : Str} {i j : Nat} (T : Top p loose mean mg mb h) (e : (recsOf p)[j]? = some (recAt name i)) : FnAt mg h name (dParams (defAt i)) (dBody (defAt i)) (dScope (defAt i)) := by
  obtain ⟨a, o, pm, code, doc, h1, h2, h3, h4⟩ := T.fn _ (List.mem_of_getElem? e)
  exact ⟨a, o, doc, pm, none, code, _, h1, h2, h3, h4⟩

/-- what the walk's own context knows of the file's names -/
theorem gl_of {t1 t2 t3 t4 : Tok} {af aT aL : Addr} {pm cdv ct : Value} {o1 o2 o3 : Option Addr} {l1 l2 l3 : Array (Option Value)} {n2 n3 : Nat} (T : Top p loose mean mg mb h) (X : K.In h)
    (hno : ∀ x ∈ (["len", "abs", "max", "min", "int", "range", "tuple"] : List Str), nsIn K mainGlobals x = some none)
    (hg : nsIn K mainGlobals "BOX_GRAIN" = some (some (.int 64 t1)))
    (hl : nsIn K mainGlobals "LEAST_GRAINS" = some (some (.ref aL))) (hl2 : K.lookup aL = some ⟨.type "tuple", o1, .seq #[.int 1024 t2, .int 1 t3] n2, l1⟩)
    (hf : nsIn K mainGlobals "fraction" = some (some (.ref af))) (hf2 : K.lookup af = some ⟨.type "function", o2, .func (fnX "fraction" "fraction" (dParams (defAt 5)) (dBody (defAt 5)) (dScope (defAt 5)) [] (.ref aT) .none .none pm none cdv ct), l2⟩)
    (hf3 : K.lookup aT = some ⟨.type "tuple", o3, .seq #[.int 1 t4] n3, l3⟩) (hf4 : codeIn K cdv "fraction" = true)
    (r : ∀ q ∈ ([("common_divisor", 4), ("minus", 6), ("times", 7), ("sign_of", 8), ("compare", 9), ("least", 10), ("greatest", 11), ("point_box", 13), ("segment_points", 17), ("box_grain", 18), ("_law_pool", 20), ("_law_take", 21), ("_law_one", 22), ("_law_lowest", 23), ("_law_side", 24), ("_law_place", 25), ("_law_points", 26), ("_law_segments", 27)] : List (Str × Nat)), ∃ j : Nat, (recsOf p)[j]? = some (recAt q.1 q.2)) :
    Gl mg mb h := by
  have no : ∀ x ∈ (["len", "abs", "max", "min", "int", "range", "tuple"] : List Str), mg x = none := fun x hx => mg_none_of X T.g (hno x hx)
  have fn : ∀ q ∈ ([("common_divisor", 4), ("minus", 6), ("times", 7), ("sign_of", 8), ("compare", 9), ("least", 10), ("greatest", 11), ("point_box", 13), ("segment_points", 17), ("box_grain", 18), ("_law_pool", 20), ("_law_take", 21), ("_law_one", 22), ("_law_lowest", 23), ("_law_side", 24), ("_law_place", 25), ("_law_points", 26), ("_law_segments", 27)] : List (Str × Nat)),
      FnAt mg h q.1 (dParams (defAt q.2)) (dBody (defAt q.2)) (dScope (defAt q.2)) := fun q hq => let ⟨_, e⟩ := r q hq; fn_of T e
  simp only [List.forall_mem_cons] at no fn
  obtain ⟨n1, n2, n3, n4, n5, n6, n7, -⟩ := no
  obtain ⟨d1, d2, d3, d4, d5, d6, d7, d8, d9, d10, d11, d12, d13, d14, d15, d16, d17, d18, -⟩ := fn
  refine ⟨T.g, T.b, T.nolimit, T.builtins, ⟨n1, n2, n3, n4, n5, n6, n7⟩, ⟨_, mg_of X T.g hg⟩, ⟨aL, t2, t3, mg_of X T.g hl, ⟨_, X _ _ hl2, rfl, _, rfl⟩⟩, d1, ?_, d2, d3, d4, d5, d6, d7, d8, d9, d10, d11, d12, d13, d14, d15, d16, d17, d18⟩
  exact ⟨af, _, aT, .int 1 t4, .none, pm, none, cdv, ct, mg_of X T.g hf, X _ _ hf2, ⟨_, X _ _ hf3, rfl, _, rfl⟩, rfl, codeRec_of X hf4⟩
theorem caller_ok (env : Env) : AOk 6 (callerA.deeper env) := AOk.deeper (n := 6) ⟨rfl, by decide +kernel, by decide +kernel⟩ env
theorem ints_kinds {vs : List Value} {ns : List Int} (h : IntsAre vs ns) : ∀ x ∈ vs, ∃ n t, x = Value.int n t := by
  intro x hx
  obtain ⟨i, hi⟩ := List.getElem?_of_mem hx
  have hl := (List.getElem?_eq_some_iff.mp hi).1
  have hn : i < ns.length := by have := h.length; omega
  obtain ⟨t, e⟩ := h.get i _ (List.getElem?_eq_getElem hn)
  rw [hi] at e
  exact ⟨_, t, by injection e⟩
end

end Mine

set_option maxRecDepth 100000 in
set_option maxHeartbeats 8000000 in
theorem PySem.Challenge.cw_xm0715_01_holds : PySem.Challenge.rw_xm0715_01.Holds := by
  w_on; o_law; k_head; (case hw => w_witness2)
  w_strict (
  k_go0
  rename_i w s₀ s₁ mg mb Gr Y fa o pm doc ho hg KX XX V GL T B TE TW x1 x2 M x3 x4 hcd ns hs hlay0 hLy hrr hl2 y1 y2 la vs y3 hL ra w1 r0 hI hr hcond1 hcond2 K0 hD h1 tk1 F oc hoc N0 X0
  have hlen : vs.length ≤ 63 := by have := hI.length; omega
  refine Mine.law_spec (mg := mg) (mb := mb) rfl rfl ⟨F.ns, F.keep, Heap.get?_none_of_le (Nat.le_refl _), fun p hp => (nomatch hp), List.nodup_nil, fun p hp => (nomatch hp)⟩
     ?zzG (Mine.caller_ok _) (by rfl) hL (by omega) (Mine.ints_kinds hI) ⟨oc, (N0 _ (List.mem_singleton.mpr rfl)).1, hoc⟩ (Heap.get?_none_of_le (Nat.le_succ _)) ?zzfin
  case zzG =>
    refine Mine.gl_of (aL := 109) (af := 61) (aT := 54) (pm := .str "outlinemill.exact" 234) (cdv := .ref 60) (ct := .none) (t1 := 315) (t2 := 317) (t3 := 318) (t4 := 246) (o1 := none) (o2 := none) (o3 := none) (l1 := #[]) (l2 := #[]) (l3 := #[]) (n2 := 0) (n3 := 0) T KX ?zzno ?zzhg ?zzhl ?zzhl2 ?zzhf ?zzhf2 ?zzhf3 ?zzhf4 ?zzr
    case zzno =>
      refine List.forall_mem_cons.mpr ⟨by kernel_rfl, List.forall_mem_cons.mpr ⟨by kernel_rfl, List.forall_mem_cons.mpr ⟨by kernel_rfl, List.forall_mem_cons.mpr ⟨by kernel_rfl, List.forall_mem_cons.mpr ⟨by kernel_rfl, List.forall_mem_cons.mpr ⟨by kernel_rfl, List.forall_mem_cons.mpr ⟨by kernel_rfl, fun x hx => nomatch hx⟩⟩⟩⟩⟩⟩⟩
    case zzhg => kernel_rfl
    case zzhl => kernel_rfl
    case zzhl2 => kernel_rfl
    case zzhf => kernel_rfl
    case zzhf2 => kernel_rfl
    case zzhf3 => kernel_rfl
    case zzhf4 => kernel_rfl
    case zzr => exact List.forall_mem_cons.mpr ⟨⟨0, by kernel_rfl⟩, List.forall_mem_cons.mpr ⟨⟨1, by kernel_rfl⟩, List.forall_mem_cons.mpr ⟨⟨2, by kernel_rfl⟩, List.forall_mem_cons.mpr ⟨⟨3, by kernel_rfl⟩, List.forall_mem_cons.mpr ⟨⟨4, by kernel_rfl⟩, List.forall_mem_cons.mpr ⟨⟨5, by kernel_rfl⟩, List.forall_mem_cons.mpr ⟨⟨6, by kernel_rfl⟩, List.forall_mem_cons.mpr ⟨⟨7, by kernel_rfl⟩, List.forall_mem_cons.mpr ⟨⟨8, by kernel_rfl⟩, List.forall_mem_cons.mpr ⟨⟨9, by kernel_rfl⟩, List.forall_mem_cons.mpr ⟨⟨10, by kernel_rfl⟩, List.forall_mem_cons.mpr ⟨⟨11, by kernel_rfl⟩, List.forall_mem_cons.mpr ⟨⟨12, by kernel_rfl⟩, List.forall_mem_cons.mpr ⟨⟨13, by kernel_rfl⟩, List.forall_mem_cons.mpr ⟨⟨14, by kernel_rfl⟩, List.forall_mem_cons.mpr ⟨⟨15, by kernel_rfl⟩, List.forall_mem_cons.mpr ⟨⟨16, by kernel_rfl⟩, List.forall_mem_cons.mpr ⟨⟨17, by kernel_rfl⟩, fun q hq => nomatch hq⟩⟩⟩⟩⟩⟩⟩⟩⟩⟩⟩⟩⟩⟩⟩⟩⟩⟩
  case zzfin =>
    intro h' tk hk
    refine ⟨.inl ⟨.bool true, .bool true, [], rfl, ?_, .bool true, ?_, fun _ => ⟨List.nodup_nil, fun a ha => nomatch ha⟩⟩, hk, rfl, hg⟩
    · intro cls; rfl
    · refine' postW_of ?zs ?zv ?ze
      case zs => o_shape
      case zv => wtm_val
      case ze => rfl)
