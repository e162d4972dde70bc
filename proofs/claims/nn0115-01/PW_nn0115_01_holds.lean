import PyProof.Rows.All
import Wide.All
import OpenK.AllK
import Wide.FinOn
import PySem.Challenge.RW_nn0115_01
open PySem PySem.W PyProof.Rows PySem.Calls
set_option Elab.async false
set_option maxRecDepth 100000
set_option maxHeartbeats 8000000
set_option linter.unusedVariables false
set_option compiler.extract_closed false
namespace Mine
set_option linter.unusedVariables false
/-- the text without the names of its modules -/
noncomputable def vw : Program :=
  let p := PySem.Challenge.rw_nn0115_01.row.toRowW.prog
  { p with main := { p.main with body := [1, 2, 4, 5, 7, 8, 9, 10, 11, 12, 13, 14, 16, 17, 18, 19, 20, 21, 22, 23, 24, 25, 26, 27].filterMap fun i => p.main.body[i]? } }
abbrev LT {a b c : Prop} (_ : a ∧ b → c) : Prop := a
abbrev WT {a b c : Prop} (_ : a ∧ b → c) : Prop := b
theorem look : OpenLaw.wellSaid PySem.Challenge.rw_nn0115_01 = true := by kernel_rfl
/- the head at once, by one look: in pieces it fills eighteen MB -/
local macro_rules | `(tactic| o_law) => `(tactic| refine holds_law look fun said => ?_)
local macro_rules | `(tactic| o_head $H) => `(tactic|
  refine (fun hw (both : _ ∧ _) => holds_open (q := vw) (loose := [Str.ofString "PaperError"]) (Xt := fun s => xlAt vw [] s && recOk (RowW.records PySem.Challenge.rw_nn0115_01.row.toRowW) s) (XP := XL vw []) (Yf := Hook.obs $H) (Ya := Hook.val $H) (YP := Hook.says $H) (N := 2934) both.1 (Hook.of $H) (Hook.keeps $H) (fun s e => xl_of s (Bool.and_eq_true_iff.mp e).1) XL.keeps (by rfl) (by rfl) (by rfl) (fun s e => recFacts_of (Bool.and_eq_true_iff.mp e).2) (by rfl) (by assumption) (by decide +kernel) ⟨rfl, rfl, rfl, rfl, rfl, by decide +kernel⟩ hw both.2) ?hw ?hc)
open_top hd for PySem.Challenge.rw_nn0115_01
theorem lft : LT hd := by intro w; kernel_rfl
theorem hdw : WT hd → PySem.Challenge.rw_nn0115_01.Holds := fun y => hd ⟨lft, y⟩
noncomputable abbrev PR : Program := PySem.Challenge.rw_nn0115_01.row.prog
noncomputable abbrev LO : List Str := looseW vw [Str.ofString "PaperError"]
abbrev TopH (mg mb : Str → Option Value) (me : ExcName → Option Value) (h : Heap) : Prop := Top vw LO me mg mb h
/-- what one address holds -/
inductive Res where
  | raw (o : Obj)
  | lst (vs : List Value)
  | tup (vs : List Value)
  | dct (kvs : List (Int × Value))
  | dce (kvs : List (Int × Value)) (ep : Nat)
  | cel (v : Option Value)
  | nsp (m : Str → Option Value)
def Res.at (w : World) (h : Heap) (a : Addr) : Res → Prop
  | .raw o => h.get? a = some o
  | .lst vs => h.PlainList a vs.toArray
  | .tup vs => IsTup h a vs.toArray
  | .dct kvs => h.DictOf (intKind PR w) a kvs
  | .dce kvs ep => h.DictAt (intKind PR w) a kvs ep
  | .cel v => h.IsCell a v
  | .nsp m => h.Ns a m
theorem at_of {w : World} {h h' : Heap} {a : Addr} {r : Res} (x : r.at w h a) (k : ∀ o, h.get? a = some o → h'.get? a = some o) : r.at w h' a := by
  cases r with
  | raw o => exact k _ x
  | lst vs => exact x.at k
  | tup vs => obtain ⟨o, ho, q⟩ := x; exact ⟨o, k _ ho, q⟩
  | dct kvs => obtain ⟨o, es, ep, ho, q⟩ := x; exact ⟨o, es, ep, k _ ho, q⟩
  | dce kvs ep => obtain ⟨o, es, ho, q⟩ := x; exact ⟨o, es, k _ ho, q⟩
  | cel v => obtain ⟨o, ho, q⟩ := x; exact ⟨o, k _ ho, q⟩
  | nsp m => obtain ⟨o, es, ep, ho, q⟩ := x; exact ⟨o, es, ep, k _ ho, q⟩
theorem res_ex {w : World} {h : Heap} {a : Addr} {r : Res} (x : r.at w h a) : ∃ o, h.get? a = some o := by
  cases r with
  | raw o => exact ⟨o, x⟩
  | lst vs => obtain ⟨n, e⟩ := x; exact ⟨_, e⟩
  | tup vs => obtain ⟨o, ho, _⟩ := x; exact ⟨o, ho⟩
  | dct kvs => obtain ⟨o, es, ep, ho, q⟩ := x; exact ⟨o, ho⟩
  | dce kvs ep => obtain ⟨o, es, ho, q⟩ := x; exact ⟨o, ho⟩
  | cel v => obtain ⟨o, ho, q⟩ := x; exact ⟨o, ho⟩
  | nsp m => obtain ⟨o, es, ep, ho, q⟩ := x; exact ⟨o, ho⟩
abbrev Ls := List (Addr × Res)
def keys (l : Ls) : List Addr := l.map (·.1)
theorem keys_app (a b : Ls) : keys (a ++ b) = keys a ++ keys b := List.map_append
theorem keys_cons (p : Addr × Res) (b : Ls) : keys (p :: b) = p.1 :: keys b := rfl
theorem mem_keys {l : Ls} {p : Addr × Res} (h : p ∈ l) : p.1 ∈ keys l := List.mem_map_of_mem h
/-- the objects of our own, over the base g, beside the frame's names L -/
structure Led (w : World) (g : Heap) (L : Addr) (h : Heap) (led : Ls) : Prop where
  N : ∀ p ∈ led, p.2.at w h p.1 ∧ 3 < p.1 ∧ p.1 ≠ L ∧ g.get? p.1 = none
  D : (keys led).Nodup
  B : 3 < g.objs.size
/-- what stands in a heap -/
def Has (w : World) (h : Heap) (l : Ls) : Prop := ∀ p ∈ l, p.2.at w h p.1 ∧ 3 < p.1
/-- what a call made -/
structure New (w : World) (g h : Heap) (l : Ls) : Prop where
  N : ∀ p ∈ l, p.2.at w h p.1 ∧ 3 < p.1 ∧ g.get? p.1 = none
  D : (keys l).Nodup
section
variable {w : World} {g h h' : Heap} {L : Addr} {led : Ls} {m : Str → Option Value}
theorem Led.has (x : Led w g L h led) : Has w h led := fun p hp => ⟨(x.N p hp).1, (x.N p hp).2.1⟩
theorem Led.get {a : Addr} {r : Res} (x : Led w g L h led) (hm : (a, r) ∈ led) : r.at w h a := (x.N _ hm).1
theorem Led.hi {a : Addr} {r : Res} (x : Led w g L h led) (hm : (a, r) ∈ led) : 3 < a := (x.N _ hm).2.1
theorem Has.get {l : Ls} {a : Addr} {r : Res} (x : Has w h l) (hm : (a, r) ∈ l) : r.at w h a := (x _ hm).1
theorem Has.keeps {l : Ls} (x : Has w h l) (k : h.StaysIn h') : Has w h' l := fun p hp => ⟨at_of (x p hp).1 fun o e => k _ o e, (x p hp).2⟩
theorem Has.sub {l l' : Ls} (x : Has w h l) (k : ∀ p ∈ l', p ∈ l) : Has w h l' := fun p hp => x p (k p hp)
theorem Has.left {a b : Ls} (x : Has w h (a ++ b)) : Has w h a := fun p hp => x p (List.mem_append_left _ hp)
theorem Has.right {a b : Ls} (x : Has w h (a ++ b)) : Has w h b := fun p hp => x p (List.mem_append_right _ hp)
theorem Has.app {a b : Ls} (x : Has w h a) (y : Has w h b) : Has w h (a ++ b) := fun p hp => (List.mem_append.mp hp).elim (x p) (y p)
theorem Led.nil (B : 3 < g.objs.size) : Led w g L h [] := ⟨(fun _ hp => nomatch hp), List.nodup_nil, B⟩
theorem Led.size (x : Led w g L h led) : ∀ p ∈ led, p.1 < h.objs.size := fun p hp => by
  obtain ⟨o, e⟩ := res_ex (x.N p hp).1
  exact Heap.lt_size e
/-- a part of the ledger, in any order -/
theorem Led.sub {led' : Ls} (x : Led w g L h led) (k : ∀ p ∈ led', p ∈ led) (d : (keys led').Nodup) : Led w g L h led' := ⟨fun p hp => x.N p (k p hp), d, x.B⟩
theorem Led.subl {led' : Ls} (x : Led w g L h led) (k : led'.Sublist led) : Led w g L h led' := ⟨fun p hp => x.N p (k.subset hp), (k.map _).nodup x.D, x.B⟩
theorem Led.perm {led' : Ls} (x : Led w g L h led) (k : led.Perm led') : Led w g L h led' := ⟨fun p hp => x.N p (k.mem_iff.mpr hp), (k.map _).nodup_iff.mp x.D, x.B⟩
theorem Led.off {a : Addr} {r : Res} {l : Ls} (x : Led w g L h ((a, r) :: l)) : ∀ p ∈ l, p.1 ≠ a := fun p hp e => by
  have := x.D
  rw [keys_cons, List.nodup_cons] at this
  exact this.1 (by have z : p.1 ∈ keys l := List.mem_map_of_mem hp; rw [e] at z; exact z)
theorem Led.off2 {a : Addr} {r : Res} {pre post : Ls} (x : Led w g L h (pre ++ (a, r) :: post)) : ∀ p ∈ pre ++ post, p.1 ≠ a :=
  (x.perm List.perm_middle).off
theorem Led.set (x : Led w g L h led) (hs : Heap.SameBut L h h') : Led w g L h' led :=
  ⟨fun p hp => ⟨at_of (x.N p hp).1 fun _ e => (hs.2 _ (x.N p hp).2.2.1).trans e, (x.N p hp).2⟩, x.D, x.B⟩
theorem fr_stays (F : Fr g L h m) (k : h.StaysIn h') : Fr g L h' m := ⟨F.ns.keeps k, fun b o e => k b o (F.keep b o e), F.above⟩
theorem Led.stays (x : Led w g L h led) (k : h.StaysIn h') : Led w g L h' led :=
  ⟨fun p hp => ⟨at_of (x.N p hp).1 fun o e => k _ o e, (x.N p hp).2⟩, x.D, x.B⟩
theorem fresh_none (F : Fr g L h m) {a : Addr} (e : h.get? a = none) : a ≠ L ∧ g.get? a = none := by
  obtain ⟨o, _, _, ho, _⟩ := F.ns
  refine ⟨fun q => ?_, ?_⟩
  · rw [q, ho] at e; cases e
  · cases q : g.get? a with
    | none => rfl
    | some o' => rw [F.keep _ _ q] at e; cases e
theorem size_none (h : Heap) : h.get? h.objs.size = none := by
  cases e : h.get? h.objs.size with
  | none => rfl
  | some o => exact absurd (Heap.lt_size e) (Nat.lt_irrefl _)
/-- behind a call that made tl -/
theorem Led.call {tl : Ls} (x : Led w g L h led) (F : Fr g L h m) (k : h.StaysIn h') (n : New w h h' tl) : Led w g L h' (tl ++ led) := by
  refine ⟨fun p hp => ?_, ?_, x.B⟩
  · rcases List.mem_append.mp hp with q | q
    · exact ⟨(n.N p q).1, (n.N p q).2.1, fresh_none F (n.N p q).2.2⟩
    · exact (x.stays k).N p q
  · rw [keys_app]
    refine List.nodup_append.mpr ⟨n.D, x.D, fun a ha b hb e => ?_⟩
    obtain ⟨p, hp, rfl⟩ := List.mem_map.mp ha
    obtain ⟨q, hq, rfl⟩ := List.mem_map.mp hb
    obtain ⟨o, ho⟩ := res_ex (x.N q hq).1
    have := (n.N p hp).2.2
    rw [e, ho] at this; cases this
theorem Led.gt (x : Led w g L h led) (F : Fr g L h m) : 3 < h.objs.size := Nat.lt_of_lt_of_le x.B (Nat.le_trans F.above (Nat.le_of_lt F.ns.lt))
theorem Led.push {r : Res} {o : Obj} (x : Led w g L h led) (F : Fr g L h m) (hr : r.at w (h.push o) h.objs.size) : Led w g L (h.push o) ((h.objs.size, r) :: led) :=
  x.call (tl := [(h.objs.size, r)]) F (fun _ _ e => Heap.get?_push_of_some _ e) ⟨fun p hp => by
    rw [List.mem_singleton.mp hp]; exact ⟨hr, x.gt F, size_none h⟩, by simp [keys]⟩
theorem stays_push (h : Heap) (o : Obj) : h.StaysIn (h.push o) := fun _ _ e => Heap.get?_push_of_some _ e
theorem fr_push (F : Fr g L h m) (o : Obj) : Fr g L (h.push o) m := fr_stays F (stays_push h o)
/-- an object of our own is changed -/
theorem Led.upd {a : Addr} {r r' : Res} {pre post : Ls} (x : Led w g L h (pre ++ (a, r) :: post)) (F : Fr g L h m) (hs : Heap.SameBut a h h') (hr : r'.at w h' a) :
    Fr g L h' m ∧ Led w g L h' (pre ++ (a, r') :: post) := by
  have A := x.N (a, r) (by simp)
  refine ⟨⟨F.ns.sameBut hs (Ne.symm A.2.2.1), fun b o e => (hs.2 b fun q => ?_).trans (F.keep b o e), F.above⟩, fun p hp => ?_, ?_, x.B⟩
  · rw [q, A.2.2.2] at e; cases e
  · have ne := x.off2
    rcases List.mem_append.mp hp with q | q
    · exact ⟨at_of (x.N p (List.mem_append_left _ q)).1 fun _ e => (hs.2 _ (ne p (List.mem_append_left _ q))).trans e, (x.N p (List.mem_append_left _ q)).2⟩
    · rcases List.mem_cons.mp q with rfl | q
      · exact ⟨hr, A.2⟩
      · exact ⟨at_of (x.N p (List.mem_append_right _ (.tail _ q))).1 fun _ e => (hs.2 _ (ne p (List.mem_append_right _ q))).trans e, (x.N p (List.mem_append_right _ (.tail _ q))).2⟩
  · have D := x.D
    rw [keys_app, keys_cons] at D ⊢
    exact D
theorem Led.upd0 {a : Addr} {r r' : Res} {post : Ls} (x : Led w g L h ((a, r) :: post)) (F : Fr g L h m) (hs : Heap.SameBut a h h') (hr : r'.at w h' a) :
    Fr g L h' m ∧ Led w g L h' ((a, r') :: post) := Led.upd (pre := []) x F hs hr
theorem Led.new (x : Led w g L h led) : New w g h led := ⟨fun p hp => ⟨(x.N p hp).1, (x.N p hp).2.1, (x.N p hp).2.2.2⟩, x.D⟩
theorem Led.dce {a : Addr} {kvs : List (Int × Value)} {pre post : Ls} (x : Led w g L h (pre ++ (a, .dct kvs) :: post)) : ∃ ep, Led w g L h (pre ++ (a, .dce kvs ep) :: post) := by
  have A := x.N (a, .dct kvs) (by simp)
  obtain ⟨ep, q⟩ := Heap.DictOf.dictAt A.1
  refine ⟨ep, fun p hp => ?_, ?_, x.B⟩
  · rcases List.mem_append.mp hp with z | z
    · exact x.N p (List.mem_append_left _ z)
    · rcases List.mem_cons.mp z with rfl | z
      · exact ⟨q, A.2⟩
      · exact x.N p (List.mem_append_right _ (.tail _ z))
  · have D := x.D
    rw [keys_app, keys_cons] at D ⊢
    exact D
end
section
variable {M : Model} {A : Around} {E : Value → Shared → Prop} {h : Heap} {G : Array GenState} {D : Drawn} {tk : Nat} {O : OsState} {name : Str} {scope : Scope} {L a : Addr} {cd : Value} {g : Heap} {m : Str → Option Value} {w : World} {led : Ls}
theorem stR {env : Env} {x : Str} {v : Value} {Q : Unit → Shared → Prop} (F : Fr g L h m) (N : Led w g L h led)
    (hk : env.scope.kind = .function) (hl : env.kindOf x = some .local) (hL : env.locals = L)
    (k : ∀ h' tk', Fr g L h' (fun y => if y = x then some v else m y) → Led w g L h' led → Q () ⟨h', G, D, tk', O⟩) :
    wpAny M A (storeName env x v) Q E ⟨h, G, D, tk, O⟩ := by
  subst hL
  exact wpAny_storeName_local hl F.ns (fun h' hn hs => k h' _ (F.set hn hs) (N.set hs)) (by rw [hk]; rfl)
theorem stC {env : Env} {x : Str} {c : Addr} {v₀ : Option Value} {v : Value} {pre post : Ls} {Q : Unit → Shared → Prop} (F : Fr g L h m) (N : Led w g L h (pre ++ (c, .cel v₀) :: post))
    (hk : env.scope.kind = .function) (hl : env.kindOf x = some .cell) (hc : env.cells.lookup x = some c)
    (k : ∀ h', Fr g L h' m → Led w g L h' (pre ++ (c, .cel (some v)) :: post) → Q () ⟨h', G, D, tk, O⟩) :
    wpAny M A (storeName env x v) Q E ⟨h, G, D, tk, O⟩ := by
  refine wpAny_storeName_cell hk hl hc (N.get (a := c) (r := .cel v₀) (by simp)) fun h' hv hs => ?_
  obtain ⟨F', N'⟩ := N.upd (r' := .cel (some v)) F hs hv
  exact k h' F' N'
/-- a comprehension's own name -/
theorem stN {env : Env} {x : Str} {C : Addr} {m₀ : Str → Option Value} {v : Value} {pre post : Ls} {Q : Unit → Shared → Prop} (F : Fr g L h m) (N : Led w g L h (pre ++ (C, .nsp m₀) :: post))
    (hk : env.scope.kind = .function) (hl : env.kindOf x = some .local) (hL : env.locals = C)
    (k : ∀ h' tk', Fr g L h' m → Led w g L h' (pre ++ (C, .nsp fun y => if y = x then some v else m₀ y) :: post) → Q () ⟨h', G, D, tk', O⟩) :
    wpAny M A (storeName env x v) Q E ⟨h, G, D, tk, O⟩ := by
  subst hL
  refine wpAny_storeName_local hl (N.get (a := env.locals) (r := .nsp m₀) (by simp)) (fun h' hn hs => ?_) (by rw [hk]; rfl)
  obtain ⟨F', N'⟩ := N.upd (r' := .nsp fun y => if y = x then some v else m₀ y) F hs hn
  exact k h' _ F' N'
theorem newTupleR {vs : List Value} {Q : Value → Shared → Prop} (F : Fr g L h m) (N : Led w g L h led) (hsz : vs.length ≤ sizeLine)
    (k : ∀ a h', Fr g L h' m → Led w g L h' ((a, .tup vs) :: led) → Q (.ref a) ⟨h', G, D, tk, O⟩) :
    wpAny M A (newTuple vs) Q E ⟨h, G, D, tk, O⟩ :=
  wpAny_newObj_type (k _ _ (fr_push F _) (N.push F ⟨_, Heap.get?_push_size _ rfl, rfl, _, rfl⟩)) (by show vs.toArray.size ≤ sizeLine; rw [List.size_toArray]; exact hsz)
theorem newListR {vs : List Value} {Q : Value → Shared → Prop} (F : Fr g L h m) (N : Led w g L h led) (hsz : vs.length ≤ sizeLine)
    (k : ∀ a h', Fr g L h' m → Led w g L h' ((a, .lst vs) :: led) → Q (.ref a) ⟨h', G, D, tk, O⟩) :
    wpAny M A (newList vs) Q E ⟨h, G, D, tk, O⟩ :=
  wpAny_newObj_type (k _ _ (fr_push F _) (N.push F ⟨_, Heap.get?_push_size _ rfl⟩)) (by show vs.toArray.size ≤ sizeLine; rw [List.size_toArray]; exact hsz)
end
/-- an iterator that can be walked -/
structure Wk (w : World) (A : Around) (I : Addr) (n : Nat) (P : Nat → Value → Prop) (It : Nat → Heap → Prop) (C : Heap → Prop) : Prop where
  item : ∀ i (s : Shared) (Q : Option Value → Shared → Prop) (E : Value → Shared → Prop), i < n → It i s.heap → C s.heap →
    (∀ v h' tk, P i v → It (i + 1) h' → (∀ b o, b ≠ I → s.heap.get? b = some o → h'.get? b = some o) → Q (some v) { s with heap := h', toks := tk }) → wpAny (model PR w) A (pyNext (.ref I)) Q E s
  done : ∀ (s : Shared) (Q : Option Value → Shared → Prop) (E : Value → Shared → Prop), It n s.heap → C s.heap →
    (∀ h' tk, (∀ b o, b ≠ I → s.heap.get? b = some o → h'.get? b = some o) → Q none { s with heap := h', toks := tk }) → wpAny (model PR w) A (pyNext (.ref I)) Q E s
  self : ∀ i (s : Shared) (Q : Value → Shared → Prop) (E : Value → Shared → Prop), It i s.heap → C s.heap → Q (.ref I) s → wpAny (model PR w) A (pyIter (.ref I)) Q E s
  loc : ∀ i h h', It i h → (∀ o, h.get? I = some o → h'.get? I = some o) → It i h'
  ex : ∀ i h, It i h → ∃ o, h.get? I = some o
theorem Wk.of {w : World} {A : Around} {I : Addr} {fp : List Addr} {n : Nat} {P : Nat → Value → Prop} {It : Nat → Heap → Prop} {C : Heap → Prop} {St : Nat → Heap → Prop}
    (W : Walks PR w A I fp [I] n P St) (h1 : ∀ i h, St i h → It i h) (h2 : ∀ i h, It i h → C h → St i h)
    (loc : ∀ i h h', It i h → (∀ o, h.get? I = some o → h'.get? I = some o) → It i h') (ex : ∀ i h, It i h → ∃ o, h.get? I = some o) : Wk w A I n P It C where
  item := fun i s Q E hi it c hQ => W.item i s Q E hi (h2 _ _ it c) fun v h' tk p st k => hQ v h' tk p (h1 _ _ st) fun b o hb e => k b o (by simpa using hb) e
  done := fun s Q E it c hQ => W.done s Q E (h2 _ _ it c) fun h' tk k => hQ h' tk fun b o hb e => k b o (by simpa using hb) e
  self := fun i s Q E it c hQ => W.self i s Q E (h2 _ _ it c) hQ
  loc := loc
  ex := ex
/-- where a turn goes on: the iterator stands somewhere in the ledger -/
inductive TNext (w : World) (g : Heap) (L I : Addr) (oI : Obj) (J' : (Str → Option Value) → Ls → Prop) (G : Array GenState) (D : Drawn) (O : OsState) (s₂ : Shared) : Prop
  | mk (h' : Heap) (tk' : Nat) (m' : Str → Option Value) (pre post : Ls) (x1 : s₂ = ⟨h', G, D, tk', O⟩) (x2 : Fr g L h' m') (x3 : Led w g L h' (pre ++ (I, .raw oI) :: post)) (x4 : J' m' (pre ++ post)) : TNext w g L I oI J' G D O s₂
/-- a loop's state between two turns -/
inductive LSt (w : World) (g : Heap) (L I : Addr) (n : Nat) (It : Nat → Heap → Prop) (J : Nat → (Str → Option Value) → Ls → Prop) (G : Array GenState) (D : Drawn) (O : OsState) (k : Nat) (s' : Shared) : Prop
  | mk (h' : Heap) (tk : Nat) (m' : Str → Option Value) (led' : Ls) (i : Nat) (x1 : s' = ⟨h', G, D, tk, O⟩) (x2 : It i h') (x3 : Fr g L h' m') (x4 : Led w g L h' led') (x5 : ∀ p ∈ led', p.1 ≠ I) (x6 : J i m' led') (x7 : i ≤ n) (x8 : k = n + 1 - i) : LSt w g L I n It J G D O k s'
def TurnEnd (w : World) (g : Heap) (L I : Addr) (oI : Obj) (J' : (Str → Option Value) → Ls → Prop) (G : Array GenState) (D : Drawn) (O : OsState) (Q : Flow → Shared → Prop) (f : Flow) (s₂ : Shared) : Prop :=
  match f with
  | .ret v => Q (.ret v) s₂
  | .brk => Q .next s₂
  | _ => TNext w g L I oI J' G D O s₂
theorem turnNext {w : World} {g : Heap} {L I : Addr} {oI : Obj} {J' : (Str → Option Value) → Ls → Prop} {G : Array GenState} {D : Drawn} {O : OsState} {Q : Flow → Shared → Prop} {h : Heap} {tk : Nat} {m : Str → Option Value} (pre : Ls) {post : Ls}
    (F : Fr g L h m) (N : Led w g L h (pre ++ (I, .raw oI) :: post)) (hJ : J' m (pre ++ post)) : TurnEnd w g L I oI J' G D O Q .next ⟨h, G, D, tk, O⟩ := ⟨h, tk, m, pre, post, rfl, F, N, hJ⟩
section
variable {w : World} {A : Around} {E : Value → Shared → Prop} {h : Heap} {G : Array GenState} {D : Drawn} {tk : Nat} {O : OsState} {env : Env} {g : Heap} {x : Str} {px : Pos} {body : List Stmt} {Q : Flow → Shared → Prop} {m : Str → Option Value} {led : Ls}
  {I : Addr} {n : Nat} {P : Nat → Value → Prop} {It : Nat → Heap → Prop} {C : Heap → Prop}
/-- one turn's step of the iterator, the ledger by -/
theorem next_keeps {h₁ : Heap} (F : Fr g env.locals h m) (N : Led w g env.locals h led) (fI : I ≠ env.locals ∧ g.get? I = none) (off : ∀ p ∈ led, p.1 ≠ I)
    (k : ∀ b o, b ≠ I → h.get? b = some o → h₁.get? b = some o) : Fr g env.locals h₁ m ∧ Led w g env.locals h₁ led := by
  refine ⟨⟨F.ns.at' fun o e => k _ o (Ne.symm fI.1) e, fun b o e => k b o (fun q => ?_) (F.keep b o e), F.above⟩, fun p hp => ⟨at_of (N.N p hp).1 fun o e => k _ o (off p hp) e, (N.N p hp).2⟩, N.D, N.B⟩
  rw [q, fI.2] at e; cases e
theorem loopR (K : Wk w A I n P It C) (hx : env.kindOf x = some .local) (hp : (env.scope.kind == .class || (env.scope.kind == .module && env.locals != env.globals)) = false)
    (hE : PassesOwn (model PR w) A env E)
    (h0 : It 0 h) (F : Fr g env.locals h m) (N : Led w g env.locals h led) (fI : I ≠ env.locals ∧ g.get? I = none) (h3 : 3 < I) (off : ∀ p ∈ led, p.1 ≠ I)
    (J : Nat → (Str → Option Value) → Ls → Prop) (hJ : J 0 m led)
    (hC : ∀ i m led h, J i m led → Fr g env.locals h m → Led w g env.locals h led → C h)
    (turn : ∀ i v m₁ led₁ oI h tk, i < n → P i v → J i m₁ led₁ → Fr g env.locals h (fun y => if y = x then some v else m₁ y) → Led w g env.locals h ((I, .raw oI) :: led₁) →
      wpAny (model PR w) A (execs body env) (TurnEnd w g env.locals I oI (J (i + 1)) G D O Q) E ⟨h, G, D, tk, O⟩)
    (done : ∀ m₁ led₁ h tk, J n m₁ led₁ → Fr g env.locals h m₁ → Led w g env.locals h led₁ → Q .next ⟨h, G, D, tk, O⟩) :
    codeAny (model PR w) A (.forLoop (.Name x px) (.ref I) body [] env) (fun r s' => match r with | .ok f => Q f s' | .error e => cameBackBy (model PR w) A env E e s') ⟨h, G, D, tk, O⟩ := by
  refine codeAny_forLoop
    (LSt w g env.locals I n It J G D O) ?_ (n + 1)
    ⟨h, tk, m, led, 0, rfl, h0, F, N, off, hJ, Nat.zero_le _, rfl⟩
  rintro k s' ⟨h', tk, m', led', i, rfl, hit, F', N', off', hJ', hi, rfl⟩
  have hc := hC i m' led' h' hJ' F' N'
  by_cases hlt : i < n
  · refine K.item i _ _ _ hlt hit hc fun v h₁ tk₁ hP hit₁ hk₁ => ?_
    obtain ⟨F₁, N₁⟩ := next_keeps F' N' fI off' hk₁
    refine wpAny_assign_Name (wpAny_storeName_local hx F₁.ns (fun h₂ hn₂ hs₂ => ?_) hp)
    have F₂ := F₁.set hn₂ hs₂
    have N₂ := N₁.set hs₂
    have hit₂ : It (i + 1) h₂ := K.loc _ _ _ hit₁ fun o e => (hs₂.2 _ fI.1).trans e
    obtain ⟨oI, hoI⟩ := K.ex _ _ hit₂
    have D₃ : (keys ((I, Res.raw oI) :: led')).Nodup := by
      rw [keys_cons, List.nodup_cons]
      refine ⟨fun z => ?_, N₂.D⟩
      obtain ⟨p, hp, e⟩ := List.mem_map.mp z
      exact off' p hp e
    have M₃ : ∀ p ∈ (I, Res.raw oI) :: led', p.2.at w h₂ p.1 ∧ 3 < p.1 ∧ p.1 ≠ env.locals ∧ g.get? p.1 = none := by
      intro p hp
      rcases List.mem_cons.mp hp with hp | hp
      · subst hp; exact ⟨hoI, h3, fI⟩
      · exact N₂.N p hp
    have N₃ : Led w g env.locals h₂ ((I, .raw oI) :: led') := ⟨M₃, D₃, N₂.B⟩
    refine wpAny_mono (wpAny_passesOwn hE (turn i v m' led' oI h₂ (tk₁ + 1) hlt hP hJ' F₂ N₃)) (fun f s₃ h₃ => ?_) fun _ _ e => e
    have fin : TNext w g env.locals I oI (J (i + 1)) G D O s₃ →
        ∃ k', k' < n + 1 - i ∧ LSt w g env.locals I n It J G D O k' s₃ := by
      rintro ⟨h₄, tk₄, m₄, pre, post, rfl, F₄, N₄, J₄⟩
      refine ⟨n + 1 - (i + 1), by omega, h₄, tk₄, m₄, pre ++ post, i + 1, rfl, K.loc _ _ _ hit₂ fun o e => ?_, F₄, N₄.subl ?_, N₄.off2, J₄, hlt, rfl⟩
      · rw [hoI] at e; cases e; exact N₄.get (a := I) (r := .raw oI) (by simp)
      · exact (List.sublist_cons_self _ _).append_left pre
    cases f with
    | ret v => exact h₃
    | brk => exact h₃
    | cont => exact fin h₃
    | next => exact fin h₃
  · have hin : i = n := by omega
    subst hin
    refine K.done _ _ _ hit hc fun h₁ tk₁ hk₁ => wpAny_execs_nil ?_
    obtain ⟨F₁, N₁⟩ := next_keeps F' N' fI off' hk₁
    exact done m' led' h₁ tk₁ hJ' F₁ N₁
end
section
variable {w : World} {mg mb : Str → Option Value} {me : ExcName → Option Value} {A : Around} {h : Heap} {G : Array GenState} {D : Drawn} {tk : Nat} {O : OsState}
  {name qual : Str} {params : Arguments} {body : List Stmt} {scope : Scope} {dV kV doc pm cdv ct oc : Value} {an od : Option Addr} {osl : Array (Option Value)} {f : Addr} {args : List Value}
  {Q E : Value → Shared → Prop}
theorem heapK {w : World} {h : Heap} (X : (hd.heap_1 w.params).In h) : 3 < h.objs.size := Heap.lt_size (X 3 _ rfl)
/-- a def of the text that raises nothing and turns nothing: its frame over the whole heap -/
theorem enterP {h₀ : Heap} (X : (hd.heap_1 w.params).In h₀) (T : TopH mg mb me h₀) (st : h₀.StaysIn h) (binds : List (Str × Value))
  (ho : (hd.heap_1 w.params).lookup f = some ⟨oc, od, .func (fnOf name qual params body scope dV kV doc pm an cdv ct), osl⟩) (hcd : codeIn (hd.heap_1 w.params) cdv qual = true)
  (hroom : A.depth < recursionLimit)
  (hbind : BindsTo ⟨h, G, D, tk, O⟩ (fnOf name qual params body scope dV kV doc pm an cdv ct) ⟨args, []⟩ binds)
  (hloc : (binds.all fun x => decide (scope.names.lookup x.1 = some .local)) = true) (hcell : ∀ x ∈ scope.names, x.2 ≠ .cell)
  (hco : scope.isCoroutine = false) (hgen : scope.isGenerator = false) (hk : scope.kind = .function)
  (k : ∀ L h₁ tk, (hd.heap_1 w.params).In h → TopH mg mb me h → Fr h L h₁ (fun x => binds.reverse.lookup x) → Led w h L h₁ [] →
      wpAny (model PR w) (A.deeper (envOf qual scope L f cdv)) (execs body (envOf qual scope L f cdv))
        (fun fl s' => Q (match fl with | .ret v => v | _ => .none) s') (fun _ _ => False)
        ⟨h₁, G, D, tk, O⟩) :
  wpAny (model PR w) A (call (.ref f) args) Q E ⟨h, G, D, tk, O⟩ := by
  refine wpAny_call ?_
  refine codeAny_call_def (fd := fnOf name qual params body scope dV kV doc pm an cdv ct) (body := body) (binds := binds) hroom (st _ _ (X _ _ ho)) rfl (T.nolimit.keeps st) (codeRec_of (X.keeps st) hcd) rfl hbind hcell (locs hloc) (fun h₁ hns hk₁ => ?_) hco hgen hk
  exact wpAny_mono (k h.objs.size h₁ _ (X.keeps st) (T.keeps st) ⟨hns, hk₁, Nat.le_refl _⟩ (.nil (heapK (X.keeps st)))) (fun fl s' hl => hl) fun _ _ y => y.elim
/-- a def of the text that turns the hidden objects -/
theorem enterH {h₀ : Heap} (X : (hd.heap_1 w.params).In h₀) (T : TopH mg mb me h₀) (st : h₀.StaysIn h) (hid : Ls) (NH : New w h₀ h hid) (binds : List (Str × Value))
  (ho : (hd.heap_1 w.params).lookup f = some ⟨oc, od, .func (fnOf name qual params body scope dV kV doc pm an cdv ct), osl⟩) (hcd : codeIn (hd.heap_1 w.params) cdv qual = true)
  (hroom : A.depth < recursionLimit)
  (hbind : BindsTo ⟨h, G, D, tk, O⟩ (fnOf name qual params body scope dV kV doc pm an cdv ct) ⟨args, []⟩ binds)
  (hloc : (binds.all fun x => decide (scope.names.lookup x.1 = some .local)) = true) (hcell : ∀ x ∈ scope.names, x.2 ≠ .cell)
  (hco : scope.isCoroutine = false) (hgen : scope.isGenerator = false) (hk : scope.kind = .function)
  (k : ∀ g L h₁ tk, g = hideAll h (keys hid) → (hd.heap_1 w.params).In g → TopH mg mb me g → Fr g L h₁ (fun x => binds.reverse.lookup x) → Led w g L h₁ hid →
      wpAny (model PR w) (A.deeper (envOf qual scope L f cdv)) (execs body (envOf qual scope L f cdv))
        (fun fl s' => Q (match fl with | .ret v => v | _ => .none) s') (fun _ _ => False)
        ⟨h₁, G, D, tk, O⟩) :
  wpAny (model PR w) A (call (.ref f) args) Q E ⟨h, G, D, tk, O⟩ := by
  have nm : ∀ b o, h₀.get? b = some o → b ∉ keys hid := fun b o e q => by
    obtain ⟨p, hp, rfl⟩ := List.mem_map.mp q
    rw [(NH.N p hp).2.2] at e; cases e
  have st2 : h₀.StaysIn (hideAll h (keys hid)) := fun b o e => hideAll_get _ (st b o e) (nm b o e)
  refine wpAny_call ?_
  refine codeAny_call_def (fd := fnOf name qual params body scope dV kV doc pm an cdv ct) (body := body) (binds := binds) hroom (st _ _ (X _ _ ho)) rfl (T.nolimit.keeps st) (codeRec_of (X.keeps st) hcd) rfl hbind hcell (locs hloc) (fun h₁ hns hk₁ => ?_) hco hgen hk
  have sz : (hideAll h (keys hid)).objs.size = h.objs.size := hideAll_size _ _
  exact wpAny_mono (k _ h.objs.size h₁ _ rfl (X.keeps st2) (T.keeps st2) ⟨hns, fun b o e => hk₁ b o (of_hideAll _ e), Nat.le_of_eq sz⟩
    ⟨fun p hp => ⟨at_of (NH.N p hp).1 fun o e => hk₁ _ o e, (NH.N p hp).2.1, (by obtain ⟨o, e⟩ := res_ex (NH.N p hp).1; exact Nat.ne_of_lt (Heap.lt_size e)), hideAll_none _ (List.mem_map_of_mem hp)⟩, NH.D, sz ▸ heapK (X.keeps st)⟩)
    (fun fl s' hl => hl) fun _ _ y => y.elim
end
section
variable {w : World} {A : Around}
theorem Wk.bytes (hh : A.handled = none) (I : Addr) (b : Array UInt8) (t : Tok) :
    Wk w A I b.size (fun i v => ∃ c u, b[i]? = some c ∧ v = .int (c.toNat : Int) u) (fun i h => KBw.IsBytesIter h I b t i) (fun _ => True) :=
  Wk.of (KBw.walks hh I b t) (fun _ _ x => x) (fun _ _ x _ => x) (fun _ _ _ x k => let ⟨o, ho, r⟩ := x; ⟨o, k _ ho, r⟩) (fun _ _ x => let ⟨o, ho, _⟩ := x; ⟨o, ho⟩)
theorem Wk.list (hh : A.handled = none) (I l : Addr) (hne : l ≠ I) (vs : List Value) :
    Wk w A I vs.length (fun i v => vs[i]? = some v) (fun i h => h.IsListIter I l i) (fun h => h.IsList l vs.toArray) := by
  have W := Walks.list (prog := PR) (w := w) hh I l hne vs.toArray
  rw [List.size_toArray] at W
  have W' : Walks PR w A I [I, l] [I] vs.length (fun i v => vs[i]? = some v) (fun i h => h.IsListIter I l i ∧ h.IsList l vs.toArray) := by simpa using W
  exact Wk.of W' (fun _ _ x => x.1) (fun _ _ x y => ⟨x, y⟩) (fun _ _ _ x k => let ⟨o, ho, r⟩ := x; ⟨o, k _ ho, r⟩) (fun _ _ x => let ⟨o, ho, _⟩ := x; ⟨o, ho⟩)
theorem Wk.range (hh : A.handled = none) (I : Addr) (a c : Int) (n : Nat) :
    Wk w A I n (fun i v => ∃ t, v = .int (a + i * c) t) (fun i h => IsRangeIter h I (a + (i : Nat) * c) ((n : Int) - (i : Nat)) c) (fun _ => True) :=
  Wk.of (Walks.range hh I a c n) (fun _ _ x => x) (fun _ _ x _ => x) (fun _ _ _ x k => k _ x) (fun _ _ x => ⟨_, x⟩)
theorem Wk.dict (hh : A.handled = none) (I d : Addr) (hne : d ≠ I) (kvs : List (Int × Value)) (ep : Nat) :
    Wk w A I kvs.length (fun i v => ∃ k x t, kvs[i]? = some (k, x) ∧ v = .int k t) (fun i h => h.IsKeyIter I d i kvs.length ep) (fun h => h.DictAt (intKind PR w) d kvs ep) := by
  have W := Walks.dictKeys (prog := PR) (w := w) (knd := intKind PR w) hh I d hne kvs ep
  have K := Wk.of W (fun _ _ x => x.1) (fun _ _ x y => ⟨x, y⟩) (fun _ _ _ x k => x.at k) (fun _ _ x => let ⟨o, ho, _⟩ := x; ⟨o, ho⟩)
  exact ⟨fun i s Q E hi it c hQ => K.item i s Q E hi it c fun v h' tk p => hQ v h' tk (by
    obtain ⟨k, x, e, hk⟩ := p
    obtain ⟨t, rfl⟩ := Value.isInt_shape hk
    exact ⟨k, x, t, e, rfl⟩), K.done, K.self, K.loc, K.ex⟩
end
section
variable {w : World} {A : Around} {E : Value → Shared → Prop} {h : Heap} {G : Array GenState} {D : Drawn} {tk : Nat} {O : OsState} {env : Env} {L : Addr} {g : Heap} {x : Str} {px : Pos} {body : List Stmt} {Q : Flow → Shared → Prop} {m : Str → Option Value} {led : Ls}
def ForAt (w : World) (A : Around) (env : Env) (x : Str) (px : Pos) (body : List Stmt) (Q : Flow → Shared → Prop) (E : Value → Shared → Prop) (it : Value) (s₂ : Shared) : Prop :=
  codeAny (model PR w) A (.forLoop (.Name x px) it body [] env) (fun r s' => match r with | .ok f => Q f s' | .error e => cameBackBy (model PR w) A env E e s') s₂
theorem forS {iter : Expr} {pos : Pos} {s : Shared} (hq : wpAny (model PR w) A (eval iter env) (fun xv s₁ => wpAny (model PR w) A (pyIter xv) (fun it s₂ => ForAt w A env x px body Q E it s₂) E s₁) E s)
    (hs : ∀ x, foldedSetIterable iter env x = pure x) : wpAny (model PR w) A (exec (.For (.Name x px) iter body [] pos) env) Q E s := wpAny_For hq hs
/-- the iterator is new -/
theorem iterR {n : Nat} {P : Nat → Value → Prop} {It : Nat → Heap → Prop} {C : Heap → Prop} {ob : Obj} (K : Wk w A h.objs.size n P It C) (hx : env.kindOf x = some .local) (hp : (env.scope.kind == .class || (env.scope.kind == .module && env.locals != env.globals)) = false)
    (hE : PassesOwn (model PR w) A env E) (hL : env.locals = L)
    (h0 : It 0 (h.push ob)) (F : Fr g L h m) (N : Led w g L h led)
    (J : Nat → (Str → Option Value) → Ls → Prop) (hJ : J 0 m led)
    (hC : ∀ i m led h, J i m led → Fr g L h m → Led w g L h led → C h)
    (turn : ∀ I i v m₁ led₁ oI h tk, i < n → P i v → J i m₁ led₁ → Fr g L h (fun y => if y = x then some v else m₁ y) → Led w g L h ((I, .raw oI) :: led₁) →
      wpAny (model PR w) A (execs body env) (TurnEnd w g L I oI (J (i + 1)) G D O Q) E ⟨h, G, D, tk, O⟩)
    (done : ∀ m₁ led₁ h tk, J n m₁ led₁ → Fr g L h m₁ → Led w g L h led₁ → Q .next ⟨h, G, D, tk, O⟩) :
    ForAt w A env x px body Q E (.ref h.objs.size) ⟨h.push ob, G, D, tk, O⟩ :=
  by subst hL; exact loopR K hx hp hE h0 (fr_push F ob) (N.stays (stays_push _ _)) (fresh_none F (size_none _)) (N.gt F) (fun p hp => Nat.ne_of_lt (N.size p hp)) J hJ hC (turn h.objs.size) done
theorem forBytes {b : Array UInt8} {t : Tok} (hh : A.handled = none) (hx : env.kindOf x = some .local) (hp : (env.scope.kind == .class || (env.scope.kind == .module && env.locals != env.globals)) = false)
    (hE : PassesOwn (model PR w) A env E) (hL : env.locals = L) (F : Fr g L h m) (N : Led w g L h led)
    (J : Nat → (Str → Option Value) → Ls → Prop) (hJ : J 0 m led)
    (turn : ∀ I i c t m₁ led₁ oI h tk, b[i]? = some c → J i m₁ led₁ → Fr g L h (fun y => if y = x then some (.int (c.toNat : Int) t) else m₁ y) → Led w g L h ((I, .raw oI) :: led₁) →
      wpAny (model PR w) A (execs body env) (TurnEnd w g L I oI (J (i + 1)) G D O Q) E ⟨h, G, D, tk, O⟩)
    (done : ∀ m₁ led₁ h tk, J b.size m₁ led₁ → Fr g L h m₁ → Led w g L h led₁ → Q .next ⟨h, G, D, tk, O⟩) :
    wpAny (model PR w) A (pyIter (.bytes b t)) (fun it s₂ => ForAt w A env x px body Q E it s₂) E ⟨h, G, D, tk, O⟩ :=
  KBw.pyIter_bytes (iterR (Wk.bytes hh _ b t) hx hp hE hL ⟨_, Heap.get?_push_size _ rfl, rfl, rfl⟩ F N J hJ (fun _ _ _ _ _ _ _ => trivial)
    (fun I i v m₁ led₁ oI h tk _ hP hJ' F' N' => by obtain ⟨c, u, e, rfl⟩ := hP; exact turn I i c u m₁ led₁ oI h tk e hJ' F' N') done)
theorem forList {l : Addr} {vs : List Value} (hh : A.handled = none) (hx : env.kindOf x = some .local) (hp : (env.scope.kind == .class || (env.scope.kind == .module && env.locals != env.globals)) = false)
    (hE : PassesOwn (model PR w) A env E) (hL : env.locals = L) (F : Fr g L h m) (N : Led w g L h led) (hl : h.IsList l vs.toArray)
    (J : Nat → (Str → Option Value) → Ls → Prop) (hJ : J 0 m led)
    (hC : ∀ i m led h, J i m led → Fr g L h m → Led w g L h led → h.IsList l vs.toArray)
    (turn : ∀ I i v m₁ led₁ oI h tk, vs[i]? = some v → J i m₁ led₁ → Fr g L h (fun y => if y = x then some v else m₁ y) → Led w g L h ((I, .raw oI) :: led₁) →
      wpAny (model PR w) A (execs body env) (TurnEnd w g L I oI (J (i + 1)) G D O Q) E ⟨h, G, D, tk, O⟩)
    (done : ∀ m₁ led₁ h tk, J vs.length m₁ led₁ → Fr g L h m₁ → Led w g L h led₁ → Q .next ⟨h, G, D, tk, O⟩) :
    wpAny (model PR w) A (pyIter (.ref l)) (fun it s₂ => ForAt w A env x px body Q E it s₂) E ⟨h, G, D, tk, O⟩ :=
  wpAny_pyIter_list hl (iterR (Wk.list hh _ l (by obtain ⟨o, ho, _⟩ := hl; exact Nat.ne_of_lt (Heap.lt_size ho)) vs) hx hp hE hL ⟨_, Heap.get?_push_size _ rfl, rfl, rfl⟩ F N J hJ hC
    (fun I i v m₁ led₁ oI h tk _ hP hJ' F' N' => turn I i v m₁ led₁ oI h tk hP hJ' F' N') done)
theorem forDict {d : Addr} {kvs : List (Int × Value)} {ep : Nat} (hh : A.handled = none) (hx : env.kindOf x = some .local) (hp : (env.scope.kind == .class || (env.scope.kind == .module && env.locals != env.globals)) = false)
    (hE : PassesOwn (model PR w) A env E) (hL : env.locals = L) (F : Fr g L h m) (N : Led w g L h led) (hd3 : 3 < d) (hm : h.DictAt (intKind PR w) d kvs ep)
    (J : Nat → (Str → Option Value) → Ls → Prop) (hJ : J 0 m led)
    (hC : ∀ i m led h, J i m led → Fr g L h m → Led w g L h led → h.DictAt (intKind PR w) d kvs ep)
    (turn : ∀ I i k v t m₁ led₁ oI h tk, kvs[i]? = some (k, v) → J i m₁ led₁ → Fr g L h (fun y => if y = x then some (.int k t) else m₁ y) → Led w g L h ((I, .raw oI) :: led₁) →
      wpAny (model PR w) A (execs body env) (TurnEnd w g L I oI (J (i + 1)) G D O Q) E ⟨h, G, D, tk, O⟩)
    (done : ∀ m₁ led₁ h tk, J kvs.length m₁ led₁ → Fr g L h m₁ → Led w g L h led₁ → Q .next ⟨h, G, D, tk, O⟩) :
    wpAny (model PR w) A (pyIter (.ref d)) (fun it s₂ => ForAt w A env x px body Q E it s₂) E ⟨h, G, D, tk, O⟩ :=
  wpAny_pyIter_dict (beq_false_of_ne (fun e => absurd (e ▸ hd3 : 3 < sysModules) (by decide))) hm (iterR (Wk.dict hh _ d (by obtain ⟨o, es, ho, _⟩ := hm; exact Nat.ne_of_lt (Heap.lt_size ho)) kvs ep) hx hp hE hL ⟨_, Heap.get?_push_size _ rfl, rfl, rfl⟩ F N J hJ hC
    (fun I i v m₁ led₁ oI h tk _ hP hJ' F' N' => by obtain ⟨k, x, t, e, rfl⟩ := hP; exact turn I i k x t m₁ led₁ oI h tk e hJ' F' N') done)
theorem forRange {r : Addr} {a b c : Int} {t u v : Tok} (n : Nat) (hn : Builtin.Range.rangeSize a b c = n) (hr : IsRange h r a b c t u v) (hsm : Builtin.Range.small a b c = true) (hh : A.handled = none) (hx : env.kindOf x = some .local) (hp : (env.scope.kind == .class || (env.scope.kind == .module && env.locals != env.globals)) = false)
    (hE : PassesOwn (model PR w) A env E) (hL : env.locals = L) (F : Fr g L h m) (N : Led w g L h led)
    (J : Nat → (Str → Option Value) → Ls → Prop) (hJ : J 0 m led)
    (turn : ∀ I i t m₁ led₁ oI h tk, i < n → J i m₁ led₁ → Fr g L h (fun y => if y = x then some (.int (a + i * c) t) else m₁ y) → Led w g L h ((I, .raw oI) :: led₁) →
      wpAny (model PR w) A (execs body env) (TurnEnd w g L I oI (J (i + 1)) G D O Q) E ⟨h, G, D, tk, O⟩)
    (done : ∀ m₁ led₁ h tk, J n m₁ led₁ → Fr g L h m₁ → Led w g L h led₁ → Q .next ⟨h, G, D, tk, O⟩) :
    wpAny (model PR w) A (pyIter (.ref r)) (fun it s₂ => ForAt w A env x px body Q E it s₂) E ⟨h, G, D, tk, O⟩ :=
  wpAny_pyIter_range hr hsm (iterR (Wk.range hh _ a c n) hx hp hE hL (by rw [hn]; show IsRangeIter _ _ (a + ((0 : Nat) : Int) * c) ((n : Int) - ((0 : Nat) : Int)) c; rw [show a + ((0 : Nat) : Int) * c = a by simp, show (n : Int) - ((0 : Nat) : Int) = n by simp]; exact Heap.get?_push_size _ rfl) F N J hJ (fun _ _ _ _ _ _ _ => trivial)
    (fun I i v m₁ led₁ oI h tk hi hP hJ' F' N' => by obtain ⟨t, rfl⟩ := hP; exact turn I i t m₁ led₁ oI h tk hi hJ' F' N') done)
end
section
variable {w : World} {A : Around} {E : Value → Shared → Prop} {h : Heap} {G : Array GenState} {D : Drawn} {tk : Nat} {O : OsState} {env : Env} {Q : Value → Shared → Prop} {a b : Int} {t u : Tok}
theorem constI {i : Int} {k pos} (hq : ∀ t tk', Q (.int i t) ⟨h, G, D, tk', O⟩) : wpAny (model PR w) A (eval (.Constant (.int i) k pos) env) Q E ⟨h, G, D, tk, O⟩ := by with_reducible refine wpAny_Constant_int ?_; exact hq _ _
theorem constS {x : Str} {k pos} (hq : ∀ t tk', Q (.str x t) ⟨h, G, D, tk', O⟩) : wpAny (model PR w) A (eval (.Constant (.str x) k pos) env) Q E ⟨h, G, D, tk, O⟩ := by with_reducible refine Calls.Constant_str ?_; exact hq _ _
theorem constB {c : Bool} {k pos} (hq : Q (.bool c) ⟨h, G, D, tk, O⟩) : wpAny (model PR w) A (eval (.Constant (.bool c) k pos) env) Q E ⟨h, G, D, tk, O⟩ := PyProof.Rows.Constant_bool hq
theorem constN {k pos} (hq : Q .none ⟨h, G, D, tk, O⟩) : wpAny (model PR w) A (eval (.Constant .none k pos) env) Q E ⟨h, G, D, tk, O⟩ := PyProof.Rows.Constant_none hq
theorem addI (hq : ∀ t tk', Q (.int (a + b) t) ⟨h, G, D, tk', O⟩) : wpAny (model PR w) A (binaryOp .Add (.int a t) (.int b u)) Q E ⟨h, G, D, tk, O⟩ := by with_reducible refine PyProof.Rows.add_int ?_; exact hq _ _
theorem subI (hq : ∀ t tk', Q (.int (a - b) t) ⟨h, G, D, tk', O⟩) : wpAny (model PR w) A (binaryOp .Sub (.int a t) (.int b u)) Q E ⟨h, G, D, tk, O⟩ := by with_reducible refine PyProof.Rows.sub_int ?_; exact hq _ _
theorem mulI (h1 : -(2 ^ 64) < a) (h2 : a < 2 ^ 64) (hq : ∀ t tk', Q (.int (a * b) t) ⟨h, G, D, tk', O⟩) : wpAny (model PR w) A (binaryOp .Mult (.int a t) (.int b u)) Q E ⟨h, G, D, tk, O⟩ := by with_reducible refine' PyProof.Rows.mul_int ?_ (IntMulOk.of_left (intBits_le_64 h1 h2)); exact hq _ _
theorem modI (hb : b ≠ 0) (hq : ∀ t tk', Q (.int (a.fmod b) t) ⟨h, G, D, tk', O⟩) : wpAny (model PR w) A (binaryOp .Mod (.int a t) (.int b u)) Q E ⟨h, G, D, tk, O⟩ := by with_reducible refine PyProof.Rows.mod_int' hb ?_; exact hq _ _
theorem divI (hb : b ≠ 0) (hl : b.natAbs.log2 < 9000) (hq : ∀ t tk', Q (.int (a.fdiv b) t) ⟨h, G, D, tk', O⟩) : wpAny (model PR w) A (binaryOp .FloorDiv (.int a t) (.int b u)) Q E ⟨h, G, D, tk, O⟩ := by with_reducible refine' PyProof.Rows.floordiv_int hb ?_ (.inl (PyProof.noPylong_of_log2 hl)); exact hq _ _
theorem powI (h1 : a.natAbs < 2 ^ 64) (hn : 0 ≤ b) (hn2 : b ≤ 1000000) (hq : ∀ t tk', Q (.int (a ^ b.toNat) t) ⟨h, G, D, tk', O⟩) : wpAny (model PR w) A (binaryOp .Pow (.int a t) (.int b u)) Q E ⟨h, G, D, tk, O⟩ := by with_reducible refine PyProof.Rows.pow_int_small hn hn2 h1 ?_; exact hq _ _
theorem negI (hq : ∀ t tk', Q (.int (-a) t) ⟨h, G, D, tk', O⟩) : wpAny (model PR w) A (unaryOp .USub (.int a t)) Q E ⟨h, G, D, tk, O⟩ := by with_reducible refine PyProof.Rows.neg_int ?_; exact hq _ _
theorem ltI (hq : Q (.bool (decide (a < b))) ⟨h, G, D, tk, O⟩) : wpAny (model PR w) A (compareOp .Lt (.int a t) (.int b u)) Q E ⟨h, G, D, tk, O⟩ := by with_reducible refine P.lt_int ?_; exact hq
theorem leI (hq : Q (.bool (decide (a ≤ b))) ⟨h, G, D, tk, O⟩) : wpAny (model PR w) A (compareOp .LtE (.int a t) (.int b u)) Q E ⟨h, G, D, tk, O⟩ := by with_reducible refine P.le_int ?_; exact hq
theorem gtI (hq : Q (.bool (decide (a > b))) ⟨h, G, D, tk, O⟩) : wpAny (model PR w) A (compareOp .Gt (.int a t) (.int b u)) Q E ⟨h, G, D, tk, O⟩ := by with_reducible refine P.gt_int ?_; exact hq
theorem geI (hq : Q (.bool (decide (a ≥ b))) ⟨h, G, D, tk, O⟩) : wpAny (model PR w) A (compareOp .GtE (.int a t) (.int b u)) Q E ⟨h, G, D, tk, O⟩ := by with_reducible refine P.ge_int ?_; exact hq
theorem eqI (hq : Q (.bool (decide (a = b))) ⟨h, G, D, tk, O⟩) : wpAny (model PR w) A (compareOp .Eq (.int a t) (.int b u)) Q E ⟨h, G, D, tk, O⟩ := by
  have e : (a == b) = decide (a = b) := by by_cases e : a = b <;> simp [e]
  with_reducible refine P.eq_int ?_
  rw [e]; exact hq
theorem neI (hq : Q (.bool (decide (a ≠ b))) ⟨h, G, D, tk, O⟩) : wpAny (model PR w) A (compareOp .NotEq (.int a t) (.int b u)) Q E ⟨h, G, D, tk, O⟩ := by
  have e : (a != b) = decide (a ≠ b) := by by_cases e : a = b <;> simp [e]
  with_reducible refine P.ne_int ?_
  rw [e]; exact hq
theorem truB {c : Bool} {Q : Bool → Shared → Prop} (hq : Q c ⟨h, G, D, tk, O⟩) : wpAny (model PR w) A (truthy (.bool c)) Q E ⟨h, G, D, tk, O⟩ := wpAny_truthy_bool hq
theorem eqSt {x y : Str} (hq : Q (.bool (decide (x = y))) ⟨h, G, D, tk, O⟩) : wpAny (model PR w) A (compareOp .Eq (.str x t) (.str y u)) Q E ⟨h, G, D, tk, O⟩ := by
  have e : (x == y) = decide (x = y) := by by_cases e : x = y <;> simp [e]
  with_reducible refine PyProof.Rows.eq_str ?_
  rw [e]; exact hq
theorem neSt {x y : Str} (hq : Q (.bool (decide (x ≠ y))) ⟨h, G, D, tk, O⟩) : wpAny (model PR w) A (compareOp .NotEq (.str x t) (.str y u)) Q E ⟨h, G, D, tk, O⟩ := by
  have e : (x != y) = decide (x ≠ y) := by by_cases e : x = y <;> simp [e]
  with_reducible refine PyProof.Rows.ne_str ?_
  rw [e]; exact hq
end
section
variable {w : World} {A : Around} {E : Value → Shared → Prop} {s : Shared} {env : Env} {L : Addr} {g : Heap} {m mg mb : Str → Option Value} {me : ExcName → Option Value} {Q : Value → Shared → Prop} {led : Ls}
theorem nameL {x : Str} {pos : Pos} {v : Value} (F : Fr g L s.heap m) (hv : m x = some v) (h : Q v s)
    (hk : env.scope.kind = .function) (hl : env.kindOf x = some .local) (hL : env.locals = L) (hd : (x == ("__debug__" : Str)) = false) :
    wpAny (model PR w) A (eval (.Name x pos) env) Q E s := wpAny_Name (wpAny_loadName_local hk hl (by rw [hL]; exact F.ns) hv h) hd
theorem nameN {x : Str} {pos : Pos} {v : Value} {C : Addr} {m₀ : Str → Option Value} (N : Led w g L s.heap led) (hm : (C, .nsp m₀) ∈ led) (hv : m₀ x = some v) (h : Q v s)
    (hk : env.scope.kind = .function) (hl : env.kindOf x = some .local) (hL : env.locals = C) (hd : (x == ("__debug__" : Str)) = false) :
    wpAny (model PR w) A (eval (.Name x pos) env) Q E s := wpAny_Name (wpAny_loadName_local hk hl (by rw [hL]; exact N.get hm) hv h) hd
theorem nameC {x : Str} {pos : Pos} {v : Value} {c : Addr} (N : Led w g L s.heap led) (hm : (c, .cel (some v)) ∈ led) (h : Q v s)
    (hk : env.scope.kind = .function) (hl : env.kindOf x = some .cell) (hc : env.cells.lookup x = some c) (hd : (x == ("__debug__" : Str)) = false) :
    wpAny (model PR w) A (eval (.Name x pos) env) Q E s := wpAny_Name (wpAny_loadName_cell hk hl hc (N.get hm) h) hd
theorem nameK {x : Str} {pos : Pos} {v : Value} (F : Fr g L s.heap m) (X : (hd.heap_1 w.params).In g) (T : TopH mg mb me g) (e : nsIn (hd.heap_1 w.params) mainGlobals x = some (some v)) (h : Q v s)
    (hk : env.scope.kind = .function) (hx : env.kindOf x = some .globalImplicit) (hg : env.globals = mainGlobals) (hd : (x == ("__debug__" : Str)) = false) :
    wpAny (model PR w) A (eval (.Name x pos) env) Q E s :=
  Calls.Name_function_global hk hx (Calls.loadGlobal_global (env := env) (by rw [hg]; exact (topRead_of T).g.keeps F.keep) (mg_of X (topRead_of T).g e) h) hd
theorem nameBt {x : Str} {pos : Pos} {v : Value} (F : Fr g L s.heap m) (X : (hd.heap_1 w.params).In g) (T : TopH mg mb me g) (e : nsIn (hd.heap_1 w.params) mainGlobals x = some none) (hv : bootBuiltins x = some v) (hn : x ≠ "__name__") (h : Q v s)
    (hk : env.scope.kind = .function) (hx : env.kindOf x = some .globalImplicit) (hg : env.globals = mainGlobals) (hb : env.builtins = builtinsNs) (hd : (x == ("__debug__" : Str)) = false) :
    wpAny (model PR w) A (eval (.Name x pos) env) Q E s :=
  Calls.Name_function_global hk hx (Calls.loadGlobal_builtin (env := env) (by rw [hg]; exact (topRead_of T).g.keeps F.keep) (mg_none_of X (topRead_of T).g e) (by rw [hb]; exact (topRead_of T).b.keeps F.keep) (((topRead_of T).builtins x hn).trans hv) h) hd
end
theorem iteP {c : Prop} [Decidable c] {P R : Prop} (ht : c → P) (hf : ¬ c → R) : if decide c = true then P else R := by
  by_cases e : c
  · rw [decide_eq_true e]; exact ht e
  · rw [decide_eq_false e]; exact hf e
theorem iteT {P R : Prop} (h : P) : if true = true then P else R := by rw [if_pos rfl]; exact h
theorem iteF {P R : Prop} (h : R) : if false = true then P else R := by rw [if_neg Bool.false_ne_true]; exact h
/-- what stands behind a statement, sealed: the walk of one statement sees a variable alone -/
structure Seal (C : Shared → Prop) (Q Q' : Flow → Shared → Prop) : Prop where
  nx : ∀ s, C s → Q' .next s
  ot : ∀ f s, f ≠ .next → Q f s → Q' f s
theorem execsSeal {M : Model} {A : Around} {E : Value → Shared → Prop} {s : Shared} {env : Env} {st : Stmt} {rest : List Stmt} {Q : Flow → Shared → Prop}
    (h : ∀ Q', Seal (fun s' => wpAny M A (execs rest env) Q E s') Q Q' → wpAny M A (exec st env) Q' E s) : wpAny M A (execs (st :: rest) env) Q E s :=
  wpAny_execs_cons (h _ ⟨fun _ x => x, fun f _ n x => by cases f <;> first | exact absurd rfl n | exact x⟩)
theorem Seal.ret {C : Shared → Prop} {Q Q' : Flow → Shared → Prop} {v : Value} {s : Shared} (K : Seal C Q Q') (h : Q (.ret v) s) : Q' (.ret v) s := K.ot _ _ (by intro e; cases e) h
theorem Seal.next {C : Shared → Prop} {Q Q' : Flow → Shared → Prop} {s : Shared} (K : Seal C Q Q') (h : C s) : Q' .next s := K.nx _ h
/-- the frame's word: one step of the tree where nothing is asked but its shape -/
local macro_rules | `(tactic| walk_at "S") => `(tactic| first
  | (with_reducible refine execsSeal ?_; intro Qs Ks)
  | ((with_reducible refine' Seal.next ?K ?_); (case K => with_reducible assumption))
  | ((with_reducible refine' Seal.ret ?K ?_); (case K => with_reducible assumption))
  | ((with_reducible show wpAny _ _ (exec _ _) _ _ _); first
      | ((with_reducible refine' wpAny_Assign_Name ?_ ?hs); (case hs => exact rfl))
      | with_reducible refine wpAny_Return_some ?_
      | with_reducible refine wpAny_If ?_
      | ((with_reducible refine' wpAny_Expr ?_ ?hi ?hs); (case hi => exact rfl); (case hs => exact rfl))
      | ((with_reducible refine' wpAny_Assign_Subscript ?_ ?hs); (case hs => exact rfl))
      | ((with_reducible refine' plainObj_wpAny_Assign_Attribute ?_ ?hs); (case hs => exact rfl))
      | ((with_reducible refine' forS ?_ ?hs); (case hs => intro _; exact rfl))
      | ((with_reducible show wpAny _ _ (exec (Stmt.While _ _ _ _) _) _ _ _); with_reducible refine wpAny_While ?_))
  | ((with_reducible show wpAny _ _ (eval _ _) _ _ _); first
      | ((with_reducible show wpAny _ _ (eval (Expr.Name _ _) _) _ _ _); first
          | ((with_reducible refine' nameL ?F ?v ?_ ?a ?b ?L ?c); (case F => with_reducible assumption); (case b => exact rfl); (case L => exact rfl); (case v => first | exact rfl | assumption); (case a => exact rfl); (case c => decide))
          | ((with_reducible refine' nameC ?N ?m ?_ ?a ?b ?x ?c); (case b => exact rfl); (case x => exact rfl); (case N => with_reducible assumption); (case m => repeat' first | exact List.Mem.head _ | with_reducible assumption | refine List.mem_cons_of_mem _ ?_); (case a => exact rfl); (case c => decide))
          | ((with_reducible refine' nameN ?N ?m ?v ?_ ?a ?b ?L ?c); (case b => exact rfl); (case L => exact rfl); (case N => with_reducible assumption); (case m => repeat' first | exact List.Mem.head _ | with_reducible assumption | refine List.mem_cons_of_mem _ ?_); (case v => first | exact rfl | assumption); (case a => exact rfl); (case c => decide))
          | ((with_reducible refine' nameK ?F ?X ?T ?v ?_ ?a ?b ?g ?c); (case F => with_reducible assumption); (case b => exact rfl); (case g => exact rfl); (case X => with_reducible assumption); (case T => with_reducible assumption); (case v => k_is); (case a => exact rfl); (case c => decide))
          | ((with_reducible refine' nameBt ?F ?X ?T ?v ?w ?n ?_ ?a ?b ?g ?h ?c); (case F => with_reducible assumption); (case b => exact rfl); (case g => exact rfl); (case h => exact rfl); (case X => with_reducible assumption); (case T => with_reducible assumption); (case v => k_is); (case w => first | boot_by_name | boot_fast); (case n => decide); (case a => exact rfl); (case c => decide)))
      | (with_reducible refine constI ?_; intro _ _)
      | (with_reducible refine constS ?_; intro _ _)
      | with_reducible refine constB ?_
      | with_reducible refine constN ?_
      | with_reducible refine wpAny_BinOp ?_
      | ((with_reducible refine' wpAny_Compare1 ?_ ?hm); (case hm => with_unfolding_all exact rfl))
      | with_reducible refine Subscript_ ?_
      | ((with_reducible refine' MethodCall_ ?_ ?he); rotate_left; (case he => exact rfl))
      | ((with_reducible show wpAny _ _ (eval (Expr.Call _ _ [] _) _) _ _ _); (with_reducible refine' Call_ ?_ ?he); (case he => exact rfl))
      | with_reducible refine Tuple_ ?_
      | with_reducible refine List_ ?_
      | with_reducible refine UnaryOp_ ?_
      | with_reducible refine IfExp_ ?_
      | ((with_reducible refine' Attribute_any_ ?_ ?he); (case he => with_unfolding_all exact rfl)))
  | ((with_reducible show wpAny _ _ (isTrue _ _ _) _ _ _); first
      | ((with_reducible refine' wpAny_isTrue_Compare1 ?_ ?hm); (case hm => with_unfolding_all exact rfl))
      | with_reducible refine isTrue_not ?_
      | with_reducible refine isTrue_and ?_
      | with_reducible refine isTrue_or ?_
      | with_reducible refine isTrue_and_nil ?_
      | with_reducible refine isTrue_or_nil ?_
      | ((with_reducible refine' isTrue_plain ?_ ?he); (case he => exact rfl)))
  | ((with_reducible show wpAny _ _ (callWith _ _ _ _ _) _ _ _); first
      | ((with_reducible refine' callWith_K ?X ?k ?_ ?he ?hp); (case X => with_reducible assumption); (case k => k_is); (case he => exact rfl); (case hp => exact rfl))
      | ((with_reducible refine' PyProof.Rows.callWith_type1 ?_ ?he ?hp); (case he => exact rfl); (case hp => exact rfl))
      | ((with_reducible refine' PyProof.Rows.callWith_builtin1 ?_ ?he ?hp); (case he => exact rfl); (case hp => exact rfl))
      | ((with_reducible refine' callWith_method1 ?_ ?he ?hp); (case he => exact rfl); (case hp => exact rfl))
      | with_reducible refine callWith_method0 ?_)
  | ((with_reducible show wpAny _ _ (spliced _) _ _ _); first
      | ((with_reducible refine' args_cons ?_ ?he); (case he => exact rfl))
      | with_reducible refine args_nil ?_)
  | ((with_reducible show wpAny _ _ (binaryOp _ (Value.int _ _) (Value.int _ _)) _ _ _); first
      | (with_reducible refine addI ?_; intro _ _)
      | (with_reducible refine subI ?_; intro _ _))
  | ((with_reducible show wpAny _ _ (compareOp _ (Value.int _ _) (Value.int _ _)) _ _ _); first
      | with_reducible refine ltI ?_ | with_reducible refine gtI ?_ | with_reducible refine eqI ?_ | with_reducible refine neI ?_ | with_reducible refine leI ?_ | with_reducible refine geI ?_)
  | ((with_reducible show wpAny _ _ (compareOp _ (Value.str _ _) (Value.str _ _)) _ _ _); first
      | with_reducible refine eqSt ?_ | with_reducible refine neSt ?_)
  | (with_reducible refine negI ?_; intro _ _)
  | with_reducible refine truB ?_
  | with_reducible refine iteT ?_
  | with_reducible refine iteF ?_
  | with_reducible refine wpAny_execs_nil ?_)
theorem fill_ : model PySem.Challenge.rw_nn0115_01.row.prog = model PySem.Challenge.rw_nn0115_01.row.prog ∧ hd.heap_1 = hd.heap_1 := by
  k_fill
  exact ⟨rfl, rfl⟩
/-- the number that octets tell -/
def beN (bs : List UInt8) : Nat := bs.foldl (fun a c => 256 * a + c.toNat) 0
theorem beN_snoc (bs : List UInt8) (c : UInt8) : beN (bs ++ [c]) = 256 * beN bs + c.toNat := by simp [beN]
theorem take_snoc {α : Type} {l : List α} {i : Nat} {c : α} (h : l[i]? = some c) : l.take (i + 1) = l.take i ++ [c] := by
  rw [List.take_add_one, h]; rfl
theorem field_c
  {w : World} {mg mb : Str → Option Value} {me : ExcName → Option Value} {A : Around} {H : Heap} {G : Array GenState} {D : Drawn} {tk : Nat} {O : OsState} {h₀ : Heap} {Q E : Value → Shared → Prop}
  (X : (hd.heap_1 w.params).In h₀) (T : TopH mg mb me h₀) (st : h₀.StaysIn H) (hh : A.handled = none) (hdp : A.depth + 2 < recursionLimit) (hu : A.units + 9 < cLine)
  {bs : Array UInt8} {tb : Tok}
  (post : ∀ h' tk' t, H.StaysIn h' → Q (.int (beN bs.toList : Int) t) ⟨h', G, D, tk', O⟩) :
  wpAny (model PR w) A (call (.ref 97) [.bytes bs tb]) Q E ⟨H, G, D, tk, O⟩ := by
  with_reducible refine' enterP X T st [(Str.ofString "octets", .bytes bs tb)] ?ho ?cd ?room ?bd ?lo ?ce ?co ?ge ?k ?_
  case ho => k_is
  case cd => k_is
  case room => omega
  case bd => exact BindsTo.of_eq rfl
  case lo => exact rfl
  case ce => decide
  case co => exact rfl
  case ge => exact rfl
  case k => exact rfl
  clear X T
  intro L h tk X T F N
  iterate 3 walk_at "S"
  with_reducible refine' stR F N ?_ ?_ ?_ ?_
  · exact rfl
  · exact rfl
  · exact rfl
  clear F N; intro h tk F N
  try (with_reducible refine' Seal.next ?K ?_; case K => with_reducible assumption)
  iterate 3 walk_at "S"
  with_reducible refine' forBytes ?hh ?hx ?hp ?hE ?hL F N (fun i m led => (∃ t, m (Str.ofString "total") = some (.int (beN (bs.toList.take i) : Int) t)) ∧ led = []) ?hJ ?turn ?done
  case hh => exact hh
  case hx => exact rfl
  case hp => exact rfl
  case hE => first | exact PassesOwn.never | exact passE1 (Around.frames_deeper hfr) rfl
  case hL => exact rfl
  case hJ => exact ⟨⟨_, rfl⟩, rfl⟩
  case turn =>
    clear F N
    rintro I i c t m₁ led₁ oI h tk hb ⟨⟨t', hm⟩, rfl⟩ F N
    repeat walk_at "S"
    with_reducible refine' mulI (by decide) (by decide) ?_; intro _ _
    repeat walk_at "S"
    with_reducible refine' stR F N ?_ ?_ ?_ ?_
    · exact rfl
    · exact rfl
    · exact rfl
    clear F N; intro h tk F N
    try (with_reducible refine' Seal.next ?K ?_; case K => with_reducible assumption)
    repeat walk_at "S"
    refine turnNext [] F N ⟨?_, rfl⟩
    rw [take_snoc (c := c) (by simpa using hb), beN_snoc, Int.natCast_add, Int.natCast_mul]
    exact ⟨_, rfl⟩
  case done =>
    clear F N
    rintro m₁ led₁ h tk ⟨⟨t', hm⟩, rfl⟩ F N
    try dsimp only
    repeat walk_at "S"
    rw [← Array.length_toList, List.take_length]
    repeat (first | (with_reducible refine' Seal.ret ?K ?_; case K => with_reducible assumption) | with_reducible refine turnRet ?_)
    exact post _ _ _ F.keep
def bmX : List Value := [.ref 74, .type "Exception", .type "BaseException", .type "object"]
abbrev clsX : Obj := excClassObj "CrossFault" "CrossFault" 87 86 [.ref 74] bmX true [] [] false none none (some (.ref 78)) none (some (.str "CrossFault" 280)) (some (.str "CrossFault" 288)) (some (.bool true)) "Exception.__new__"
theorem clsX_in {w : World} {h : Heap} (X : (hd.heap_1 w.params).In h) : h.get? 87 = some clsX := X _ _ (by
  show List.lookup 87 (hd.heap_1 w.params) = some clsX
  unfold clsX excClassObj bmX
  k_is)
section
variable {w : World} {A : Around} {h : Heap} {G : Array GenState} {D : Drawn} {tk : Nat} {O : OsState} {M : Model} {E : Value → Shared → Prop}
theorem excNew_check {rest : List Value} {Q : Unit → Shared → Prop} (hC : h.get? 87 = some clsX) (hq : Q () ⟨h, G, D, tk, O⟩) :
    wpAny M A (checkBuiltinCall "Exception.__new__" ⟨.ref 87 :: rest, []⟩) Q E ⟨h, G, D, tk, O⟩ := by
  have Fn := PySem.F.excBase_Exception
  have hcont : (Value.ref 87 :: bmX).contains (.type "Exception") = true := by decide
  have hstar := Fn.noStar
  simp only [checkBuiltinCall, Fn.newKind, Fn.newSplit, Fn.newRow]
  repeat (first | refine wpAny_loadPart_at hC ?_ | (refine wpAny_isSubtype_exc hC ?_; rw [hcont]) | refine wpAny_staticBase_exc hC ?_ | refine wpAny_madeBy_exc hC ?_ | simp only [bne_self_eq_false, Bool.false_eq_true, if_false] | wp_step)
  exact hq
theorem excNew_run {rest : List Value} {R : Result → Shared → Prop} (hC : h.get? 87 = some clsX) (hrest : rest.length ≤ sizeLine)
    (hq : R (.ok (.ret (.ref (h.objs.size + 1)))) ⟨(h.push { cls := .type "tuple", data := .seq rest.toArray }).push
      { cls := .ref 87, data := .fields #[.ref h.objs.size, .none, .none, .none, .bool false, .none] }, G, D, tk, O⟩) :
    codeAny (model PR w) A (.builtin "Exception.__new__" ⟨.ref 87 :: rest, []⟩) R ⟨h, G, D, tk, O⟩ := by
  have Fn := PySem.F.excBase_Exception
  have hends := Fn.ends
  have hcB : (Value.ref 87 :: bmX).contains (.type "Exception") = true := by decide
  have hcA : (Value.ref 87 :: bmX).contains (.type "AttributeError") = false := by decide
  have hcN : (Value.ref 87 :: bmX).contains (.type "NameError") = false := by decide
  refine codeAny_builtinAt Fn.entry ?_
  unfold Builtin.«BaseException.__new__»
  refine PySem.wpAt_bind ?_
  show PySem.wpAt _ _ _ (stack >>= _) _ _ _
  refine PySem.wpAt_bind (PySem.wpAt_stack fun p below => PySem.wpAt_of_wpAny ?_)
  wp_walk
  refine PySem.wpAt_of_wpAny ?_
  rw [Fn.owner]
  repeat (first | with_reducible refine wpAny_madeHere_exc Fn.canon hC ?_ | with_reducible refine wpAny_loadPart_at hC ?_ | (with_reducible refine wpAny_isSubtype_exc hC ?_; first | rw [hcB] | rw [hcA] | rw [hcN]) | wp_step)
  show R _ _
  rw [Heap.size_push]
  exact hq
theorem mkExc {rest : List Value} {Q : Value → Shared → Prop} (X : (hd.heap_1 w.params).In h) (hrest : rest.length ≤ sizeLine)
    (hq : codeAny (model PR w) (A.under (.builtin "type.__call__" ⟨.ref 87 :: rest, []⟩)) (.call (.ref 64) ⟨.ref (h.objs.size + 1) :: rest, []⟩)
      (fun r s' => match r with | .ok (.ret v) => v = .none ∧ Q (.ref (h.objs.size + 1)) s' | .ok _ => False | .error e => E e s')
      ⟨(h.push { cls := .type "tuple", data := .seq rest.toArray }).push { cls := .ref 87, data := .fields #[.ref h.objs.size, .none, .none, .none, .bool false, .none] }, G, D, tk, O⟩) :
    wpAny (model PR w) A (call (.ref 87) rest) Q E ⟨h, G, D, tk, O⟩ := by
  have hC := clsX_in X
  have k : ∀ b o, h.get? b = some o → ((h.push { cls := .type "tuple", data := .seq rest.toArray }).push { cls := .ref 87, data := .fields #[.ref h.objs.size, .none, .none, .none, .bool false, .none] }).get? b = some o := fun b o e => Heap.get?_push_of_some _ (Heap.get?_push_of_some _ e)
  have hget : ((h.push { cls := .type "tuple", data := .seq rest.toArray }).push
      { cls := .ref 87, data := .fields #[.ref h.objs.size, .none, .none, .none, .bool false, .none] }).get? (h.objs.size + 1) = some
      { cls := .ref 87, data := .fields #[.ref h.objs.size, .none, .none, .none, .bool false, .none] } := by heap_get
  have call : Looks (model PR w) h (specialOf (.ref 87) "__call__") (some (.builtin "type.__call__")) := looks_specialIn X (by k_is)
  have typ : Looks (model PR w) h (isInstance (.ref 87) (.type "type")) true := looks_instIn X (by k_is)
  have init : Looks (model PR w) h (typeLookup (.ref 87) "__init__") (some (.ref 64)) := looks_findIn X (by k_is)
  have bd : ∀ self, Looks (model PR w) h (bindSpecial (.ref 64) self) (.ref 64, [self]) := fun self => bind_fn X self (by k_is)
  refine wpAny_call (codeAny_of_tree ?_)
  show wpAny _ _ (callAny (.ref 87) _) _ _ _
  refine nd_load hC ?_
  show wpAny _ _ (callAny.viaDunder (.ref 87) _) _ _ _
  unfold callAny.viaDunder
  refine wpAny_bind (call.at ?_)
  dsimp only
  rw [tc_bind]
  refine wpAny_bind (wpAny_pure (wpAny_bind (wpAny_pure ?_)))
  refine wpAny_pure (a := Fin.again (.call (.builtin "type.__call__") ⟨.ref 87 :: rest, []⟩)) (And.intro rfl ?_)
  refine codeAny_call_builtin_at (Code.quiet_builtin _ (by decide +kernel)) entry_typeCall (check_slot tc_kind tc_split typ (tc_args _ _ _) ?_)
  unfold Builtin.«type.__call__»
  repeat (first | with_reducible refine wpAny_loadPart_at hC ?_ | with_reducible refine wpAny_madeBy_exc hC ?_ | wp_step)
  refine codeAny_call_builtin_code (Code.quiet_builtin _ PySem.F.excBase_Exception.quiet) (excNew_check hC ?_)
  refine excNew_run hC hrest ?_
  have t1 : Looks (model PR w) ((h.push { cls := .type "tuple", data := .seq rest.toArray }).push { cls := .ref 87, data := .fields #[.ref h.objs.size, .none, .none, .none, .bool false, .none] }) (typeOf (.ref (h.objs.size + 1))) (.ref 87) := (Looks.ld hget).andThen .now
  have s0 : Looks (model PR w) h (isSubtype (.ref 87) (.ref 87)) true := looks_mroIn X (by k_is)
  have s1 := s0.keeps k
  have i1 := init.keeps k
  have b1 := (bd (.ref (h.objs.size + 1))).keeps k
  unfold isInstance callSpecial? specialOf
  repeat (first | with_reducible refine wpAny_call ?_ | lk)
  refine codeAny_mono hq fun r s' z => ?_
  rcases r with e | (v | _ | _ | _) <;> first | exact z | exact z.elim | skip
  obtain ⟨rfl, z⟩ := z
  exact wpAny_pure (wpAny_pure z)
end
section
variable {w : World} {A : Around} {h : Heap} {G : Array GenState} {D : Drawn} {tk : Nat} {O : OsState} {M : Model} {E : Value → Shared → Prop}
/-- self.name = v upon an object of CrossFault -/
theorem storeX {x : Addr} {name : Str} {v : Value} {mA : Str → Option Value} {ns : List Str} {Q : Unit → Shared → Prop} (X : (hd.heap_1 w.params).In h) (hn : findIn (hd.heap_1 w.params) (.ref 87) name = some none) (I : h.Inst x 87 mA)
    (hw : Within mA ns) (hsz : ns.length ≤ sizeLine)
    (hq : ∀ h' tk', h'.Inst x 87 (fun y => if y = name then some v else mA y) →
      (∀ b o, b ≠ x → (∀ o₀ dx, h.get? x = some o₀ → o₀.dict = some dx → b ≠ dx) → h.get? b = some o → h'.get? b = some o) →
      (∀ o₀, h.get? x = some o₀ → ∃ o₁, h'.get? x = some o₁ ∧ o₁.cls = o₀.cls ∧ o₁.data = o₀.data ∧ (∀ dx, o₁.dict = some dx → o₀.dict = some dx ∨ h.get? dx = none)) → Q () ⟨h', G, D, tk', O⟩) :
    wpAny (model PR w) A (setAttr (.ref x) name v) Q E ⟨h, G, D, tk, O⟩ := by
  have SF := PySem.F.store_Exception
  have L1 : Looks (model PR w) h (typeLookup (.ref 87) "__setattr__") (some (.builtin "object.__setattr__")) := looks_findIn X (by k_is)
  have L2 : Looks (model PR w) h (typeLookup (.ref 87) name) none := looks_findIn X hn
  have L3 : Looks (model PR w) h (isSubtype (.ref 87) (.type "object")) true := looks_mroIn X (by k_is)
  have hC := clsX_in X
  obtain ⟨o, hx, hc, hnc, hd⟩ := I
  have L0 : Looks (model PR w) h (typeOf (.ref x)) (.ref 87) := by rw [← hc]; exact (Looks.ld hx).andThen .now
  have f3 := SF.slot.bind (.ref x)
  unfold setAttr callSpecial? specialOf
  refine wpAny_bind (wpAny_mkText ?_)
  repeat (first | with_reducible refine wpAny_call ?_ | lk)
  refine codeAny_mono (R := fun r s' => match r with | .ok (.ret _) => Q () s' | .ok _ => False | .error e => E e s') ?_ fun r s' z => by
    rcases r with e | (v | _ | _ | _) <;> first | exact z | exact z.elim | exact wpAny_pure (wpAny_pure z)
  have sub : Looks (model PR w) h (isInstance (.ref x) (.type "object")) true := L0.andThen L3
  refine codeAny_call_builtin SF.slot.plain SF.entry (@check_slot (model PR w) _ _ ⟨h, G, D, tk + 1, O⟩ "object.__setattr__" "object" "__setattr__" (.ref x) [.str name tk, v] [] _ SF.kind SF.split sub (SF.args (.ref x) (.str name tk) v) ?_)
  have hm : Looks (model PR w) h (mroOf (.ref 87)) (.ref 87 :: bmX) := (looks_clsIn (cd := { name := "CrossFault", bases := [.ref 74], mro := .ref 87 :: bmX, ns := 86, qualname := "CrossFault" }) X (by unfold bmX; k_is)).andThen .now
  show wpAny _ _ (Builtin.«object.__setattr__» ⟨[.ref x, .str name tk, v], []⟩) _ _ _
  rw [osa_eq, refuse_eq]
  refine wpAny_bind (wpAny_bind (L0.here (wpAny_bind (hm.here ?_))))
  unfold bmX
  rw [refuseLoop_ref, refuseLoop_ref, SF.passes]
  refine wpAny_pure (wpAny_bind (L0.here (wpAny_bind (L2.here (wpAny_bind ?_)))))
  refine wpAny_pure (a := none) ?_
  show wpAny _ _ (PySem.Builtin.ObjectAttr.storeInOwnDict (.ref x) (.ref 87) (.str name tk) name v _) _ _ _
  have LC : Looks (model PR w) h (classData 87) { name := "CrossFault", bases := [.ref 74], mro := .ref 87 :: bmX, ns := 86, qualname := "CrossFault" } := looks_clsIn X (by unfold bmX; k_is)
  unfold PySem.Builtin.ObjectAttr.storeInOwnDict
  refine wpAny_bind (wpAny_pure ?_)
  rw [if_neg (by decide)]
  refine wpAny_bind ?_
  show wpAny _ _ (instanceDict x true) _ _ _
  unfold instanceDict
  refine wpAny_bind (wpAny_loadPart hx ?_)
  rw [hc]
  refine wpAny_bind (LC.here ?_)
  rw [if_neg (by decide)]
  rcases hd with ⟨hdn, hmA⟩ | ⟨dx, hdx, hne, hns⟩
  · rw [hdn]
    dsimp only
    rw [if_neg (by simp [typeHasDict])]
    split
    · rename_i c hcd
      exact absurd hcd (hnc c)
    · have hx₁ : (h.push { cls := .type "dict", data := .dict #[] }).get? x = some o := Heap.get?_push_of_some _ hx
      have hxs : x ≠ h.objs.size := Nat.ne_of_lt (Heap.lt_size hx)
      refine wpAny_bind (wpAny_alloc ?_)
      refine wpAny_bind (wpAny_update hx₁ ?_)
      refine wpAny_pure (a := some h.objs.size) ?_
      have hgd : ((h.push { cls := .type "dict", data := .dict #[] }).update x fun o => { cls := o.cls, dict := some h.objs.size, data := o.data, slots := o.slots }).get? h.objs.size
          = some { cls := .type "dict", data := .dict #[] } :=
        (Heap.get?_update_ne _ _ _ _ hxs.symm).trans (Heap.get?_push_at rfl rfl)
      have hnd : ((h.push { cls := .type "dict", data := .dict #[] }).update x fun o => { cls := o.cls, dict := some h.objs.size, data := o.data, slots := o.slots }).Ns h.objs.size (fun _ => none) :=
        ⟨_, #[], _, hgd, rfl, fun e he => absurd he (by simp), fun _ => rfl⟩
      show wpAny _ _ (PySem.Builtin.ObjectAttr.storeInDict h.objs.size (.str name tk) name v) _ _ _
      unfold PySem.Builtin.ObjectAttr.storeInDict PySem.Builtin.ObjectAttr.newKeyGuard
      refine wpAny_bind (wpAny_pure (wpAny_bind (wpAny_nsSet1 (Heap.Ns1.of_empty hnd) fun h' hn' hs => ?_)))
      obtain ⟨oD, esD, epD, hoD, hdD, hcD⟩ := hn'.count (Within.cons name v Within.nil)
      refine wpAny_bind (wpAny_lookBehind hoD (by rw [hdD]; exact pastItsLine_dict (Nat.le_trans hcD (by rw [List.length_cons, List.length_nil, sizeLine_eq]; omega))) ?_)
      refine wpAny_pure (a := Fin.done (.ret .none)) ?_
      have hx' : h'.get? x = some { cls := o.cls, dict := some h.objs.size, data := o.data, slots := o.slots } := by
        refine (hs.2 x hxs).trans (Heap.get?_update_self _ hx₁ ?_)
        have hfr := (Heap.get?_some_iff.mp hx).2
        obtain ⟨oc, od, odt, osl⟩ := o
        cases odt <;> first | rfl | exact hfr
      refine hq h' _ ⟨{ cls := o.cls, dict := some h.objs.size, data := o.data, slots := o.slots }, hx', hc, hnc, .inr ⟨h.objs.size, rfl, hxs.symm, ?_⟩⟩ (fun b ob hbx _ hb => ?_)
        (fun o₀ h₀ => by obtain rfl : o = o₀ := Option.some.inj (hx.symm.trans h₀); exact ⟨_, hx', rfl, rfl, fun dx e => .inr (by cases e; exact size_none h)⟩)
      · obtain ⟨o', es, ep, e1, e2, e3, eu, e4⟩ := hn'
        exact ⟨o', es, ep, e1, e2, e3, eu, fun y => by rw [e4 y]; by_cases hy : y = name <;> simp [hy, hmA]⟩
      · exact (hs.2 b (Nat.ne_of_lt (Heap.lt_size hb))).trans ((Heap.get?_update_ne _ _ _ _ hbx).trans (Heap.get?_push_of_some _ hb))
  · rw [hdx]
    dsimp only
    refine wpAny_pure ?_
    show wpAny _ _ (PySem.Builtin.ObjectAttr.storeInDict dx (.str name tk) name v) _ _ _
    unfold PySem.Builtin.ObjectAttr.storeInDict PySem.Builtin.ObjectAttr.newKeyGuard
    refine wpAny_bind (wpAny_pure (wpAny_bind (wpAny_nsSet1 hns fun h' hn' hs => ?_)))
    obtain ⟨oD, esD, epD, hoD, hdD, hcD⟩ := hn'.count (Within.cons name v hw)
    refine wpAny_bind (wpAny_lookBehind hoD (by rw [hdD]; exact pastItsLine_dict (Nat.le_trans hcD (by rw [List.length_cons]; omega))) ?_)
    refine wpAny_pure (a := Fin.done (.ret .none)) ?_
    refine hq h' _ ⟨o, (hs.2 x hne.symm).trans hx, hc, hnc, .inr ⟨dx, hdx, hne, hn'⟩⟩ (fun b ob _ hbd hb => ?_)
      (fun o₀ h₀ => ⟨o₀, (hs.2 x hne.symm).trans h₀, rfl, rfl, fun _ e => .inl e⟩)
    exact (hs.2 b (hbd o dx hx hdx)).trans hb
end
section
variable {w : World} {A : Around} {h : Heap} {G : Array GenState} {D : Drawn} {tk : Nat} {O : OsState} {M : Model} {E : Value → Shared → Prop}
theorem excInit_check {e : Addr} {oe : Obj} {rest : List Value} {Q : Unit → Shared → Prop}
    (hC : h.get? 87 = some clsX) (he : h.get? e = some oe) (hcls : oe.cls = .ref 87) (hq : Q () ⟨h, G, D, tk, O⟩) :
    wpAny M A (checkBuiltinCall "Exception.__init__" ⟨.ref e :: rest, []⟩) Q E ⟨h, G, D, tk, O⟩ := by
  have F := PySem.F.excBase_Exception
  have hcB : (Value.ref 87 :: bmX).contains (.type "Exception") = true := by decide
  have hshort := F.noStar
  simp only [checkBuiltinCall, F.initKind, F.initSplit, F.initRow]
  repeat (first | (with_reducible refine wpAny_loadPart_at he ?_; rw [hcls]) | with_reducible refine wpAny_loadPart_at hC ?_ | (with_reducible refine wpAny_isSubtype_exc hC ?_; rw [hcB]) | wp_step)
  refine wpAny_onRaise ?_
  rw [show ∀ (a b : String) (n : Nat), Bind.check ⟨.positional, "*", "Exception", .self, [⟨"args", .varPos, false⟩]⟩ a b n (List.map (fun x => x.fst) ({ pos := Value.ref e :: rest } : Args).kw) = pure () from
    fun a b n => check_star_args _ _ _ _ _ _]
  exact wpAny_pure hq
theorem excInit {e : Addr} {oe : Obj} {vs : Array Value} {x : Value} {Q : Value → Shared → Prop} (X : (hd.heap_1 w.params).In h) (he : h.get? e = some oe) (hcls : oe.cls = .ref 87) (hd : oe.data = .fields vs) {t0 : Addr} (hv0 : vs[0]? = some (.ref t0))
    (hq : ∀ h' t, h'.get? e = some { oe with data := .fields (vs.setIfInBounds 0 (.ref t)) } → (∀ b ob, b ≠ e → h.get? b = some ob → h'.get? b = some ob) → Q .none ⟨h', G, D, tk, O⟩) :
    wpAny (model PR w) A (call (.builtin "Exception.__init__") [.ref e, x]) Q E ⟨h, G, D, tk, O⟩ := by
  have F := PySem.F.excBase_Exception
  have hv : 0 < vs.size := (Array.getElem?_eq_some_iff.mp hv0).1
  refine wpAny_call (codeAny_call_builtin F.init.plain F.initEntry (excInit_check (clsX_in X) he hcls ?_))
  wp_walk
  rw [hd]
  wp_walk
  rw [hv0]
  wp_walk
  have he₁ : (h.push { cls := .type "tuple", data := .seq [x].toArray }).get? e = some oe := Heap.get?_push_of_some _ he
  rw [hd]
  dsimp only
  rw [if_pos hv]
  refine wpAny_update he₁ ?_
  refine wpAny_mono (Q := fun _ s' => s' = ⟨(h.push { cls := .type "tuple", data := .seq [x].toArray }).update e (Obj.mapFields fun x => x.setIfInBounds 0 (Value.ref h.objs.size)), G, D, tk, O⟩) (E := fun _ _ => False) ?_ (fun _ s' z => ?_) fun _ _ z => z.elim
  · wp_walk
    exact rfl
  subst z
  refine wpAny_pure (a := Fin.done (.ret .none)) ?_
  show Q _ _
  have hd₃ := Obj.data_mapFields hd (·.setIfInBounds 0 (Value.ref h.objs.size))
  have e3 : Obj.mapFields (fun x => x.setIfInBounds 0 (Value.ref h.objs.size)) oe = { oe with data := .fields (vs.setIfInBounds 0 (.ref h.objs.size)) } := by
    obtain ⟨oc, od, odt, osl⟩ := oe
    dsimp only at hd
    subst hd
    rfl
  refine hq _ h.objs.size ?_ fun b ob hb hbo => ?_
  · rw [← e3]
    exact Heap.get?_update_self _ he₁ (Obj.isFreed_of_fields hd₃)
  · exact (Heap.get?_update_other _ _ (Ne.symm hb)).trans (Heap.get?_push_of_some _ hbo)
theorem loadX {x : Addr} {name : Str} {v : Value} {expr : Bool} {mA : Str → Option Value} {Q : Value → Shared → Prop} (X : (hd.heap_1 w.params).In h) (hn : findIn (hd.heap_1 w.params) (.ref 87) name = some none) (I : h.Inst x 87 mA)
    (hv : mA name = some v) (hh : handedOut v = pure v) (hq : ∀ tk', Q v ⟨h, G, D, tk', O⟩) :
    wpAny (model PR w) A (getAttr (.ref x) name expr) Q E ⟨h, G, D, tk, O⟩ := by
  have L1 : Looks (model PR w) h (typeLookup (.ref 87) "__getattribute__") (some (.builtin "BaseException.__getattribute__")) := looks_findIn X (by k_is)
  have L4 : Looks (model PR w) h (typeLookup (.ref 87) "__getattr__") none := looks_findIn X (by k_is)
  have L2 : Looks (model PR w) h (typeLookup (.ref 87) name) none := looks_findIn X hn
  have L3 : Looks (model PR w) h (isSubtype (.ref 87) (.type "BaseException")) true := looks_mroIn X (by k_is)
  obtain ⟨o, hx, hc, hnc, hd⟩ := I
  have L0 : Looks (model PR w) h (typeOf (.ref x)) (.ref 87) := by rw [← hc]; exact (Looks.ld hx).andThen .now
  rcases hd with ⟨_, hmA⟩ | ⟨dx, hdx, hne, hns⟩
  · rw [hmA name] at hv; cases hv
  unfold getAttr
  refine wpAny_bind (wpAny_mkText ?_)
  unfold getAttrBy
  refine wpAny_holding (wpAny_bind (L0.here (wpAny_bind (L1.here ?_))))
  dsimp only
  rw [if_neg (by decide)]
  unfold getAttrByItsOwn hookBefore
  repeat lk
  show wpAny _ _ (Sem.attempt _) _ _ _
  refine wpAny_attempt (wpAny_holding ?_)
  unfold callGetattribute
  rw [show (expr && onTheHeap (Value.builtin "BaseException.__getattribute__")) = false by cases expr <;> rfl]
  rw [if_neg Bool.false_ne_true]
  repeat (first | with_reducible refine wpAny_call ?_ | lk)
  refine codeAny_mono (R := fun r s' => match r with | .ok (.ret u) => u = v ∧ ∃ tk', s' = ⟨h, G, D, tk', O⟩ | _ => False) ?_ fun r s' z => by
    rcases r with e | (u | _ | _ | _) <;> first | exact z.elim | skip
    obtain ⟨rfl, tk', rfl⟩ := z
    show wpAny _ _ (handedOut _) _ _ _
    rw [hh]
    exact wpAny_pure (hq _)
  have sub : Looks (model PR w) h (isInstance (.ref x) (.type "BaseException")) true := L0.andThen L3
  refine codeAny_call_builtin (by decide +kernel) PySem.F.entry_bexc_ga (@check_slot (model PR w) _ _ ⟨h, G, D, tk + 1, O⟩ "BaseException.__getattribute__" "BaseException" "__getattribute__" (.ref x) [.str name tk] [] _ (by decide +kernel) (by decide +kernel) sub (PySem.F.args_bexc_ga (.ref x) (.str name tk)) ?_)
  unfold Builtin.«object.__getattribute__»
  repeat lk
  have LC : Looks (model PR w) h (classData 87) { name := "CrossFault", bases := [.ref 74], mro := .ref 87 :: bmX, ns := 86, qualname := "CrossFault" } := looks_clsIn X (by unfold bmX; k_is)
  split
  · rename_i c hcd
    exact absurd hcd (hnc c)
  unfold instanceDict
  refine wpAny_bind (wpAny_loadPart hx ?_)
  rw [hc]
  refine wpAny_bind (LC.here ?_)
  rw [if_neg (by decide)]
  rw [hdx]
  refine wpAny_pure ?_
  show wpAny _ _ (nsGet dx name) _ _ _
  refine wpAny_nsGet hns.ns ?_
  rw [hv]
  repeat lk
  exact ⟨rfl, _, rfl⟩
end
/-- the fault at e, its word at, over the base g -/
structure IsX (g h : Heap) (e : Addr) (mA : Str → Option Value) (vs : Array Value) : Prop where
  I : h.Inst e 87 mA
  o : ∃ oe, h.get? e = some oe ∧ oe.cls = .ref 87 ∧ oe.data = .fields vs ∧ ∀ dx, oe.dict = some dx → g.get? dx = none
theorem Inst.at {h h' : Heap} {x C : Addr} {mA : Str → Option Value} (I : h.Inst x C mA) (hx : ∀ o, h.get? x = some o → h'.get? x = some o) (hd : ∀ o dx od, h.get? x = some o → o.dict = some dx → h.get? dx = some od → h'.get? dx = some od) : h'.Inst x C mA := by
  obtain ⟨o, ho, hc, hn, hr⟩ := I
  refine ⟨o, hx _ ho, hc, hn, hr.imp id ?_⟩
  rintro ⟨d, e, ne, o', es, ep, e1, r⟩
  exact ⟨d, e, ne, o', es, ep, hd _ _ _ ho e e1, r⟩
section
variable {w : World} {mg mb : Str → Option Value} {me : ExcName → Option Value} {A : Around} {h : Heap} {G : Array GenState} {D : Drawn} {tk : Nat} {O : OsState} {M : Model} {E : Value → Shared → Prop}
theorem enterC {name qual : Str} {params : Arguments} {body : List Stmt} {scope : Scope} {dV kV doc pm cdv ct oc : Value} {an od : Option Addr} {osl : Array (Option Value)} {f : Addr} {args : List Value} {R : Result → Shared → Prop}
  (X : (hd.heap_1 w.params).In h) (T : TopH mg mb me h) (binds : List (Str × Value))
  (ho : (hd.heap_1 w.params).lookup f = some ⟨oc, od, .func (fnOf name qual params body scope dV kV doc pm an cdv ct), osl⟩) (hcd : codeIn (hd.heap_1 w.params) cdv qual = true)
  (hroom : A.depth < recursionLimit)
  (hbind : BindsTo ⟨h, G, D, tk, O⟩ (fnOf name qual params body scope dV kV doc pm an cdv ct) ⟨args, []⟩ binds)
  (hloc : (binds.all fun x => decide (scope.names.lookup x.1 = some .local)) = true) (hcell : ∀ x ∈ scope.names, x.2 ≠ .cell)
  (hco : scope.isCoroutine = false) (hgen : scope.isGenerator = false) (hk : scope.kind = .function)
  (k : ∀ L h₁ tk, h₁.Ns L (fun x => binds.reverse.lookup x) → h.StaysIn h₁ → h.objs.size ≤ L →
      wpAny (model PR w) (A.deeper (envOf qual scope L f cdv)) (execs body (envOf qual scope L f cdv))
        (fun fl s' => R (.ok (.ret (match fl with | .ret v => v | _ => .none))) s') (fun _ _ => False) ⟨h₁, G, D, tk, O⟩) :
  codeAny (model PR w) A (.call (.ref f) ⟨args, []⟩) R ⟨h, G, D, tk, O⟩ := by
  refine codeAny_call_def (fd := fnOf name qual params body scope dV kV doc pm an cdv ct) (body := body) (binds := binds) hroom (X _ _ ho) rfl T.nolimit (codeRec_of X hcd) rfl hbind hcell (locs hloc) (fun h₁ hns hk₁ => ?_) hco hgen hk
  exact wpAny_mono (k h.objs.size h₁ _ hns hk₁ (Nat.le_refl _)) (fun fl s' hl => hl) fun _ _ y => y.elim
theorem initX {g : Heap} {e : Addr} {t0 : Addr} {msg : Str} {tm ta : Tok} {n : Int} {args : List Value} {R : Result → Shared → Prop} (X : (hd.heap_1 w.params).In g) (T : TopH mg mb me g) (st : g.StaysIn h) (hsz : g.objs.size ≤ h.objs.size) (hge : g.get? e = none) (hroom : A.depth < recursionLimit)
    (he : h.get? e = some { cls := .ref 87, data := .fields #[.ref t0, .none, .none, .none, .bool false, .none] })
    (hargs : args = [.ref e, .str msg tm, .int n ta] ∨ (args = [.ref e, .str msg tm] ∧ n = -1 ∧ ta = 253))
    (hq : ∀ h' tk' mA vs, h'.Inst e 87 mA → mA (Str.ofString "at") = some (.int n ta) → (∀ b o, b ≠ e → h.get? b = some o → h'.get? b = some o) → (∃ oe, h'.get? e = some oe ∧ oe.cls = .ref 87 ∧ oe.data = .fields vs ∧ ∀ dx, oe.dict = some dx → h.get? dx = none) →
      vs[1]? = some .none → R (.ok (.ret .none)) ⟨h', G, D, tk', O⟩) :
    codeAny (model PR w) A (.call (.ref 64) ⟨args, []⟩) R ⟨h, G, D, tk, O⟩ := by
  have X' := X.keeps st
  have T' := T.keeps st
  with_reducible refine' enterC X' T' [(Str.ofString "self", .ref e), (Str.ofString "what", .str msg tm), (Str.ofString "at", .int n ta)] ?ho ?cd ?room ?bd ?lo ?ce ?co ?ge ?k ?_
  case ho => k_is
  case cd => k_is
  case room => exact hroom
  case bd =>
    have h57 : h.get? 57 = some { cls := .type "tuple", data := .seq #[.int (-1) 253] } := X' _ _ (by k_is)
    rcases hargs with rfl | ⟨rfl, rfl, rfl⟩
    · exact BindsTo.of_defaults (T := 57) rfl h57 rfl rfl rfl
    · exact BindsTo.of_defaults (T := 57) rfl h57 rfl rfl rfl
  case lo => exact rfl
  case ce => decide
  case co => exact rfl
  case ge => exact rfl
  case k => exact rfl
  intro L h₁ tk₁ hns st₁ hL
  have F : Fr g L h₁ _ := ⟨hns, fun b o q => st₁ _ _ (st _ _ q), Nat.le_trans hsz hL⟩
  have he₁ := st₁ _ _ he
  clear X' T'
  repeat walk_at "S"
  with_reducible refine' method_type F X ?m ?s ?e ?h ?_
  case m => kernel_rfl
  case s => decide +kernel
  case e => k_is
  case h => k_handed
  repeat walk_at "S"
  with_reducible refine' excInit (X.keeps F.keep) he₁ ?c ?d ?z ?_
  case c => exact rfl
  case d => exact rfl
  case z => exact rfl
  intro h₂ t₂ he₂ hk₂
  have ne : L ≠ e := fun q => by subst q; obtain ⟨o, es, ep, ho, hd, _⟩ := hns; rw [he₁] at ho; cases ho; cases hd
  have F₂ : Fr g L h₂ _ := ⟨F.ns.at' fun o q => hk₂ _ _ ne q, fun b o q => hk₂ b o (fun z => by rw [z, hge] at q; cases q) (F.keep b o q), F.above⟩
  have I₂ : h₂.Inst e 87 (fun _ => none) := ⟨_, he₂, rfl, (fun c q => by cases q), .inl ⟨rfl, fun _ => rfl⟩⟩
  dsimp only
  clear F
  repeat walk_at "S"
  refine storeX (X.keeps F₂.keep) (by k_is) I₂ Within.nil (by decide) ?_
  intro h₃ tk₃ I₃ hk₃ ho₃
  obtain ⟨o₃, he₃, hc₃, hd₃, hx₃⟩ := ho₃ _ he₂
  have o2 : ∀ (o₀ : Obj) (dx : Addr), h₂.get? e = some o₀ → o₀.dict = some dx → False := fun o₀ dx q r => by rw [he₂] at q; cases q; cases r
  have k₃ : ∀ b o, b ≠ e → h₁.get? b = some o → h₃.get? b = some o := fun b o hb q => hk₃ b o hb (fun o₀ dx r1 r2 => (o2 o₀ dx r1 r2).elim) (hk₂ b o hb q)
  have F₃ : Fr g L h₃ _ := ⟨hns.at' fun o q => k₃ _ _ ne q, fun b o q => k₃ b o (fun z => by rw [z, hge] at q; cases q) (st₁ _ _ (st _ _ q)), Nat.le_trans hsz hL⟩
  clear F₂
  repeat walk_at "S"
  refine storeX (X.keeps F₃.keep) (by k_is) I₃ (Within.cons _ _ Within.nil) (by decide) ?_
  intro h₄ tk₄ I₄ hk₄ ho₄
  obtain ⟨o₄, he₄, hc₄, hd₄, hx₄⟩ := ho₄ _ he₃
  have n3 : ∀ dx, o₃.dict = some dx → h₁.get? dx = none := fun dx q => by
    rcases hx₃ dx q with r | r
    · cases r
    · cases z : h₁.get? dx with
      | none => rfl
      | some o =>
        have ne' : dx ≠ e := fun y => by rw [y, he₂] at r; cases r
        rw [hk₂ _ _ ne' z] at r; cases r
  have k₄ : ∀ b o, b ≠ e → h₁.get? b = some o → h₄.get? b = some o := fun b o hb q => hk₄ b o hb (fun o₀ dx r1 r2 z => by
    rw [he₃] at r1; cases r1
    rw [z, n3 dx r2] at q; cases q) (k₃ b o hb q)
  have n4 : ∀ dx, o₄.dict = some dx → h.get? dx = none := fun dx q => by
    have : h₁.get? dx = none := by
      rcases hx₄ dx q with r | r
      · exact n3 dx r
      · cases z : h₁.get? dx with
        | none => rfl
        | some o =>
          have ne' : dx ≠ e := fun y => by rw [y, he₃] at r; cases r
          rw [k₃ _ _ ne' z] at r; cases r
    cases z : h.get? dx with
    | none => rfl
    | some o => rw [st₁ _ _ z] at this; cases this
  repeat walk_at "S"
  refine hq h₄ _ _ _ I₄ rfl (fun b o hb q => k₄ b o hb (st₁ _ _ q)) ⟨o₄, he₄, hc₄.trans hc₃, hd₄.trans hd₃, n4⟩ rfl
end
section
variable {w : World} {mg mb : Str → Option Value} {me : ExcName → Option Value} {A : Around} {h : Heap} {G : Array GenState} {D : Drawn} {tk : Nat} {O : OsState} {M : Model} {E : Value → Shared → Prop}
/-- a fault that stands new in h', its fields vs, its word mA; nothing of h is turned -/
structure Fault (h h' : Heap) (e : Addr) (n : Int) (vs : Array Value) : Prop where
  keep : h.StaysIn h'
  new : h.get? e = none
  word : ∃ mA ta, h'.Inst e 87 mA ∧ mA (Str.ofString "at") = some (.int n ta)
  o : ∃ oe, h'.get? e = some oe ∧ oe.cls = .ref 87 ∧ oe.data = .fields vs ∧ ∀ dx, oe.dict = some dx → h.get? dx = none
theorem mkFault {g : Heap} {args : List Value} {msg : Str} {tm ta : Tok} {n : Int} {Q : Value → Shared → Prop} (X : (hd.heap_1 w.params).In g) (T : TopH mg mb me g) (st : g.StaysIn h) (hroom : A.depth + 1 < recursionLimit)
    (hargs : args = [.str msg tm, .int n ta] ∨ (args = [.str msg tm] ∧ n = -1 ∧ ta = 253))
    (hq : ∀ e h' tk' vs, Fault h h' e n vs → vs[1]? = some .none → Q (.ref e) ⟨h', G, D, tk', O⟩) :
    wpAny (model PR w) A (call (.ref 87) args) Q E ⟨h, G, D, tk, O⟩ := by
  have k : h.StaysIn ((h.push { cls := .type "tuple", data := .seq args.toArray }).push { cls := .ref 87, data := .fields #[.ref h.objs.size, .none, .none, .none, .bool false, .none] }) := fun b o e => Heap.get?_push_of_some _ (Heap.get?_push_of_some _ e)
  have hget : ((h.push { cls := .type "tuple", data := .seq args.toArray }).push
      { cls := .ref 87, data := .fields #[.ref h.objs.size, .none, .none, .none, .bool false, .none] }).get? (h.objs.size + 1) = some
      { cls := .ref 87, data := .fields #[.ref h.objs.size, .none, .none, .none, .bool false, .none] } := by heap_get
  have hn : h.get? (h.objs.size + 1) = none := Heap.get?_none_of_le (Nat.le_succ _)
  have hz : args.length ≤ sizeLine := by rcases hargs with rfl | ⟨rfl, _, _⟩ <;> (rw [sizeLine_eq]; simp)
  refine mkExc (X.keeps st) hz ?_
  refine initX (msg := msg) (tm := tm) (ta := ta) (n := n) (X.keeps st) (T.keeps st) k (by rw [Heap.size_push, Heap.size_push]; omega) hn (by show A.depth + 1 < _; exact hroom) hget ?_ ?_
  · rcases hargs with rfl | ⟨rfl, h1, h2⟩
    · exact .inl rfl
    · exact .inr ⟨rfl, h1, h2⟩
  intro h' tk' mA vs I hat hk ho h1
  refine ⟨rfl, hq _ _ _ vs ⟨fun b o q => hk b o (fun z => by rw [z, hn] at q; cases q) (k b o q), hn, ⟨mA, ta, I, hat⟩, ?_⟩ h1⟩
  obtain ⟨oe, h1, h2, h3, h4⟩ := ho
  refine ⟨oe, h1, h2, h3, fun dx q => ?_⟩
  cases z : h.get? dx with
  | none => rfl
  | some o => have := h4 dx q; rw [k _ _ z] at this; cases this
theorem raiseX {env : Env} {s : Shared} {x : Sem Value} {Q : Flow → Shared → Prop} (hh : A.handled = none)
    (hx : wpAny (model PR w) A x (fun v s₁ => ∃ e oe vs, v = .ref e ∧ (hd.heap_1 w.params).In s₁.heap ∧ s₁.heap.get? e = some oe ∧ oe.cls = .ref 87 ∧ oe.data = .fields vs ∧ vs[1]? = some .none ∧ E (.ref e) s₁) E s) :
    wpAny (model PR w) A (raiseStmt env (some x) none) Q E s := by
  unfold raiseStmt
  refine wpAny_bind (wpAny_mono hx (fun v s₁ h₁ => ?_) fun _ _ x => x)
  obtain ⟨e, oe, vs, rfl, X, he, hc, hd, h1, hE⟩ := h₁
  obtain ⟨hp, g, d, tk, os⟩ := s₁
  dsimp only at X he
  obtain ⟨oc, od, odt, osl⟩ := oe
  dsimp only at hc hd
  subst hc hd
  have L0 : Looks (model PR w) hp (typeOf (.ref e)) (.ref 87) := (Looks.ld he).andThen .now
  have L1 : Looks (model PR w) hp (isSubtype (.ref 87) (.type "type")) false := looks_mroIn X (by k_is)
  have L2 : Looks (model PR w) hp (isSubtype (.ref 87) (.type "BaseException")) true := looks_mroIn X (by k_is)
  have L3 : Looks (model PR w) hp (typeOf (.ref 87)) (.type "type") := looks_typeIn X (by k_is)
  have L4 : Looks (model PR w) hp (field (.ref e) 1) .none := looks_field he 1 h1
  dsimp only
  unfold excFromValue isExcClass isType isInstance raisedInstance setFlight
  repeat lk
  refine wpAny_handled ?_
  rw [hh]
  exact wpAny_throw hE
/-- raise CrossFault(..): the fault's arguments by the way -/
theorem raiseFault {env : Env} {s : Shared} {np cpos pos : Pos} {a : Expr} {rest : List Expr} {Q : Flow → Shared → Prop} (hh : A.handled = none)
    (hs : starEach (a :: rest) env = (false, eval a env) :: starEach rest env) (hp : (backTo cpos (starEach rest env)).any (·.1) = false) {h₀ : Heap} (X : (hd.heap_1 w.params).In h₀)
    (hx : wpAny (model PR w) A (eval (.Name (Str.ofString "CrossFault") np) env) (fun f s₁ => f = .ref 87 ∧ wpAny (model PR w) A (spliced (backTo cpos (starEach (a :: rest) env)))
      (fun vs s₂ => (hd.heap_1 w.params).In s₂.heap ∧ wpAny (model PR w) A (call (.ref 87) vs) (fun v s₃ => ∃ e oe vs, v = .ref e ∧ (hd.heap_1 w.params).In s₃.heap ∧ s₃.heap.get? e = some oe ∧ oe.cls = .ref 87 ∧ oe.data = .fields vs ∧ vs[1]? = some .none ∧ E (.ref e) s₃) E s₂) E s₁) E s) :
    wpAny (model PR w) A (exec (.Raise (some (.Call (.Name (Str.ofString "CrossFault") np) (a :: rest) [] cpos)) none pos) env) Q E s := by
  rw [arm_exec_Raise]
  simp only [evalOpt, Option.map]
  refine wpAny_bind (wpAny_standAt (raiseX hh (wpAny_bind (wpAny_mono (wpAny_Call_ofName (wpAny_mono hx (fun f s₁ h₁ => ?_) fun _ _ x => x)) (fun v s₃ h₃ => wpAny_bind (wpAny_standAt (wpAny_pure h₃))) fun _ _ x => x))))
  obtain ⟨rfl, h₁⟩ := h₁
  exact callWith_K (first := []) X (by k_is) h₁ hs hp
end
def frs (l : List Env) : List Addr := l.filterMap (·.frame)
/-- what the fault's fields say of its way -/
def Tb (B h : Heap) (e : Addr) (vs : Array Value) : Option Value → Prop
  | none => vs[1]? = some .none
  | some fl => ∃ T oT ts, vs[1]? = some (.ref T) ∧ B.get? T = none ∧ T ≠ e ∧ h.get? T = some oT ∧ oT.data = .fields ts ∧ ts[3]? = some fl
/-- a fault under way over the base B, the frames l above it -/
structure Fly (B h : Heap) (l : List Env) (e : Addr) (n : Int) (st : Option Value) : Prop where
  stay : B.StaysIn h
  new : B.get? e = none
  fr : h.FunFrames B l
  exc : ∃ oe vs mA ta d, h.get? e = some oe ∧ oe.cls = .ref 87 ∧ oe.data = .fields vs ∧ 1 < vs.size ∧ oe.dict = some d ∧ d ≠ e ∧ B.Ns1 d mA ∧ mA (Str.ofString "at") = some (.int n ta) ∧ Tb B h e vs st
def Slid (l : List Env) (h h' : Heap) : Prop := ∀ L ∈ frs l, ∀ o, h.get? L = some o → ∃ sl, h'.get? L = some { o with slots := sl }
theorem Slid.refl (l : List Env) (h : Heap) : Slid l h h := fun _ _ o e => ⟨o.slots, e⟩
theorem Slid.trans {l : List Env} {a b c : Heap} (x : Slid l a b) (y : Slid l b c) : Slid l a c := fun L hL o e => by
  obtain ⟨sl, e1⟩ := x L hL o e
  obtain ⟨sl', e2⟩ := y L hL _ e1
  exact ⟨sl', e2⟩
theorem Slid.mono {l l' : List Env} {a b : Heap} (x : Slid l a b) (k : ∀ L ∈ frs l', L ∈ frs l) : Slid l' a b := fun L hL => x L (k L hL)
theorem Slid.of_keeps {l : List Env} {a b : Heap} (x : a.StaysIn b) : Slid l a b := fun _ _ o e => ⟨o.slots, x _ _ e⟩
section
variable {A : Around} {h : Heap} {G : Array GenState} {D : Drawn} {tk : Nat} {O : OsState} {M : Model} {E : Value → Shared → Prop}
theorem entryX {B : Heap} {env : Env} {outer : List Env} {L e : Addr} {oe : Obj} {vs : Array Value} {head : Value} {hadNext : Bool} {n : Int} {mA : Str → Option Value} {ta : Tok} {d : Addr} {Q : Unit → Shared → Prop}
    (hfr : A.frames = some (env :: outer)) (hf : env.frame = some L) (hl : h.FunFrames B (env :: outer)) (hkb : B.StaysIn h) (hen : B.get? e = none)
    (he : h.get? e = some oe) (hc : oe.cls = .ref 87) (hd : oe.data = .fields vs) (hsz : 1 < vs.size) (hdi : oe.dict = some d) (hde : d ≠ e) (hns : B.Ns1 d mA) (hat : mA (Str.ofString "at") = some (.int n ta))
    (hq : ∀ h', Fly B h' (env :: outer) e n (some (rawInt L)) → Slid (env :: outer) h h' → Q () ⟨h', G, D, tk, O⟩) :
    wpAny M A (do let a ← frameOf env; let pl ← entryPlaceOf L hadNext; let b ← EntryCells.newEntry head a .none (rawInt L) .none pl; setField (.ref e) 1 b) Q E ⟨h, G, D, tk, O⟩ := by
  have hene : e ∉ frs (env :: outer) := fun hm => by
    obtain ⟨_, o, ho, hnf⟩ := hl.mem hm
    rw [he] at ho; injection ho with ho; subst ho; exact hnf vs hd
  refine wpAny_bind (wpAny_frameOf_fun (s := ⟨h, G, D, tk, O⟩) hfr hl hf fun h₁ hs₁ => ?_)
  refine wpAny_bind (wpAny_entryPlaceOf fun pl hpl => ?_)
  unfold EntryCells.newEntry newFields
  refine wpAny_bind (wpAny_newObj_type ?_ (hpl.sizeOk5 _ _ _ _ _))
  have he₁ : h₁.get? e = some oe := (hs₁.2.1 e hene).trans he
  have kb₁ : B.StaysIn h₁ := fun b o hbo => (hs₁.2.1 b fun hm => by rw [(hl.mem hm).1] at hbo; cases hbo).trans (hkb b o hbo)
  generalize hob : ({ cls := .type "traceback", dict := none, data := .fields ([head, .ref L, .none, rawInt L, .none] ++ (if pl.isEmpty then List.replicate 6 Value.none else pl)).toArray } : Obj) = ob
  have hbd : ob.data = .fields ([head, .ref L, .none, rawInt L, .none] ++ (if pl.isEmpty then List.replicate 6 Value.none else pl)).toArray := by rw [← hob]
  have he₂ := Heap.get?_push_of_some (h := h₁) ob he₁
  refine wpAny_setField he₂ hd hsz ?_
  have hTe : h₁.objs.size ≠ e := Nat.ne_of_gt (Heap.lt_size he₁)
  have hd₃ := Obj.data_mapFields hd (·.setIfInBounds 1 (Value.ref h₁.objs.size))
  have he₃ := Heap.get?_update_self (Obj.mapFields (·.setIfInBounds 1 (Value.ref h₁.objs.size))) he₂ (Obj.isFreed_of_fields hd₃)
  have hT₃ := (Heap.get?_update_other (h₁.push ob) (Obj.mapFields (·.setIfInBounds 1 (Value.ref h₁.objs.size))) (Ne.symm hTe)).trans (Heap.get?_push_size h₁ (Obj.isFreed_of_fields hbd))
  have keep : ∀ b o, b ≠ e → h₁.get? b = some o → ((h₁.push ob).update e (Obj.mapFields (·.setIfInBounds 1 (Value.ref h₁.objs.size)))).get? b = some o := fun b o hbe hb => by
    rw [Heap.get?_update_other _ _ (Ne.symm hbe)]
    exact Heap.get?_push_of_some _ hb
  have e3 : (Obj.mapFields (·.setIfInBounds 1 (Value.ref h₁.objs.size)) oe).dict = some d := by
    obtain ⟨oc, od, odt, osl⟩ := oe
    dsimp only at hd hdi
    subst hd hdi
    rfl
  refine hq _ ⟨fun b o hbo => keep b o (fun q => by rw [q, hen] at hbo; cases hbo) (kb₁ b o hbo), hen, hl.of_keeps fun b o hb hnf => ?_,
    ⟨_, _, mA, ta, d, he₃, (Obj.cls_mapFields _ _).trans hc, hd₃, by simpa using hsz, e3, hde, hns, hat, ⟨h₁.objs.size, ob, _, by simp [hsz], kb₁.fresh, hTe, hT₃, hbd, by simp⟩⟩⟩ fun b hb o hbo => ?_
  · obtain ⟨sl, hs⟩ := hs₁.2.2 b o hb
    exact ⟨_, keep b _ (fun q => by rw [q, he] at hb; injection hb with hb; subst hb; exact hnf vs hd) hs, rfl⟩
  · obtain ⟨sl, hs⟩ := hs₁.2.2 b o hbo
    exact ⟨sl, keep b _ (fun q => hene (q ▸ hb)) hs⟩
theorem noteX {B : Heap} {env : Env} {outer : List Env} {L e : Addr} {n : Int} {st : Option Value} {Q : Unit → Shared → Prop}
    (F : Fly B h (env :: outer) e n st) (hfr : A.frames = some (env :: outer)) (hf : env.frame = some L)
    (hq : ∀ h', Fly B h' (env :: outer) e n (some (rawInt L)) → Slid (env :: outer) h h' → Q () ⟨h', G, D, tk, O⟩) :
    wpAny M A (noteFrame (.ref e) env) Q E ⟨h, G, D, tk, O⟩ := by
  obtain ⟨stay, new, fr, oe, vs, mA, ta, d, he, hc, hd, hsz, hdi, hde, hns, hat, tb⟩ := F
  unfold noteFrame
  simp only [hf]
  cases st with
  | none =>
    refine wpAny_bind (wpAny_field he hd tb ?_)
    rw [if_neg (by decide)]
    exact entryX hfr hf fr stay new he hc hd hsz hdi hde hns hat hq
  | some fl =>
    obtain ⟨T, oT, ts, h1, hnT, hTe, hT, hdT, h3⟩ := id tb
    refine wpAny_bind (wpAny_field he hd h1 ?_)
    rw [if_pos (show (Value.ref T != Value.none) = true from by simp)]
    refine wpAny_bind (wpAny_field hT hdT h3 ?_)
    by_cases hfl : fl = rawInt L
    · rw [if_pos (by rw [hfl]; simp)]
      refine wpAny_pure ?_
      exact hq h ⟨stay, new, fr, oe, vs, mA, ta, d, he, hc, hd, hsz, hdi, hde, hns, hat, hfl ▸ tb⟩ (.refl _ _)
    · rw [if_neg (by simpa using hfl)]
      refine wpAny_bind (wpAny_setField hT hdT (Array.getElem?_eq_some_iff.mp h3).1 ?_)
      have other : ∀ b, b ≠ T → (h.update T (Obj.mapFields (·.setIfInBounds 3 Value.none))).get? b = h.get? b := fun b hb => Heap.get?_update_other _ _ (Ne.symm hb)
      have noRecord : ∀ b o, h.get? b = some o → (∀ vs, o.data ≠ .fields vs) → b ≠ T := fun b o hb hnf q => by
        rw [q, hT] at hb; injection hb with hb; subst hb; exact hnf ts hdT
      refine entryX hfr hf (fr.of_keeps fun b o hb hnf => ⟨o, (other b (noRecord b o hb hnf)).trans hb, rfl⟩)
        (fun b o hbo => (other b fun q => by rw [q, hnT] at hbo; cases hbo).trans (stay b o hbo)) new ((other e (Ne.symm hTe)).trans he) hc hd hsz hdi hde hns hat fun h' F' S' => hq h' F' ?_
      refine Slid.trans (fun b hb o hbo => ⟨o.slots, (other b fun q => ?_).trans hbo⟩) S'
      obtain ⟨_, o', ho', hnf⟩ := fr.mem hb
      exact noRecord b o' ho' hnf q
theorem flightX {B : Heap} {l : List Env} {e : Addr} {n : Int} {fl : Value} {f : Option Addr} {Q : Unit → Shared → Prop}
    (F : Fly B h l e n (some fl)) (hq : ∀ h', Fly B h' l e n (some (f.elim .none fun a => rawInt a)) → Slid l h h' → Q () ⟨h', G, D, tk, O⟩) :
    wpAny M A (setFlight (.ref e) f) Q E ⟨h, G, D, tk, O⟩ := by
  obtain ⟨stay, new, fr, oe, vs, mA, ta, d, he, hc, hd, hsz, hdi, hde, hns, hat, tb⟩ := F
  obtain ⟨T, oT, ts, h1, hnT, hTe, hT, hdT, h3⟩ := id tb
  have hsz3 : 3 < ts.size := (Array.getElem?_eq_some_iff.mp h3).1
  have other : ∀ b, b ≠ T → (h.update T (Obj.mapFields (·.setIfInBounds 3 (f.elim Value.none fun a => rawInt a)))).get? b = h.get? b := fun b hb => Heap.get?_update_other _ _ (Ne.symm hb)
  have noRecord : ∀ b o, h.get? b = some o → (∀ vs, o.data ≠ .fields vs) → b ≠ T := fun b o hb hnf q => by
    rw [q, hT] at hb; injection hb with hb; subst hb; exact hnf ts hdT
  unfold setFlight
  refine wpAny_bind (wpAny_field he hd h1 ?_)
  rw [if_pos (show (Value.ref T != Value.none) = true from by simp)]
  refine wpAny_setField hT hdT hsz3 (hq _ ⟨fun b o hbo => (other b fun q => by rw [q, hnT] at hbo; cases hbo).trans (stay b o hbo), new,
    fr.of_keeps fun b o hb hnf => ⟨o, (other b (noRecord b o hb hnf)).trans hb, rfl⟩,
    ⟨oe, vs, mA, ta, d, (other e (Ne.symm hTe)).trans he, hc, hd, hsz, hdi, hde, hns, hat, ⟨T, _, _, h1, hnT, hTe, Heap.get?_update_self _ hT (Obj.isFreed_of_fields (Obj.data_mapFields hdT _)), Obj.data_mapFields hdT _, by simp [hsz3]⟩⟩⟩ fun b hb o hbo => ⟨o.slots, (other b fun q => ?_).trans hbo⟩)
  obtain ⟨_, o', ho', hnf⟩ := fr.mem hb
  exact noRecord b o' ho' hnf q
theorem leaveX {B : Heap} {env : Env} {outer : List Env} {L e : Addr} {n : Int} {st : Option Value} {Q : Unit → Shared → Prop}
    (F : Fly B h (env :: outer) e n st) (hfr : A.frames = some (env :: outer)) (hf : env.frame = some L)
    (hq : ∀ h', Fly B h' outer e n (some .none) → Slid (env :: outer) h h' → Q () ⟨h', G, D, tk, O⟩) :
    wpAny M A (leaving env (.ref e)) Q E ⟨h, G, D, tk, O⟩ := by
  unfold leaving
  refine wpAny_bind (noteX F hfr hf fun h₁ F₁ S₁ => flightX F₁ fun h₂ F₂ S₂ => hq h₂ ?_ (S₁.trans S₂))
  obtain ⟨a, b, ⟨_, _, c⟩, r⟩ := F₂
  exact ⟨a, b, c, r⟩
/-- a fault passes a block of its own frame -/
theorem passX {B : Heap} {env : Env} {outer : List Env} {L e : Addr} {n : Int} {st : Option Value} 
    (F : Fly B h (env :: outer) e n st) (hfr : A.frames = some (env :: outer)) (hf : env.frame = some L)
    (hq : ∀ h', Fly B h' (env :: outer) e n (some (rawInt L)) → Slid (env :: outer) h h' → E (.ref e) ⟨h', G, D, tk, O⟩) :
    notedBy M A env (cameBackBy M A env E) (.ref e) ⟨h, G, D, tk, O⟩ := by
  unfold notedBy cameBackBy
  refine noteX F hfr hf fun h₁ F₁ S₁ => ?_
  obtain ⟨stay, new, fr, oe, vs, mA, ta, d, he, hc, hd, hsz, hdi, hde, hns, hat, tb⟩ := id F₁
  obtain ⟨T, oT, ts, h1, _⟩ := id tb
  refine wpAny_bind (wpAny_field he hd h1 ?_)
  rw [if_neg (show ¬ ((Value.ref T == Value.none) = true) from by simp)]
  refine flightX F₁ fun h₂ F₂ S₂ => hq h₂ ?_ (S₁.trans S₂)
  rw [hf] at F₂
  exact F₂
end
section
variable {w : World} {A : Around} {h : Heap} {G : Array GenState} {D : Drawn} {tk : Nat} {O : OsState} {E : Value → Shared → Prop}
theorem catchTest {B : Heap} {env : Env} {outer : List Env} {L e : Addr} {n : Int} {st : Option Value} {np pos : Pos} {nm : Option Str} {b₀ : Stmt} {suite : List Stmt} {Q : Flow → Shared → Prop}
    (F : Fly B h (env :: outer) e n st) (hfr : A.frames = some (env :: outer)) (hf : env.frame = some L) (X : (hd.heap_1 w.params).In B)
    (hname : ∀ h₁ (Q₁ : Value → Shared → Prop) E₁, B.StaysIn h₁ → Slid (env :: outer) h h₁ → Q₁ (.ref 87) ⟨h₁, G, D, tk, O⟩ → wpAny (model PR w) (A.mark (some (.ref e))) (eval (.Name (Str.ofString "CrossFault") np) env) Q₁ E₁ ⟨h₁, G, D, tk, O⟩)
    (hq : ∀ h₁, Fly B h₁ (env :: outer) e n (some .none) → Slid (env :: outer) h h₁ →
      codeAny (model PR w) (A.mark (some (.ref e))) (.handlers (.ref e) [.ExceptHandler none nm (b₀ :: suite) pos] env) (fun r s₂ => match r with
          | .ok f => (match nm with
            | none => Q f s₂
            | some n => wpAny (model PR w) A (do bindName env n .none; unbindBehindTheSuite env n pos) (fun _ s₃ => Q f s₃) E s₂)
          | .error x => cameBackBy (model PR w) A env E x s₂) ⟨h₁, G, D, tk, O⟩) :
    wpAny (model PR w) A (noteFrame (.ref e) env) (fun _ s₂ => wpAny (model PR w) A (setFlight (.ref e) none) (fun _ s₃ =>
      wpAny (model PR w) A (handleBy (.ref e) env [.ExceptHandler (some (.Name (Str.ofString "CrossFault") np)) nm (b₀ :: suite) pos]) Q E s₃) E s₂) E ⟨h, G, D, tk, O⟩ := by
  refine noteX F hfr hf fun h₁ F₁ S₁ => flightX F₁ fun h₂ F₂ S₂ => ?_
  refine wpAny_handleBy_cons (codeAny_handlers_test (hname _ _ _ F₂.stay (S₁.trans S₂) ?_)) (by intro q; cases q)
  obtain ⟨oe, vs, mA, ta, d, he, hc, _⟩ := F₂.exc
  exact wpAny_excMatches_sub_self (clsX_in (X.keeps F₂.stay)) he hc (by decide) (hq _ F₂ (S₁.trans S₂))
/-- except CrossFault: .. -/
theorem catch0X {B : Heap} {env : Env} {outer : List Env} {L e : Addr} {n : Int} {st : Option Value} {np pos : Pos} {b₀ : Stmt} {suite : List Stmt} {Q : Flow → Shared → Prop}
    (F : Fly B h (env :: outer) e n st) (hfr : A.frames = some (env :: outer)) (hf : env.frame = some L) (X : (hd.heap_1 w.params).In B)
    (hname : ∀ h₁ (Q₁ : Value → Shared → Prop) E₁, B.StaysIn h₁ → Slid (env :: outer) h h₁ → Q₁ (.ref 87) ⟨h₁, G, D, tk, O⟩ → wpAny (model PR w) (A.mark (some (.ref e))) (eval (.Name (Str.ofString "CrossFault") np) env) Q₁ E₁ ⟨h₁, G, D, tk, O⟩)
    (hq : ∀ h₁, Fly B h₁ (env :: outer) e n (some .none) → Slid (env :: outer) h h₁ →
      wpAny (model PR w) (A.mark (some (.ref e))) (execs (b₀ :: suite) env) Q (fun _ _ => False) ⟨h₁, G, D, tk, O⟩) :
    wpAny (model PR w) A (noteFrame (.ref e) env) (fun _ s₂ => wpAny (model PR w) A (setFlight (.ref e) none) (fun _ s₃ =>
      wpAny (model PR w) A (handleBy (.ref e) env [.ExceptHandler (some (.Name (Str.ofString "CrossFault") np)) none (b₀ :: suite) pos]) Q E s₃) E s₂) E ⟨h, G, D, tk, O⟩ := by
  refine catchTest F hfr hf X hname fun h₁ F₁ S₁ => ?_
  refine codeAny_handlers_suite (flightX F₁ fun h₂ F₂ S₂ => ?_)
  exact wpAny_mono (hq h₂ F₂ (S₁.trans S₂)) (fun _ _ x => x) fun _ _ x => x.elim
/-- except CrossFault as nm: .. -/
theorem catchAsX {B : Heap} {env : Env} {outer : List Env} {L e : Addr} {n : Int} {st : Option Value} {np pos : Pos} {nm : Str} {b₀ : Stmt} {suite : List Stmt} {Q : Flow → Shared → Prop}
    (F : Fly B h (env :: outer) e n st) (hfr : A.frames = some (env :: outer)) (hf : env.frame = some L) (X : (hd.heap_1 w.params).In B)
    (hname : ∀ h₁ (Q₁ : Value → Shared → Prop) E₁, B.StaysIn h₁ → Slid (env :: outer) h h₁ → Q₁ (.ref 87) ⟨h₁, G, D, tk, O⟩ → wpAny (model PR w) (A.mark (some (.ref e))) (eval (.Name (Str.ofString "CrossFault") np) env) Q₁ E₁ ⟨h₁, G, D, tk, O⟩)
    (hq : ∀ h₁, Fly B h₁ (env :: outer) e n (some .none) → Slid (env :: outer) h h₁ →
      wpAny (model PR w) (A.mark (some (.ref e))) (storeName env nm (.ref e)) (fun _ s₂ => wpAny (model PR w) (A.mark (some (.ref e))) (execs (b₀ :: suite) env)
        (fun f s₃ => wpAny (model PR w) A (do bindName env nm .none; unbindBehindTheSuite env nm pos) (fun _ s₄ => Q f s₄) E s₃) (fun _ _ => False) s₂) (fun _ _ => False) ⟨h₁, G, D, tk, O⟩) :
    wpAny (model PR w) A (noteFrame (.ref e) env) (fun _ s₂ => wpAny (model PR w) A (setFlight (.ref e) none) (fun _ s₃ =>
      wpAny (model PR w) A (handleBy (.ref e) env [.ExceptHandler (some (.Name (Str.ofString "CrossFault") np)) (some nm) (b₀ :: suite) pos]) Q E s₃) E s₂) E ⟨h, G, D, tk, O⟩ := by
  refine catchTest F hfr hf X hname fun h₁ F₁ S₁ => ?_
  refine codeAny_handlers_suite_as (flightX F₁ fun h₂ F₂ S₂ => ?_)
  refine wpAny_mono (hq h₂ F₂ (S₁.trans S₂)) (fun _ _ x => ?_) fun _ _ x => x.elim
  exact wpAny_mono x (fun _ _ y => y) fun _ _ y => y.elim
end
/-- the frames above stand in the heap -/
def FFr (h : Heap) (l : List Env) : Prop := ∀ env ∈ l, env.scope.kind ≠ .module ∧ ∃ L o, env.frame = some L ∧ h.get? L = some o ∧ ∀ vs, o.data ≠ .fields vs
theorem FFr.keeps {h h' : Heap} {l : List Env} (x : FFr h l) (k : h.StaysIn h') : FFr h' l := fun env he => by
  obtain ⟨a, L, o, b, c, d⟩ := x env he
  exact ⟨a, L, o, b, k _ _ c, d⟩
theorem FFr.fun {h B : Heap} : ∀ {l : List Env}, FFr h l → (∀ L ∈ frs l, B.get? L = none) → h.FunFrames B l
  | [], _, _ => trivial
  | env :: r, x, y => by
    obtain ⟨a, L, o, b, c, d⟩ := x env (.head _)
    refine ⟨a, ⟨L, o, b, y L ?_, c, d⟩, FFr.fun (fun e he => x e (.tail _ he)) fun L' h' => y L' ?_⟩
    · unfold frs; rw [List.filterMap_cons, b]; exact .head _
    · unfold frs; rw [List.filterMap_cons, b]; exact .tail _ h'
theorem FFr.mem {h : Heap} {l : List Env} (x : FFr h l) {L : Addr} (hL : L ∈ frs l) : ∃ o, h.get? L = some o ∧ ∀ vs, o.data ≠ .fields vs := by
  obtain ⟨env, he, hf⟩ := List.mem_filterMap.mp hL
  obtain ⟨_, L', o, b, c, d⟩ := x env he
  rw [hf] at b; cases b
  exact ⟨o, c, d⟩
theorem FFr.cons {g h : Heap} {env : Env} {l : List Env} {L : Addr} {m : Str → Option Value} (x : FFr g l) (F : Fr g L h m) (hk : env.scope.kind = .function) (hf : env.frame = some L) : FFr h (env :: l) := fun e he => by
  rcases List.mem_cons.mp he with rfl | he
  · obtain ⟨o, es, ep, ho, hd, _⟩ := F.ns
    exact ⟨by rw [hk]; decide, L, o, hf, ho, fun vs q => by rw [hd] at q; cases q⟩
  · exact x.keeps F.keep e he
theorem frs_cons {env : Env} {l : List Env} {L : Addr} (hf : env.frame = some L) : frs (env :: l) = L :: frs l := by unfold frs; rw [List.filterMap_cons, hf]
/-- a fault that a call threw: H stood at the call, l are the frames above -/
def Thrown (H h : Heap) (l : List Env) (e : Addr) (n : Int) : Prop :=
  ∃ B, Fly B h l e n (some .none) ∧ (∀ b o, H.get? b = some o → b ∉ frs l → B.get? b = some o) ∧ Slid l H h
/-- a fault in a frame of its own -/
def Thrown1 (H h : Heap) (env : Env) (outer : List Env) (e : Addr) (n : Int) : Prop :=
  ∃ B st, Fly B h (env :: outer) e n st ∧ (∀ b o, H.get? b = some o → b ∉ frs outer → B.get? b = some o) ∧ Slid outer H h
def E1 (H : Heap) (env : Env) (outer : List Env) (P : Int → Prop) (G : Array GenState) (D : Drawn) (O : OsState) (x : Value) (s : Shared) : Prop :=
  ∃ e n h tk, x = .ref e ∧ s = ⟨h, G, D, tk, O⟩ ∧ Thrown1 H h env outer e n ∧ P n
theorem fr_new {g h : Heap} {L : Addr} {m : Str → Option Value} (F : Fr g L h m) : g.get? L = none := by
  cases e : g.get? L with
  | none => rfl
  | some o => exact absurd (Nat.lt_of_lt_of_le (Heap.lt_size e) F.above) (Nat.lt_irrefl _)
theorem thrown_here {H h h' : Heap} {env : Env} {outer : List Env} {L e : Addr} {n : Int} {vs : Array Value} {m : Str → Option Value} (hl : FFr H outer) (F : Fr H L h m) (hk : env.scope.kind = .function) (hf : env.frame = some L)
    (x : Fault h h' e n vs) (h1 : vs[1]? = some .none) : Thrown1 H h' env outer e n := by
  obtain ⟨keep, new, ⟨mA, ta, I, hat⟩, oe, he, hc, hd, hdx⟩ := x
  have hff : FFr h (env :: outer) := hl.cons F hk hf
  obtain ⟨o', ho', hc', hnc, hr⟩ := I
  rw [he] at ho'; cases ho'
  rcases hr with ⟨_, hm⟩ | ⟨d, hdi, hde, hns⟩
  · rw [hm] at hat; cases hat
  have hdn := hdx d hdi
  have hid : ∀ b ∈ e :: frs (env :: outer), b ≠ d := fun b hb q => by
    rcases List.mem_cons.mp hb with rfl | hb
    · exact hde q.symm
    · obtain ⟨o, ho, _⟩ := hff.mem hb
      rw [q, hdn] at ho; cases ho
  refine ⟨hideAll h' (e :: frs (env :: outer)), none, ⟨fun b o q => of_hideAll _ q, hideAll_none _ (.head _), (hff.keeps keep).fun fun L hL => hideAll_none _ (.tail _ hL),
    ⟨oe, vs, mA, ta, d, he, hc, hd, (Array.getElem?_eq_some_iff.mp h1).1, hdi, hde, ?_, hat, h1⟩⟩, fun b o q hb => ?_, Slid.of_keeps fun b o q => keep _ _ (F.keep _ _ q)⟩
  · obtain ⟨od, es, ep, q, r⟩ := hns
    exact ⟨od, es, ep, hideAll_get _ q fun z => hid d z rfl, r⟩
  · refine hideAll_get _ (keep _ _ (F.keep _ _ q)) fun z => ?_
    rcases List.mem_cons.mp z with z | z
    · rw [z] at q
      have := F.keep _ _ q
      rw [new] at this; cases this
    · rw [frs_cons hf] at z
      rcases List.mem_cons.mp z with z | z
      · rw [z, fr_new F] at q; cases q
      · exact hb z
theorem thrown_from {H Hc h : Heap} {env : Env} {outer : List Env} {L e : Addr} {n : Int} {m : Str → Option Value} (F : Fr H L Hc m) (hf : env.frame = some L) (x : Thrown Hc h (env :: outer) e n) : Thrown1 H h env outer e n := by
  obtain ⟨B, y, k, s⟩ := x
  refine ⟨B, _, y, fun b o q hb => k b o (F.keep _ _ q) fun z => ?_, fun L' hL o q => s L' (by rw [frs_cons hf]; exact .tail _ hL) o (F.keep _ _ q)⟩
  rw [frs_cons hf] at z
  rcases List.mem_cons.mp z with z | z
  · rw [z, fr_new F] at q; cases q
  · exact hb z
section
variable {w : World} {A : Around} {h : Heap} {G : Array GenState} {D : Drawn} {tk : Nat} {O : OsState} {M : Model} {E : Value → Shared → Prop}
theorem leaveT {H : Heap} {env : Env} {outer : List Env} {L e : Addr} {n : Int} {Q : Unit → Shared → Prop} (x : Thrown1 H h env outer e n) (hfr : A.frames = some (env :: outer)) (hf : env.frame = some L)
    (hq : ∀ h', Thrown H h' outer e n → Q () ⟨h', G, D, tk, O⟩) : wpAny M A (leaving env (.ref e)) Q E ⟨h, G, D, tk, O⟩ := by
  obtain ⟨B, st, F, k, s⟩ := x
  refine leaveX F hfr hf fun h' F' S' => hq h' ⟨B, F', k, s.trans (S'.mono fun L' hL => ?_)⟩
  rw [frs_cons hf]; exact .tail _ hL
theorem passE1 {H : Heap} {env : Env} {outer : List Env} {L : Addr} {P : Int → Prop} (hfr : A.frames = some (env :: outer)) (hf : env.frame = some L) : PassesOwn M A env (E1 H env outer P G D O) := by
  rintro x s ⟨e, n, h, tk, rfl, rfl, ⟨B, st, F, k, s⟩, hp⟩
  refine passX F hfr hf fun h' F' S' => ⟨e, n, h', tk, rfl, rfl, ⟨B, _, F', k, s.trans (S'.mono fun L' hL => ?_)⟩, hp⟩
  rw [frs_cons hf]; exact .tail _ hL
end
section
variable {w : World} {mg mb : Str → Option Value} {me : ExcName → Option Value} {A : Around} {h : Heap} {G : Array GenState} {D : Drawn} {tk : Nat} {O : OsState}
  {name qual : Str} {params : Arguments} {body : List Stmt} {scope : Scope} {dV kV doc pm cdv ct oc : Value} {an od : Option Addr} {osl : Array (Option Value)} {f : Addr} {args : List Value}
  {Q E : Value → Shared → Prop}
/-- a def of the text that may throw a fault and turns nothing -/
theorem enterE {h₀ : Heap} (X : (hd.heap_1 w.params).In h₀) (T : TopH mg mb me h₀) (st : h₀.StaysIn h) (binds : List (Str × Value))
  (ho : (hd.heap_1 w.params).lookup f = some ⟨oc, od, .func (fnOf name qual params body scope dV kV doc pm an cdv ct), osl⟩) (hcd : codeIn (hd.heap_1 w.params) cdv qual = true)
  (hroom : A.depth < recursionLimit)
  (hbind : BindsTo ⟨h, G, D, tk, O⟩ (fnOf name qual params body scope dV kV doc pm an cdv ct) ⟨args, []⟩ binds)
  (hloc : (binds.all fun x => decide (scope.names.lookup x.1 = some .local)) = true) (hcell : ∀ x ∈ scope.names, x.2 ≠ .cell)
  (hco : scope.isCoroutine = false) (hgen : scope.isGenerator = false) (hk : scope.kind = .function)
  {l : List Env} (hfr : A.frames = some l) (P : Int → Prop) (hE : ∀ e n h' tk', Thrown h h' l e n → P n → E (.ref e) ⟨h', G, D, tk', O⟩)
  (k : ∀ L h₁ tk, (hd.heap_1 w.params).In h → TopH mg mb me h → Fr h L h₁ (fun x => binds.reverse.lookup x) → Led w h L h₁ [] →
      wpAny (model PR w) (A.deeper (envOf qual scope L f cdv)) (execs body (envOf qual scope L f cdv))
        (fun fl s' => Q (match fl with | .ret v => v | _ => .none) s') (E1 h (envOf qual scope L f cdv) l P G D O)
        ⟨h₁, G, D, tk, O⟩) :
  wpAny (model PR w) A (call (.ref f) args) Q E ⟨h, G, D, tk, O⟩ := by
  refine wpAny_call ?_
  refine codeAny_call_def (fd := fnOf name qual params body scope dV kV doc pm an cdv ct) (body := body) (binds := binds) hroom (st _ _ (X _ _ ho)) rfl (T.nolimit.keeps st) (codeRec_of (X.keeps st) hcd) rfl hbind hcell (locs hloc) (fun h₁ hns hk₁ => ?_) hco hgen hk
  refine wpAny_mono (k h.objs.size h₁ _ (X.keeps st) (T.keeps st) ⟨hns, hk₁, Nat.le_refl _⟩ (.nil (heapK (X.keeps st)))) (fun fl s' hl => hl) ?_
  rintro x s' ⟨e, n, h', tk', rfl, rfl, t, hp⟩
  exact leaveT t (Around.frames_deeper hfr) rfl fun h'' t' => hE e n h'' tk' t' hp
end
/-- an object of Entry among l -/
def IsEnt (l : Ls) (v wv ov tv : Value) : Prop := ∃ x d es n, v = .ref x ∧ (x, Res.raw (instObj 38 d)) ∈ l ∧ (d, Res.raw (dictOf es n)) ∈ l ∧
  getL (Str.ofString "way") es = some (some wv) ∧ getL (Str.ofString "one") es = some (some ov) ∧ getL (Str.ofString "two") es = some (some tv) ∧ getL (Str.ofString "told") es = some none
theorem IsEnt.sub {l l' : Ls} {v wv ov tv : Value} (x : IsEnt l v wv ov tv) (k : ∀ p ∈ l, p ∈ l') : IsEnt l' v wv ov tv := by
  obtain ⟨a, d, es, n, e, h1, h2, r⟩ := x
  exact ⟨a, d, es, n, e, k _ h1, k _ h2, r⟩
theorem Led.news {w : World} {g h : Heap} {L : Addr} {led : Ls} (N : Led w g L h led) (l : List (Addr × Obj)) (hl : ∀ p ∈ l, (p.1, Res.raw p.2) ∈ led) : News g L h l := fun p hp =>
  ⟨(N.N _ (hl p hp)).1, (N.N _ (hl p hp)).2.2.1, (N.N _ (hl p hp)).2.2.2⟩
section
variable {w : World} {A : Around} {h : Heap} {G : Array GenState} {D : Drawn} {tk : Nat} {O : OsState} {E : Value → Shared → Prop} {g : Heap} {L : Addr} {m mg mb : Str → Option Value} {me : ExcName → Option Value} {led : Ls}
theorem IsEnt.inst {v wv ov tv : Value} (H : Has w h led) (x : IsEnt led v wv ov tv) : ∃ a d es n, v = .ref a ∧ InstAt h a (instObj 38 d) 38 (some (dictOf es n)) ∧
  getL (Str.ofString "way") es = some (some wv) ∧ getL (Str.ofString "one") es = some (some ov) ∧ getL (Str.ofString "two") es = some (some tv) ∧ getL (Str.ofString "told") es = some none := by
  obtain ⟨a, d, es, n, e, h1, h2, r⟩ := x
  exact ⟨a, d, es, n, e, ⟨H.get h1, rfl, rfl, H.get h2⟩, r⟩
theorem getWay {v wv ov tv : Value} {Q : Value → Shared → Prop} {expr : Bool} (F : Fr g L h m) (X : (hd.heap_1 w.params).In g) (H : Has w h led) (x : IsEnt led v wv ov tv) (hv : handedIn wv = true) (hq : ∀ tk', Q wv ⟨h, G, D, tk', O⟩) :
    wpAny (model PR w) A (getAttr v (Str.ofString "way") expr) Q E ⟨h, G, D, tk, O⟩ := by
  obtain ⟨a, d, es, n, rfl, I, h1, h2, h3, h4⟩ := x.inst H
  refine get_own F X I ?_ ?_ (attr := none) ?_ ?_ h1 hv (hq _) <;> k_is
theorem getOne {v wv ov tv : Value} {Q : Value → Shared → Prop} {expr : Bool} (F : Fr g L h m) (X : (hd.heap_1 w.params).In g) (H : Has w h led) (x : IsEnt led v wv ov tv) (hv : handedIn ov = true) (hq : ∀ tk', Q ov ⟨h, G, D, tk', O⟩) :
    wpAny (model PR w) A (getAttr v (Str.ofString "one") expr) Q E ⟨h, G, D, tk, O⟩ := by
  obtain ⟨a, d, es, n, rfl, I, h1, h2, h3, h4⟩ := x.inst H
  refine get_own F X I ?_ ?_ (attr := none) ?_ ?_ h2 hv (hq _) <;> k_is
theorem getTwo {v wv ov tv : Value} {Q : Value → Shared → Prop} {expr : Bool} (F : Fr g L h m) (X : (hd.heap_1 w.params).In g) (H : Has w h led) (x : IsEnt led v wv ov tv) (hv : handedIn tv = true) (hq : ∀ tk', Q tv ⟨h, G, D, tk', O⟩) :
    wpAny (model PR w) A (getAttr v (Str.ofString "two") expr) Q E ⟨h, G, D, tk, O⟩ := by
  obtain ⟨a, d, es, n, rfl, I, h1, h2, h3, h4⟩ := x.inst H
  refine get_own F X I ?_ ?_ (attr := none) ?_ ?_ h3 hv (hq _) <;> k_is
theorem methTold {v wv ov tv : Value} {pl : Sem Bool} {Q : Value × List Value → Shared → Prop} (F : Fr g L h m) (X : (hd.heap_1 w.params).In g) (H : Has w h led) (x : IsEnt led v wv ov tv) (hq : Q (.ref 35, [v]) ⟨h, G, D, tk, O⟩) :
    wpAny (model PR w) A (getMethod v (Str.ofString "told") pl) Q E ⟨h, G, D, tk, O⟩ := by
  obtain ⟨a, d, es, n, rfl, I, h1, h2, h3, h4⟩ := x.inst H
  refine method_inst F X I ?_ (f := 35) ?_ ?_ h4 hq <;> k_is
end
theorem entryInit {w : World} {mg mb : Str → Option Value} {me : ExcName → Option Value} {A : Around} {H h : Heap} {G : Array GenState} {D : Drawn} {tk : Nat} {O : OsState} {x d : Addr} {wv ov tv : Value} {R : Result → Shared → Prop}
    (X : (hd.heap_1 w.params).In H) (T : TopH mg mb me H) (st : H.StaysIn h) (hsz : H.objs.size ≤ h.objs.size) (hroom : A.depth < recursionLimit) (hxd : x ≠ d) (hx : H.get? x = none) (hd' : H.get? d = none) (hxo : h.get? x = some (instObj 38 d)) (hdo : h.get? d = some emptyDict)
    (hq : ∀ h' tk' es n, H.StaysIn h' → h'.get? x = some (instObj 38 d) → h'.get? d = some (dictOf es n) → getL (Str.ofString "way") es = some (some wv) → getL (Str.ofString "one") es = some (some ov) → getL (Str.ofString "two") es = some (some tv) → getL (Str.ofString "told") es = some none →
      R (.ok (.ret .none)) ⟨h', G, D, tk', O⟩) :
    codeAny (model PR w) A (.call (.ref 28) ⟨[.ref x, wv, ov, tv], []⟩) R ⟨h, G, D, tk, O⟩ := by
  have X' := X.keeps st
  have T' := T.keeps st
  with_reducible refine' enterC X' T' [(Str.ofString "self", .ref x), (Str.ofString "way", wv), (Str.ofString "one", ov), (Str.ofString "two", tv)] ?ho ?cd ?room ?bd ?lo ?ce ?co ?ge ?k ?_
  case ho => k_is
  case cd => k_is
  case room => exact hroom
  case bd => exact BindsTo.of_eq rfl
  case lo => exact rfl
  case ce => decide
  case co => exact rfl
  case ge => exact rfl
  case k => exact rfl
  intro L h₁ tk₁ hns st₁ hL
  clear X' T'
  have F : Fr H L h₁ _ := ⟨hns, fun b o q => st₁ _ _ (st _ _ q), Nat.le_trans hsz hL⟩
  have nL : ∀ b o, h.get? b = some o → b ≠ L := fun b o q z => absurd (Heap.lt_size q) (Nat.not_lt.mpr (z ▸ hL))
  have N : News H L h₁ [(x, instObj 38 d), (d, dictOf [] 0)] := by
    intro p hp
    simp only [List.mem_cons, List.mem_nil_iff, or_false] at hp
    rcases hp with rfl | rfl
    · exact ⟨st₁ _ _ hxo, nL _ _ hxo, hx⟩
    · exact ⟨st₁ _ _ hdo, nL _ _ hdo, hd'⟩
  repeat walk_at "S"
  refine set_dict F X N (InstAt.of_news N (.head _) (.tail _ (.head _))) rfl ?a1 ?a2 ?a3 ?a4 ?a5 rfl (.tail hxd (.head (fun _ q => nomatch q))) ?a6 ?_
  case a1 => k_is
  case a2 => k_is
  case a3 => k_is
  case a4 => k_is
  case a5 => exact rfl
  case a6 => exact Nat.le_of_ble_eq_true rfl
  clear F N
  intro h₂ F N
  repeat walk_at "S"
  refine set_dict F X N (InstAt.of_news N (.head _) (.tail _ (.head _))) rfl ?a1 ?a2 ?a3 ?a4 ?a5 rfl (.tail hxd (.head (fun _ q => nomatch q))) ?a6 ?_
  case a1 => k_is
  case a2 => k_is
  case a3 => k_is
  case a4 => k_is
  case a5 => exact rfl
  case a6 => exact Nat.le_of_ble_eq_true rfl
  clear F N
  intro h₃ F N
  repeat walk_at "S"
  refine set_dict F X N (InstAt.of_news N (.head _) (.tail _ (.head _))) rfl ?a1 ?a2 ?a3 ?a4 ?a5 rfl (.tail hxd (.head (fun _ q => nomatch q))) ?a6 ?_
  case a1 => k_is
  case a2 => k_is
  case a3 => k_is
  case a4 => k_is
  case a5 => exact rfl
  case a6 => exact Nat.le_of_ble_eq_true rfl
  clear F N
  intro h₄ F N
  repeat walk_at "S"
  exact hq h₄ _ _ _ F.keep (N _ (.head _)).1 (N _ (.tail _ (.head _))).1 rfl rfl rfl rfl
theorem entry_c
  {w : World} {mg mb : Str → Option Value} {me : ExcName → Option Value} {A : Around} {H : Heap} {G : Array GenState} {D : Drawn} {tk : Nat} {O : OsState} {h₀ : Heap} {Q E : Value → Shared → Prop}
  (X : (hd.heap_1 w.params).In h₀) (T : TopH mg mb me h₀) (st : h₀.StaysIn H) (hh : A.handled = none) (hdp : A.depth + 9 < recursionLimit) (hu : A.units + 9 < cLine)
  {wv ov tv : Value}
  (post : ∀ h' tk' x d es n, H.StaysIn h' → New w H h' [(x, .raw (instObj 38 d)), (d, .raw (dictOf es n))] → IsEnt [(x, .raw (instObj 38 d)), (d, .raw (dictOf es n))] (.ref x) wv ov tv → Q (.ref x) ⟨h', G, D, tk', O⟩) :
  wpAny (model PR w) A (call (.ref 38) [wv, ov, tv]) Q E ⟨H, G, D, tk, O⟩ := by
  refine wpAny_call ?_
  have X' := X.keeps st
  have k : H.StaysIn ((H.push emptyDict).push (instObj 38 H.objs.size)) := fun b o e => Heap.get?_push_of_some _ (Heap.get?_push_of_some _ e)
  refine make_core (makes_of X' ?_) (looks_findIn X' (r := some (.ref 28)) ?_) (fun self => bind_fn X' self ?_) (.inl rfl) ?_
  · k_is
  · k_is
  · k_is
  refine entryInit X' (T.keeps st) k (by rw [Heap.size_push, Heap.size_push]; omega) (by show A.depth + 1 < _; omega) (Nat.succ_ne_self _) (Heap.get?_none_of_le (Nat.le_succ _)) (size_none H) (by heap_get) (by heap_get) ?_
  intro h' tk' es n st' h1 h2 e1 e2 e3 e4
  refine ⟨rfl, post h' tk' (H.objs.size + 1) H.objs.size es n st' ⟨?_, ?_⟩ ⟨_, _, es, n, rfl, .head _, .tail _ (.head _), e1, e2, e3, e4⟩⟩
  · have := heapK X'
    intro p hp
    simp only [List.mem_cons, List.mem_nil_iff, or_false] at hp
    rcases hp with rfl | rfl
    · exact ⟨h1, Nat.lt_succ_of_lt this, Heap.get?_none_of_le (Nat.le_succ _)⟩
    · exact ⟨h2, this, size_none H⟩
  · simp [keys]
theorem told_c
  {w : World} {mg mb : Str → Option Value} {me : ExcName → Option Value} {A : Around} {H : Heap} {G : Array GenState} {D : Drawn} {tk : Nat} {O : OsState} {h₀ : Heap} {Q E : Value → Shared → Prop}
  (X : (hd.heap_1 w.params).In h₀) (T : TopH mg mb me h₀) (st : h₀.StaysIn H) (hh : A.handled = none) (hdp : A.depth + 2 < recursionLimit) (hu : A.units + 9 < cLine)
  {v wv ov tv : Value} {l : Ls} (hl : Has w H l) (hv : IsEnt l v wv ov tv) (h1 : handedIn wv = true) (h2 : handedIn ov = true) (h3 : handedIn tv = true)
  (post : ∀ h' tk' a, H.StaysIn h' → New w H h' [(a, .tup [wv, ov, tv])] → Q (.ref a) ⟨h', G, D, tk', O⟩) :
  wpAny (model PR w) A (call (.ref 35) [v]) Q E ⟨H, G, D, tk, O⟩ := by
  with_reducible refine' enterP X T st [(Str.ofString "self", v)] ?ho ?cd ?room ?bd ?lo ?ce ?co ?ge ?k ?_
  case ho => k_is
  case cd => k_is
  case room => omega
  case bd => exact BindsTo.of_eq rfl
  case lo => exact rfl
  case ce => decide
  case co => exact rfl
  case ge => exact rfl
  case k => exact rfl
  clear X T
  intro L h tk X T F N
  repeat walk_at "S"
  refine getWay F X (hl.keeps F.keep) hv h1 fun _ => ?_
  repeat walk_at "S"
  refine getOne F X (hl.keeps F.keep) hv h2 fun _ => ?_
  repeat walk_at "S"
  refine getTwo F X (hl.keeps F.keep) hv h3 fun _ => ?_
  repeat walk_at "S"
  with_reducible refine newTupleR F N ?_ fun a h' F N => ?_
  · rw [sizeLine_eq]; exact Nat.le_of_ble_eq_true rfl
  repeat (first | (with_reducible refine' Seal.ret ?K ?_; case K => with_reducible assumption) | with_reducible refine turnRet ?_)
  exact post _ _ _ F.keep (Led.new N)
set_option linter.unusedVariables false
section
variable {w : World} {A : Around} {E : Value → Shared → Prop} {h : Heap} {G : Array GenState} {D : Drawn} {tk : Nat} {O : OsState} {env : Env} {g : Heap} {L : Addr} {m : Str → Option Value} {led : Ls}
def WEnd (w : World) (g : Heap) (L : Addr) (n : Nat) (J : Nat → (Str → Option Value) → Ls → Prop) (G : Array GenState) (D : Drawn) (O : OsState) (Q : Flow → Shared → Prop) (f : Flow) (s₂ : Shared) : Prop :=
  match f with
  | .ret v => Q (.ret v) s₂
  | .brk => Q .next s₂
  | _ => ∃ h' tk' m' led' k, s₂ = ⟨h', G, D, tk', O⟩ ∧ k < n ∧ Fr g L h' m' ∧ Led w g L h' led' ∧ J k m' led'
theorem wNext {n k : Nat} {J : Nat → (Str → Option Value) → Ls → Prop} {Q : Flow → Shared → Prop} (F : Fr g L h m) (N : Led w g L h led) (hk : k < n) (hJ : J k m led) : WEnd w g L n J G D O Q .next ⟨h, G, D, tk, O⟩ := ⟨h, tk, m, led, k, rfl, hk, F, N, hJ⟩
theorem whileR {test : Expr} {body : List Stmt} {pos : Pos} {Q : Flow → Shared → Prop} (hE : PassesOwn (model PR w) A env E) (F : Fr g L h m) (N : Led w g L h led) (J : Nat → (Str → Option Value) → Ls → Prop) (n : Nat) (hJ : J n m led)
    (turn : ∀ n m led h tk, J n m led → Fr g L h m → Led w g L h led → wpAny (model PR w) A (isTrue test env (eval test env)) (fun b s₂ =>
      if b = true then wpAny (model PR w) A (execs body env) (WEnd w g L n J G D O Q) E s₂ else Q .next s₂) E ⟨h, G, D, tk, O⟩) :
    wpAny (model PR w) A (exec (.While test body [] pos) env) Q E ⟨h, G, D, tk, O⟩ := by
  refine wpAny_While (codeAny_whileLoop (fun k s => ∃ h' tk' m' led', s = ⟨h', G, D, tk', O⟩ ∧ Fr g L h' m' ∧ Led w g L h' led' ∧ J k m' led') ?_ n ⟨_, _, _, _, rfl, F, N, hJ⟩)
  rintro k s ⟨h', tk', m', led', rfl, F', N', hJ'⟩
  refine wpAny_mono (turn k m' led' h' tk' hJ' F' N') (fun b s₂ h₂ => ?_) fun e s' x => hE e s' x
  cases b with
  | false =>
    simp only [Bool.false_eq_true, if_false] at h₂ ⊢
    exact wpAny_execs_nil h₂
  | true =>
    simp only [if_true] at h₂ ⊢
    refine wpAny_mono h₂ (fun f s₃ h₃ => ?_) fun e s' x => hE e s' x
    cases f with
    | ret v => exact h₃
    | brk => exact h₃
    | next => obtain ⟨h, tk, m, led, k, rfl, a, b, c, d⟩ := h₃; exact ⟨k, a, h, tk, m, led, rfl, b, c, d⟩
    | cont => obtain ⟨h, tk, m, led, k, rfl, a, b, c, d⟩ := h₃; exact ⟨k, a, h, tk, m, led, rfl, b, c, d⟩
theorem iteB {c : Prop} [Decidable c] {P R : Prop} (ht : c → P) (hf : ¬ c → R) : if decide c = true then P else R := iteP ht hf
end
section
variable {w : World} {A : Around} {E : Value → Shared → Prop} {h : Heap} {G : Array GenState} {D : Drawn} {tk : Nat} {O : OsState} {value slice : Expr} {a : Addr} {k : Int} {t : Tok} {v : Value} {Q : Value → Shared → Prop}
/-- d[k] -/
theorem dItem {kvs : List (Int × Value)} (hm : h.DictOf (intKind PR w) a kvs) (hv : valueAt kvs k = some v) (hq : ∀ tk', Q v ⟨h, G, D, tk', O⟩)
    (hs : subscripted slice false (.ref a) (.int k t) = operate [.ref a, .int k t] (getItem (.ref a) (.int k t))) :
    wpAny (model PR w) A (subscriptTail value slice (.ref a) (.int k t)) Q E ⟨h, G, D, tk, O⟩ :=
  tail_any hm.typeIs slot_dict_getitem.lookup (wpAny_getItem_of (knd := intKind PR w) (intKind_is _ _ _ _) hm.mapOf hv (hq _)) hs
theorem tItem {vs : List Value} (ht : IsTup h a vs.toArray) (h0 : 0 ≤ k) (hhi : k < 2 ^ 63) (hx : vs[k.toNat]? = some v) (hq : Q v ⟨h, G, D, tk, O⟩)
    (hs : subscripted slice false (.ref a) (.int k t) = operate [.ref a, .int k t] (getItem (.ref a) (.int k t))) :
    wpAny (model PR w) A (subscriptTail value slice (.ref a) (.int k t)) Q E ⟨h, G, D, tk, O⟩ := by
  have hl : k.toNat < vs.length := (List.getElem?_eq_some_iff.mp hx).1
  refine item_tupleT (j := k.toNat) ht (by omega) hhi ?_ hx hq hs
  have hk : ¬ k < 0 := by omega
  have h2 : k < (vs.length : Int) := by omega
  simp [seqIndex?, hk, h0, h2]
theorem lItem {vs : List Value} (hl : h.IsList a vs.toArray) (h0 : 0 ≤ k) (hhi : k < 2 ^ 63) (hx : vs[k.toNat]? = some v) (hq : Q v ⟨h, G, D, tk, O⟩)
    (hs : subscripted slice false (.ref a) (.int k t) = operate [.ref a, .int k t] (getItem (.ref a) (.int k t))) :
    wpAny (model PR w) A (subscriptTail value slice (.ref a) (.int k t)) Q E ⟨h, G, D, tk, O⟩ :=
  tail_any hl.typeIs slot_list_getitem.lookup (wpAny_getItem_list hl h0 hhi (by simpa using hx) hq) hs
/-- max(a, b) -/
theorem maxI {x y : Int} {t u : Tok} {g : Heap} {L : Addr} {m : Str → Option Value} {led : Ls} (hh : A.handled = none) (F : Fr g L h m) (N : Led w g L h led)
    (hq : ∀ h' tk' t, Fr g L h' m → Led w g L h' led → Q (.int (max x y) t) ⟨h', G, D, tk', O⟩) :
    wpAny (model PR w) A (call (.builtin "max") [.int x t, .int y u]) Q E ⟨h, G, D, tk, O⟩ := by
  refine max_two_ints hh fun h' tk' k => ?_
  by_cases e : y > x
  · rw [if_pos e]
    have := hq h' tk' u (fr_stays F k) (N.stays k)
    rw [show max x y = y by omega] at this; exact this
  · rw [if_neg e]
    have := hq h' tk' t (fr_stays F k) (N.stays k)
    rw [show max x y = x by omega] at this; exact this
theorem lenB {b : Array UInt8} (hz : b.size ≤ 1099511627776) (hq : ∀ t tk', Q (.int (b.size : Int) t) ⟨h, G, D, tk', O⟩) : wpAny (model PR w) A (call (.builtin "len") [.bytes b t]) Q E ⟨h, G, D, tk, O⟩ := len_bytes hz (hq _ _)
theorem lenL {vs : List Value} (hl : h.IsList a vs.toArray) (hz : (vs.length : Int) < 2 ^ 63) (hq : ∀ t tk', Q (.int (vs.length : Int) t) ⟨h, G, D, tk', O⟩) : wpAny (model PR w) A (call (.builtin "len") [.ref a]) Q E ⟨h, G, D, tk, O⟩ := by
  refine call_len_list hl (by simpa using hz) ?_
  simpa using hq _ _
theorem lenT {vs : List Value} (hl : IsTup h a vs.toArray) (hz : (vs.length : Int) < 2 ^ 63) (hq : ∀ t tk', Q (.int (vs.length : Int) t) ⟨h, G, D, tk', O⟩) : wpAny (model PR w) A (call (.builtin "len") [.ref a]) Q E ⟨h, G, D, tk, O⟩ := by
  refine PyProof.Rows.len_tuple hl (by simpa using hz) ?_
  simpa using hq _ _
/-- b[lo:hi] -/
def cutB (b : Array UInt8) (lo hi : Option Int) : List UInt8 := (b.toList.drop (lo.elim 0 Int.toNat)).take (hi.elim b.size Int.toNat - lo.elim 0 Int.toNat)
theorem cut_min (l : List UInt8) (i j : Nat) : (l.drop (min i l.length)).take (min j l.length - min i l.length) = (l.drop i).take (j - i) := by
  apply List.ext_getElem?
  intro k
  simp only [List.getElem?_take, List.getElem?_drop]
  split <;> split
  · rw [Nat.min_eq_left (by omega)]
  · omega
  · rw [List.getElem?_eq_none (by omega)]
  · rfl
theorem cut_eq (b : Array UInt8) (lo hi : Option Int) (h1 : ∀ i ∈ lo, 0 ≤ i) (h2 : ∀ i ∈ hi, 0 ≤ i) : KBy.picked b lo hi = (cutB b lo hi).toArray := by
  rw [KBc.picked_eq]
  congr 1
  unfold cutB
  have hlen : b.toList.length = b.size := by simp
  have hn : ∀ i : Int, 0 ≤ i → clipAt b.size i = min i.toNat b.toList.length := fun i hi => by
    have := clipAt_nat b.size i.toNat
    rwa [Int.toNat_of_nonneg hi, ← hlen] at this
  have e1 : lo.elim 0 (clipAt b.size) = min (lo.elim 0 Int.toNat) b.toList.length := by
    cases lo with
    | none => simp
    | some i => exact hn i (h1 i rfl)
  have e2 : hi.elim b.size (clipAt b.size) = min (hi.elim b.size Int.toNat) b.toList.length := by
    cases hi with
    | none => simp
    | some i => exact hn i (h2 i rfl)
  rw [e1, e2, cut_min]
theorem sliceB {b : Array UInt8} {l u : Value} {lo hi : Option Int} {g : Heap} {L : Addr} {m : Str → Option Value} {led : Ls} (F : Fr g L h m) (N : Led w g L h led) (hl : IsPart l lo) (hu : IsPart u hi) (h1 : ∀ i ∈ lo, 0 ≤ i) (h2 : ∀ i ∈ hi, 0 ≤ i) (hz : b.size ≤ 16777216)
    (hq : ∀ h' t' k, Fr g L h' m → Led w g L h' led → Q (.bytes (cutB b lo hi).toArray t') ⟨h', G, D, k, O⟩)
    (hs : subscripted slice false (.bytes b t) (.ref h.objs.size) = operate [.ref h.objs.size, .bytes b t] (getItem (.bytes b t) (.ref h.objs.size)))
    (ht : ∀ r, letTemporaryGo value (.bytes b t) r = pure ()) :
    wpAny (model PR w) A (subscriptTail value slice (.bytes b t) (.ref h.objs.size)) Q E ⟨h.push { cls := .type "slice", data := .fields #[l, u, .none] }, G, D, tk, O⟩ := by
  have e := cut_eq b lo hi h1 h2
  refine tail_of_ItemOn (M := model PR w) ⟨"bytes", _, FB.slot_bytes_getitem.lookup, typeIs_bytes _ _ _, getItem_meets (typeIs_bytes _ _ _) (by decide) FB.slot_bytes_getitem FB.entry_bytes_getitem (FB.args_bytes_getitem_2 _ _) (KBc.meets_slice2 b t _ hl hu)
    ⟨Heap.IsSliceOf.new _ _ _ _, Nat.le_trans (KBc.size_picked_le b lo hi) (by rw [sizeLine_eq]; exact hz), fun t' k => ?_⟩⟩ hs ht
  rw [e]
  exact hq _ _ _ (fr_push F _) (N.stays (stays_push _ _))
end
set_option linter.unusedVariables false
/-- how many octets a number takes -/
def wd (n : Nat) : Nat := if h : n = 0 then 0 else wd (n / 256) + 1
termination_by n
decreasing_by omega
theorem wd_zero : wd 0 = 0 := by rw [wd]; simp
theorem wd_pos {n : Nat} (h : 0 < n) : wd n = wd (n / 256) + 1 := by rw [wd]; simp [Nat.pos_iff_ne_zero.mp h]
theorem wd_le : ∀ (k n : Nat), wd n ≤ k ↔ n < 256 ^ k
  | 0, n => by
    rcases Nat.eq_zero_or_pos n with rfl | h
    · simp [wd_zero]
    · rw [wd_pos h]; simp; omega
  | k + 1, n => by
    rcases Nat.eq_zero_or_pos n with rfl | h
    · simp [wd_zero, Nat.pow_pos]
    · rw [wd_pos h, Nat.succ_le_succ_iff, wd_le k, Nat.pow_succ, Nat.div_lt_iff_lt_mul (by decide)]
theorem fdiv_nat (n b : Nat) : ((n : Int).fdiv (b : Int)) = ((n / b : Nat) : Int) := by
  rw [Int.fdiv_eq_ediv_of_nonneg _ (Int.natCast_nonneg b)]; simp
theorem fmod_nat (n b : Nat) : ((n : Int).fmod (b : Int)) = ((n % b : Nat) : Int) := by
  rw [Int.fmod_eq_emod_of_nonneg _ (Int.natCast_nonneg b)]; simp
theorem vI {x y : Int} {t : Tok} (h : x = y) : some (Value.int x t) = some (Value.int y t) := by rw [h]
theorem width_of_c
  {w : World} {mg mb : Str → Option Value} {me : ExcName → Option Value} {A : Around} {H : Heap} {G : Array GenState} {D : Drawn} {tk : Nat} {O : OsState} {h₀ : Heap} {Q E : Value → Shared → Prop}
  (X : (hd.heap_1 w.params).In h₀) (T : TopH mg mb me h₀) (st : h₀.StaysIn H) (hh : A.handled = none) (hdp : A.depth + 2 < recursionLimit) (hu : A.units + 9 < cLine)
  {n : Nat} {tn : Tok}
  (post : ∀ h' tk' t, H.StaysIn h' → Q (.int (wd n : Int) t) ⟨h', G, D, tk', O⟩) :
  wpAny (model PR w) A (call (.ref 111) [.int (n : Int) tn]) Q E ⟨H, G, D, tk, O⟩ := by
  with_reducible refine' enterP X T st [(Str.ofString "number", .int (n : Int) tn)] ?ho ?cd ?room ?bd ?lo ?ce ?co ?ge ?k ?_
  case ho => k_is
  case cd => k_is
  case room => omega
  case bd => exact BindsTo.of_eq rfl
  case lo => exact rfl
  case ce => decide
  case co => exact rfl
  case ge => exact rfl
  case k => exact rfl
  clear X T
  intro L h tk X T F N
  iterate 3 walk_at "S"
  with_reducible refine' stR F N ?_ ?_ ?_ ?_
  · exact rfl
  · exact rfl
  · exact rfl
  clear F N; intro h tk F N
  try (with_reducible refine' Seal.next ?K ?_; case K => with_reducible assumption)
  walk_at "S"
  refine whileR PassesOwn.never F N (fun j m led => ∃ t u a, m (Str.ofString "width") = some (.int ((a : Nat) : Int) t) ∧ m (Str.ofString "number") = some (.int ((j : Nat) : Int) u) ∧ a + wd j = wd n ∧ led = []) n ⟨_, _, 0, rfl, rfl, by omega, rfl⟩ ?_
  clear F N
  rintro j m led h tk ⟨t, u, a, h1, h2, h3, rfl⟩ F N
  repeat walk_at "S"
  refine iteB (fun hc => ?_) (fun hc => ?_)
  · repeat walk_at "S"
    with_reducible refine' stR F N ?_ ?_ ?_ ?_
    · exact rfl
    · exact rfl
    · exact rfl
    clear F N; intro h tk F N
    try (with_reducible refine' Seal.next ?K ?_; case K => with_reducible assumption)
    repeat walk_at "S"
    refine divI (by decide) (by decide) ?_; intro _ _
    with_reducible refine' stR F N ?_ ?_ ?_ ?_
    · exact rfl
    · exact rfl
    · exact rfl
    clear F N; intro h tk F N
    try (with_reducible refine' Seal.next ?K ?_; case K => with_reducible assumption)
    repeat walk_at "S"
    have hj : 0 < j := by omega
    refine wNext (k := j / 256) F N (by omega) ⟨_, _, a + 1, rfl, vI (fdiv_nat j 256), by rw [wd_pos hj] at h3; omega, rfl⟩
  · repeat walk_at "S"
    have hj : j = 0 := by omega
    subst hj
    rw [wd_zero, Nat.add_zero] at h3
    subst h3
    repeat (first | (with_reducible refine' Seal.ret ?K ?_; case K => with_reducible assumption) | with_reducible refine turnRet ?_)
    exact post _ _ _ F.keep
/-- way, one, two -/
abbrev E3 := Nat × Int × Int
def wayS : Nat → Str
  | 0 => Str.ofString "free"
  | 1 => Str.ofString "used"
  | _ => Str.ofString "packed"
theorem wayS_used : ∀ k : Nat, wayS k = Str.ofString "used" ↔ k = 1
  | 0 => by constructor <;> intro h <;> revert h <;> decide
  | 1 => by simp [wayS]
  | k + 2 => by constructor <;> intro h <;> revert h <;> simp [wayS] <;> decide
def EntR (l : Ls) (v : Value) (e : E3) : Prop := ∃ tw t1 t2, IsEnt l v (.str (wayS e.1) tw) (.int e.2.1 t1) (.int e.2.2 t2)
theorem EntR.sub {l l' : Ls} {v : Value} {e : E3} (x : EntR l v e) (k : ∀ p ∈ l, p ∈ l') : EntR l' v e := by
  obtain ⟨tw, t1, t2, i⟩ := x
  exact ⟨tw, t1, t2, i.sub k⟩
inductive A2 {α β : Type} (R : α → β → Prop) : List α → List β → Prop
  | nil : A2 R [] []
  | cons {a b l m} : R a b → A2 R l m → A2 R (a :: l) (b :: m)
theorem A2.len {α β : Type} {R : α → β → Prop} {l : List α} {m : List β} (x : A2 R l m) : l.length = m.length := by
  induction x with
  | nil => rfl
  | cons _ _ ih => simp [ih]
theorem A2.get {α β : Type} {R : α → β → Prop} {l : List α} {m : List β} (x : A2 R l m) : ∀ {i : Nat} {a : α}, l[i]? = some a → ∃ b, m[i]? = some b ∧ R a b := by
  induction x with
  | nil => intro i a h; simp at h
  | cons r _ ih =>
    intro i a h
    cases i with
    | zero => simp at h; subst h; exact ⟨_, rfl, r⟩
    | succ i => simpa using ih (by simpa using h)
theorem A2.snoc {α β : Type} {R : α → β → Prop} {l : List α} {m : List β} {a : α} {b : β} (x : A2 R l m) (r : R a b) : A2 R (l ++ [a]) (m ++ [b]) := by
  induction x with
  | nil => exact .cons r .nil
  | cons r' _ ih => exact .cons r' ih
theorem A2.mono {α β : Type} {R S : α → β → Prop} {l : List α} {m : List β} (x : A2 R l m) (k : ∀ a b, R a b → S a b) : A2 S l m := by
  induction x with
  | nil => exact .nil
  | cons r _ ih => exact .cons (k _ _ r) ih
/-- the entries of a dict -/
abbrev KE (l : Ls) (p : Int × Value) (q : Int × E3) : Prop := p.1 = q.1 ∧ EntR l p.2 q.2
def wStep (a : Nat × Nat × Nat) (p : Int × E3) : Nat × Nat × Nat := (if p.2.1 = 1 then a.1 else 1, max a.2.1 (wd p.2.2.1.toNat), max a.2.2 (wd p.2.2.2.toNat))
def wsOf (tab : List (Int × E3)) : Nat × Nat × Nat := tab.foldl wStep (0, 1, 0)
theorem wsOf_snoc (tab : List (Int × E3)) (p : Int × E3) : wsOf (tab ++ [p]) = wStep (wsOf tab) p := by simp [wsOf]
theorem widths_of_c
  {w : World} {mg mb : Str → Option Value} {me : ExcName → Option Value} {A : Around} {H : Heap} {G : Array GenState} {D : Drawn} {tk : Nat} {O : OsState} {h₀ : Heap} {Q E : Value → Shared → Prop}
  (X : (hd.heap_1 w.params).In h₀) (T : TopH mg mb me h₀) (st : h₀.StaysIn H) (hh : A.handled = none) (hdp : A.depth + 4 < recursionLimit) (hu : A.units + 40 < cLine)
  {d : Addr} {kvs : List (Int × Value)} {tab : List (Int × E3)} {l : Ls} (hm : H.DictOf (intKind PR w) d kvs) (hd3 : 3 < d) (hl : Has w H l) (hr : A2 (KE l) kvs tab) (hn : ∀ p ∈ tab, 0 ≤ p.2.2.1 ∧ 0 ≤ p.2.2.2)
  (post : ∀ h' tk' a t1 t2 t3, H.StaysIn h' → New w H h' [(a, .tup [.int ((wsOf tab).1 : Int) t1, .int ((wsOf tab).2.1 : Int) t2, .int ((wsOf tab).2.2 : Int) t3])] → Q (.ref a) ⟨h', G, D, tk', O⟩) :
  wpAny (model PR w) A (call (.ref 118) [.ref d]) Q E ⟨H, G, D, tk, O⟩ := by
  obtain ⟨ep, hm⟩ := Heap.DictOf.dictAt hm
  with_reducible refine' enterP X T st [(Str.ofString "entries", .ref d)] ?ho ?cd ?room ?bd ?lo ?ce ?co ?ge ?k ?_
  case ho => k_is
  case cd => k_is
  case room => omega
  case bd => exact BindsTo.of_eq rfl
  case lo => exact rfl
  case ce => decide
  case co => exact rfl
  case ge => exact rfl
  case k => exact rfl
  clear X T
  intro L h tk X T F N
  iterate 3 walk_at "S"
  with_reducible refine' stR F N ?_ ?_ ?_ ?_
  · exact rfl
  · exact rfl
  · exact rfl
  clear F N; intro h tk F N
  try (with_reducible refine' Seal.next ?K ?_; case K => with_reducible assumption)
  iterate 3 walk_at "S"
  with_reducible refine' stR F N ?_ ?_ ?_ ?_
  · exact rfl
  · exact rfl
  · exact rfl
  clear F N; intro h tk F N
  try (with_reducible refine' Seal.next ?K ?_; case K => with_reducible assumption)
  iterate 3 walk_at "S"
  with_reducible refine' stR F N ?_ ?_ ?_ ?_
  · exact rfl
  · exact rfl
  · exact rfl
  clear F N; intro h tk F N
  try (with_reducible refine' Seal.next ?K ?_; case K => with_reducible assumption)
  iterate 3 walk_at "S"
  have at_ : ∀ {h' : Heap}, H.StaysIn h' → h'.DictAt (intKind PR w) d kvs ep := fun k => at_of (r := .dce kvs ep) hm fun _ e => k _ _ e
  have hmF := at_ F.keep
  with_reducible refine' forDict ?hh ?hx ?hp ?hE ?hL F N hd3 hmF (fun i m led => (∃ t1 t2 t3, m (Str.ofString "first") = some (.int ((wsOf (tab.take i)).1 : Int) t1) ∧ m (Str.ofString "second") = some (.int ((wsOf (tab.take i)).2.1 : Int) t2) ∧ m (Str.ofString "third") = some (.int ((wsOf (tab.take i)).2.2 : Int) t3)) ∧ m (Str.ofString "entries") = some (.ref d) ∧ led = []) ?hJ ?hC ?turn ?done
  case hh => exact hh
  case hx => exact rfl
  case hp => exact rfl
  case hE => first | exact PassesOwn.never | exact passE1 (Around.frames_deeper hfr) rfl
  case hL => exact rfl
  case hJ => exact ⟨⟨_, _, _, rfl, rfl, rfl⟩, rfl, rfl⟩
  case hC => exact fun _ _ _ _ _ F _ => at_ F.keep
  case turn =>
    clear F N
    rintro I i k v t m₁ led₁ oI h tk hb ⟨⟨t1, t2, t3, h1, h2, h3⟩, h4, rfl⟩ F N
    obtain ⟨⟨k', e⟩, hq, hk, tw, u1, u2, hE⟩ := hr.get hb
    cases hk
    obtain ⟨n1, n2⟩ := hn _ (List.mem_of_getElem? hq)
    repeat walk_at "S"
    refine dItem (kvs := kvs) ((at_ F.keep).dictOf) (valueAt_of_get ((at_ F.keep).nodup) hb) (fun _ => ?_) rfl
    with_reducible refine' stR F N ?_ ?_ ?_ ?_
    · exact rfl
    · exact rfl
    · exact rfl
    clear F N; intro h tk F N
    try (with_reducible refine' Seal.next ?K ?_; case K => with_reducible assumption)
    repeat walk_at "S"
    refine getWay F X (hl.keeps F.keep) hE rfl fun _ => ?_
    repeat walk_at "S"
    have key := wsOf_snoc (tab.take i) (k, e)
    rw [← take_snoc hq] at key
    refine iteB (fun hc => ?pos) (fun hc => ?neg)
    case' pos =>
      have e1 : e.1 ≠ 1 := fun z => hc (by rw [z]; rfl)
      have k1 : (1 : Int) = ((wsOf (tab.take (i + 1))).1 : Int) := by rw [key]; simp [wStep, e1]
      repeat walk_at "S"
      with_reducible refine' stR F N ?_ ?_ ?_ ?_
      · exact rfl
      · exact rfl
      · exact rfl
      clear F N; intro h tk F N
      try (with_reducible refine' Seal.next ?K ?_; case K => with_reducible assumption)
      repeat walk_at "S"
    case' neg =>
      have e1 : e.1 = 1 := (wayS_used _).mp (by simpa using hc)
      have k1 : ((wsOf (tab.take i)).1 : Int) = ((wsOf (tab.take (i + 1))).1 : Int) := by rw [key]; simp [wStep, e1]
      repeat walk_at "S"
    all_goals
      refine getOne F X (hl.keeps F.keep) hE rfl fun _ => ?_
      repeat walk_at "S"
      rw [← Int.toNat_of_nonneg n1]
      refine ⟨X.keeps F.keep, ?_⟩
      refine width_of_c X T F.keep (by show A.handled = _; exact hh) (by show A.depth + _ + _ < _; omega) (by show A.units + 3 + _ < _; omega) fun h tk t st' => ?_
      replace F := fr_stays F st'
      replace N := N.stays st'
      clear st'
      repeat walk_at "S"
      refine maxI hh F N fun h tk t F N => ?_
      with_reducible refine' stR F N ?_ ?_ ?_ ?_
      · exact rfl
      · exact rfl
      · exact rfl
      clear F N; intro h tk F N
      try (with_reducible refine' Seal.next ?K ?_; case K => with_reducible assumption)
      repeat walk_at "S"
      refine getTwo F X (hl.keeps F.keep) hE rfl fun _ => ?_
      repeat walk_at "S"
      rw [← Int.toNat_of_nonneg n2]
      refine ⟨X.keeps F.keep, ?_⟩
      refine width_of_c X T F.keep (by show A.handled = _; exact hh) (by show A.depth + _ + _ < _; omega) (by show A.units + 3 + _ < _; omega) fun h tk t st' => ?_
      replace F := fr_stays F st'
      replace N := N.stays st'
      clear st'
      repeat walk_at "S"
      refine maxI hh F N fun h tk t F N => ?_
      with_reducible refine' stR F N ?_ ?_ ?_ ?_
      · exact rfl
      · exact rfl
      · exact rfl
      clear F N; intro h tk F N
      try (with_reducible refine' Seal.next ?K ?_; case K => with_reducible assumption)
      repeat walk_at "S"
      refine turnNext [] F N ⟨⟨_, _, _, (by first | exact vI k1 | exact h1.trans (vI k1)), vI ?_, vI ?_⟩, h4, rfl⟩
      · rw [key]; simp [wStep]; omega
      · rw [key]; simp [wStep]; omega
  case done =>
    clear F N
    rintro m₁ led₁ h tk ⟨⟨t1, t2, t3, h1, h2, h3⟩, h4, rfl⟩ F N
    try dsimp only
    rw [hr.len, List.take_length] at h1 h2 h3
    repeat walk_at "S"
    with_reducible refine newTupleR F N ?_ fun a h' F N => ?_
    · rw [sizeLine_eq]; exact Nat.le_of_ble_eq_true rfl
    repeat (first | (with_reducible refine' Seal.ret ?K ?_; case K => with_reducible assumption) | with_reducible refine turnRet ?_)
    exact post _ _ _ _ _ _ F.keep (Led.new N)
set_option linter.unusedVariables false
section
variable {M : Model} {w : World} {A : Around} {E : Value → Shared → Prop} {s : Shared} {h : Heap} {G : Array GenState} {D : Drawn} {O : OsState} {env : Env} {g : Heap} {L : Addr} {m : Str → Option Value} {led : Ls} {st : Stmt} {rest : List Stmt} {Q : Flow → Shared → Prop}
theorem turnRet {I : Addr} {oI : Obj} {J' : (Str → Option Value) → Ls → Prop} {v : Value} (x : Q (.ret v) s) : TurnEnd w g L I oI J' G D O Q (.ret v) s := x
/-- two ways through a statement, joined behind it -/
theorem execsJoin (J : Shared → Prop) (a : ∀ Q', Seal J Q Q' → wpAny M A (exec st env) Q' E s) (k : ∀ s', J s' → wpAny M A (execs rest env) Q E s') : wpAny M A (execs (st :: rest) env) Q E s :=
  wpAny_execs_cons (a _ ⟨fun s' x => k s' x, fun f _ n x => by cases f <;> first | exact absurd rfl n | exact x⟩)
theorem joinK (h : Heap) (G : Array GenState) (D : Drawn) (O : OsState) (P : Prop) (a : ∀ Q', Seal (fun s' => ∃ tk', s' = ⟨h, G, D, tk', O⟩ ∧ P) Q Q' → wpAny M A (exec st env) Q' E s) (k : ∀ tk, P → wpAny M A (execs rest env) Q E ⟨h, G, D, tk, O⟩) : wpAny M A (execs (st :: rest) env) Q E s :=
  execsJoin _ a (by rintro _ ⟨tk', rfl, p⟩; exact k tk' p)
theorem joinSt (G : Array GenState) (D : Drawn) (O : OsState) (F : Fr g L h m) (N : Led w g L h led) (x : Str) (P : Value → Prop)
    (a : ∀ Q', Seal (fun s' => ∃ h' tk' v, s' = ⟨h', G, D, tk', O⟩ ∧ P v ∧ Fr g L h' (fun y => if y = x then some v else m y) ∧ Led w g L h' led) Q Q' → wpAny M A (exec st env) Q' E s)
    (k : ∀ h' tk v, P v → Fr g L h' (fun y => if y = x then some v else m y) → Led w g L h' led → wpAny M A (execs rest env) Q E ⟨h', G, D, tk, O⟩) : wpAny M A (execs (st :: rest) env) Q E s :=
  execsJoin _ a (by rintro _ ⟨h', tk', v, rfl, p, F, N⟩; exact k h' tk' v p F N)
theorem joinLd (w : World) (G : Array GenState) (D : Drawn) (O : OsState) (F : Fr g L h m) (P : Ls → Prop)
    (a : ∀ Q', Seal (fun s' => ∃ h' tk' led', s' = ⟨h', G, D, tk', O⟩ ∧ P led' ∧ Fr g L h' m ∧ Led w g L h' led') Q Q' → wpAny M A (exec st env) Q' E s)
    (k : ∀ h' tk led', P led' → Fr g L h' m → Led w g L h' led' → wpAny M A (execs rest env) Q E ⟨h', G, D, tk, O⟩) : wpAny M A (execs (st :: rest) env) Q E s :=
  execsJoin _ a (by rintro _ ⟨h', tk', led', rfl, p, F, N⟩; exact k h' tk' led' p F N)
end
abbrev IV (v : Value) (n : Int) : Prop := ∃ t, v = .int n t
/-- three widths, or any list or tuple of ints -/
def Nums (h : Heap) (v : Value) (ns : List Int) : Prop := ∃ a vs, v = .ref a ∧ A2 IV vs ns ∧ (h.IsList a vs.toArray ∨ IsTup h a vs.toArray)
theorem Nums.keeps {h h' : Heap} {v : Value} {ns : List Int} (x : Nums h v ns) (k : h.StaysIn h') : Nums h' v ns := by
  obtain ⟨a, vs, e, r, q⟩ := x
  refine ⟨a, vs, e, r, q.imp (fun y => ?_) fun y => ?_⟩
  · obtain ⟨o, ho, z⟩ := y; exact ⟨o, k _ _ ho, z⟩
  · obtain ⟨o, ho, z⟩ := y; exact ⟨o, k _ _ ho, z⟩
theorem A2.get' {α β : Type} {R : α → β → Prop} {l : List α} {m : List β} (x : A2 R l m) : ∀ {i : Nat} {b : β}, m[i]? = some b → ∃ a, l[i]? = some a ∧ R a b := by
  induction x with
  | nil => intro i a h; simp at h
  | cons r _ ih =>
    intro i a h
    cases i with
    | zero => simp at h; subst h; exact ⟨_, rfl, r⟩
    | succ i => simpa using ih (by simpa using h)
section
variable {w : World} {A : Around} {E : Value → Shared → Prop} {h : Heap} {G : Array GenState} {D : Drawn} {tk : Nat} {O : OsState} {value slice : Expr} {k : Int} {t : Tok} {v : Value} {n : Int} {ns : List Int} {Q : Value → Shared → Prop}
theorem nItem (x : Nums h v ns) (h0 : 0 ≤ k) (hhi : k < 2 ^ 63) (hx : ns[k.toNat]? = some n) (hq : ∀ u, Q (.int n u) ⟨h, G, D, tk, O⟩)
    (hs : ∀ a, subscripted slice false (.ref a) (.int k t) = operate [.ref a, .int k t] (getItem (.ref a) (.int k t))) :
    wpAny (model PR w) A (subscriptTail value slice v (.int k t)) Q E ⟨h, G, D, tk, O⟩ := by
  obtain ⟨a, vs, rfl, r, q⟩ := x
  obtain ⟨u, hu, t', rfl⟩ := r.get' hx
  rcases q with q | q
  · exact lItem q h0 hhi hu (hq _) (hs a)
  · exact tItem q h0 hhi hu (hq _) (hs a)
end
section
variable {w : World} {A : Around} {E : Value → Shared → Prop} {s : Shared} {env : Env} {Q : Value → Shared → Prop}
theorem partN (hq : Q .none s) : wpAny (model PR w) A (evalPart none env) Q E s := wpAny_pure hq
theorem partS {e : Expr} (hq : wpAny (model PR w) A (eval e env) Q E s) : wpAny (model PR w) A (evalPart (some e) env) Q E s := hq
end
local macro_rules | `(tactic| walk_at "S") => `(tactic| first
  | ((with_reducible show wpAny _ _ (eval (Expr.Slice _ _ _ _) _) _ _ _); with_reducible refine wpAny_Slice ?_)
  | with_reducible refine partN ?_
  | with_reducible refine partS ?_)
theorem waysT {w : World} {h : Heap} (X : (hd.heap_1 w.params).In h) : IsTup h 90 [.str (wayS 0) 298, .str (wayS 1) 299, .str (wayS 2) 300].toArray := ⟨_, X _ _ (by k_is), rfl, _, rfl⟩
def rowE (row : List UInt8) (w0 w1 : Nat) : Option E3 :=
  let way := if 0 < w0 then beN (row.take w0) else 1
  if way < 3 then some (way, (beN ((row.drop w0).take w1) : Int), (beN (row.drop (w0 + w1)) : Int)) else none
theorem New.back {w : World} {g h h' : Heap} {l : Ls} (x : New w h h' l) (k : g.StaysIn h) : New w g h' l := ⟨fun p hp => ⟨(x.N p hp).1, (x.N p hp).2.1, by
  cases e : g.get? p.1 with
  | none => rfl
  | some o => have := (x.N p hp).2.2; rw [k _ _ e] at this; cases this⟩, x.D⟩
theorem cutB_some (b : Array UInt8) (i j : Nat) : cutB b (some (i : Int)) (some ((i : Int) + j)) = (b.toList.drop i).take j := by
  unfold cutB
  show (b.toList.drop ((i : Int).toNat)).take (((i : Int) + j).toNat - (i : Int).toNat) = _
  rw [show ((i : Int) + j).toNat - (i : Int).toNat = j by omega, Int.toNat_natCast]
theorem cutB_none (b : Array UInt8) (i j : Nat) : cutB b (some ((i : Int) + j)) none = b.toList.drop (i + j) := by
  unfold cutB
  show (b.toList.drop (((i : Int) + j).toNat)).take (b.size - ((i : Int) + j).toNat) = _
  rw [show ((i : Int) + j).toNat = i + j by omega]
  exact List.take_of_length_le (by simp)
theorem row_entry_c
  {w : World} {mg mb : Str → Option Value} {me : ExcName → Option Value} {A : Around} {H : Heap} {G : Array GenState} {D : Drawn} {tk : Nat} {O : OsState} {h₀ : Heap} {Q E : Value → Shared → Prop}
  (X : (hd.heap_1 w.params).In h₀) (T : TopH mg mb me h₀) (st : h₀.StaysIn H) (hh : A.handled = none) (hdp : A.depth + 14 < recursionLimit) (hu : A.units + 40 < cLine)
  {b : Array UInt8} {tb : Tok} {v : Value} {w0 w1 w2 : Nat} (hv : Nums H v [(w0 : Int), (w1 : Int), (w2 : Int)]) (hw : w0 + w1 < 2 ^ 60) (hz : b.size ≤ 16777216)
  (post0 : ∀ h' tk', H.StaysIn h' → rowE b.toList w0 w1 = none → Q .none ⟨h', G, D, tk', O⟩)
  (post1 : ∀ h' tk' x e l, H.StaysIn h' → New w H h' l → rowE b.toList w0 w1 = some e → EntR l (.ref x) e → Q (.ref x) ⟨h', G, D, tk', O⟩) :
  wpAny (model PR w) A (call (.ref 125) [.bytes b tb, v]) Q E ⟨H, G, D, tk, O⟩ := by
  with_reducible refine' enterP X T st [(Str.ofString "row", .bytes b tb), (Str.ofString "widths", v)] ?ho ?cd ?room ?bd ?lo ?ce ?co ?ge ?k ?_
  case ho => k_is
  case cd => k_is
  case room => omega
  case bd => exact BindsTo.of_eq rfl
  case lo => exact rfl
  case ce => decide
  case co => exact rfl
  case ge => exact rfl
  case k => exact rfl
  clear X T
  intro L h tk X T F N
  repeat walk_at "S"
  refine nItem (hv.keeps F.keep) (by decide) (by decide) rfl (fun _ => ?_) (fun _ => rfl)
  with_reducible refine' stR F N ?_ ?_ ?_ ?_
  · exact rfl
  · exact rfl
  · exact rfl
  clear F N; intro h tk F N
  try (with_reducible refine' Seal.next ?K ?_; case K => with_reducible assumption)
  refine joinSt G D O F N (Str.ofString "way") (fun v => ∃ (y : Nat) (t : Tok), v = .int (y : Int) t ∧ (if 0 < w0 then beN (b.toList.take w0) else 1) = y) ?_ ?_
  · intro Qs Ks
    repeat walk_at "S"
    refine iteB (fun hc => ?pos) (fun hc => ?neg)
    case' pos =>
      repeat walk_at "S"
      refine sliceB F N .none (.int _ _) (by intro i q; cases q) (by intro i q; cases q; omega) hz (fun h t tk F N => ?_) rfl (fun _ => rfl)
      repeat walk_at "S"
      refine ⟨X.keeps F.keep, ?_⟩
      refine field_c X T F.keep (by show A.handled = _; exact hh) (by show A.depth + _ + _ < _; omega) (by show A.units + 3 + _ < _; omega) fun h tk t st' => ?_
      replace F := fr_stays F st'
      replace N := N.stays st'
      clear st'
      repeat walk_at "S"
      with_reducible refine' stR F N ?_ ?_ ?_ ?_
      · exact rfl
      · exact rfl
      · exact rfl
      clear F N; intro h tk F N
      try (with_reducible refine' Seal.next ?K ?_; case K => with_reducible assumption)
      exact ⟨_, _, _, rfl, ⟨_, _, rfl, by rw [if_pos (by omega)]; simp [cutB]⟩, F, N⟩
    case' neg =>
      repeat walk_at "S"
      with_reducible refine' stR F N ?_ ?_ ?_ ?_
      · exact rfl
      · exact rfl
      · exact rfl
      clear F N; intro h tk F N
      try (with_reducible refine' Seal.next ?K ?_; case K => with_reducible assumption)
      exact ⟨_, _, _, rfl, ⟨1, _, rfl, by rw [if_neg (by omega)]⟩, F, N⟩
  clear F N
  rintro h tk _ ⟨y, t, rfl, hw'⟩ F N
  repeat walk_at "S"
  refine lenT (waysT (X.keeps F.keep)) (by decide) fun _ _ => ?_
  repeat walk_at "S"
  refine iteB (fun hc => ?_) (fun hc => ?_)
  · repeat walk_at "S"
    repeat (first | (with_reducible refine' Seal.ret ?K ?_; case K => with_reducible assumption) | with_reducible refine turnRet ?_)
    refine post0 _ _ F.keep ?_
    have h3 : ¬ y < 3 := by have : (y : Int) ≥ 3 := hc; omega
    unfold rowE
    rw [hw']
    simp [h3]
  · have h3 : y < 3 := by have : ¬ (y : Int) ≥ 3 := hc; omega
    repeat walk_at "S"
    have hget : [Value.str (wayS 0) 298, Value.str (wayS 1) 299, Value.str (wayS 2) 300][((y : Int)).toNat]? = some (.str (wayS y) (298 + y)) := by
      rw [Int.toNat_natCast]
      rcases (by omega : y = 0 ∨ y = 1 ∨ y = 2) with rfl | rfl | rfl <;> rfl
    refine tItem (waysT (X.keeps F.keep)) (by omega) (by omega) hget ?_ rfl
    repeat walk_at "S"
    refine nItem (hv.keeps F.keep) (by decide) (by decide) rfl (fun _ => ?_) (fun _ => rfl)
    repeat walk_at "S"
    refine sliceB F N (.int _ _) (.int _ _) (by intro i q; cases q; omega) (by intro i q; cases q; omega) hz (fun h t tk F N => ?_) rfl (fun _ => rfl)
    repeat walk_at "S"
    refine ⟨X.keeps F.keep, ?_⟩
    refine field_c X T F.keep (by show A.handled = _; exact hh) (by show A.depth + _ + _ < _; omega) (by show A.units + 3 + _ < _; omega) fun h tk t st' => ?_
    replace F := fr_stays F st'
    replace N := N.stays st'
    clear st'
    repeat walk_at "S"
    refine nItem (hv.keeps F.keep) (by decide) (by decide) rfl (fun _ => ?_) (fun _ => rfl)
    repeat walk_at "S"
    refine sliceB F N (.int _ _) .none (by intro i q; cases q; omega) (by intro i q; cases q) hz (fun h t tk F N => ?_) rfl (fun _ => rfl)
    repeat walk_at "S"
    refine ⟨X.keeps F.keep, ?_⟩
    refine field_c X T F.keep (by show A.handled = _; exact hh) (by show A.depth + _ + _ < _; omega) (by show A.units + 3 + _ < _; omega) fun h tk t st' => ?_
    replace F := fr_stays F st'
    replace N := N.stays st'
    clear st'
    repeat walk_at "S"
    refine ⟨X.keeps F.keep, ?_⟩
    refine entry_c X T F.keep (by show A.handled = _; exact hh) (by show A.depth + _ + _ < _; omega) (by show A.units + 3 + _ < _; omega) ?_
    intro h' tk' x d es n st' N' I
    repeat (first | (with_reducible refine' Seal.ret ?K ?_; case K => with_reducible assumption) | with_reducible refine turnRet ?_)
    refine post1 _ _ _ (y, (beN (cutB b (some (w0 : Int)) (some ((w0 : Int) + w1))).toArray.toList : Int), (beN (cutB b (some ((w0 : Int) + w1)) none).toArray.toList : Int)) _ (fun b o e => st' _ _ (F.keep _ _ e)) (N'.back F.keep) ?_ ⟨_, _, _, I⟩
    unfold rowE
    rw [hw']
    simp only [h3, if_true, List.toList_toArray]
    rw [cutB_some, cutB_none]
set_option linter.unusedVariables false
theorem sysm {d : Addr} (h : 3 < d) : (d == sysModules) = false := beq_false_of_ne (fun e => absurd (e ▸ h : 3 < sysModules) (by decide))
theorem valueAt_isSome (kvs : List (Int × Value)) (k : Int) : (valueAt kvs k).isSome = decide (k ∈ kvs.map (·.1)) := by
  unfold valueAt
  rw [Option.isSome_map]
  induction kvs with
  | nil => rfl
  | cons p r ih =>
    by_cases e : p.1 = k
    · simp [List.find?_cons, e]
    · simp only [List.find?_cons, decide_eq_true_eq]
      have e' : ¬ k = p.1 := fun q => e q.symm
      simp only [e, decide_false, List.map_cons, List.mem_cons, e', false_or]
      exact ih
theorem stored_new {kvs : List (Int × Value)} {k : Int} {v : Value} (h : k ∉ kvs.map (·.1)) : stored kvs k v = kvs ++ [(k, v)] := by
  unfold stored
  rw [if_neg]
  simp only [List.any_eq_true, not_exists, not_and, decide_eq_true_eq]
  intro p hp e
  exact h (List.mem_map.mpr ⟨p, hp, e⟩)
section
variable {w : World} {A : Around} {E : Value → Shared → Prop} {h : Heap} {G : Array GenState} {D : Drawn} {tk : Nat} {O : OsState} {g : Heap} {L : Addr} {m : Str → Option Value} {led pre post : Ls} {d : Addr} {k a b c : Int} {t u tv : Tok} {v : Value} {kvs : List (Int × Value)}
theorem dIn {Q : Value → Shared → Prop} (hd3 : 3 < d) (hm : h.DictOf (intKind PR w) d kvs) (hq : ∀ tk', Q (.bool (decide (k ∈ kvs.map (·.1)))) ⟨h, G, D, tk', O⟩) :
    wpAny (model PR w) A (compareOp .In (.int k t) (.ref d)) Q E ⟨h, G, D, tk, O⟩ :=
  wpAny_in_of (knd := intKind PR w) (intKind_is _ _ _ _) (sysm hd3) hm.mapOf (by rw [valueAt_isSome]; exact hq _)
theorem dSet {Q : Unit → Shared → Prop} (F : Fr g L h m) (N : Led w g L h (pre ++ (d, .dct kvs) :: post)) (hz : kvs.length ≤ 16777216)
    (hq : ∀ h' tk', Fr g L h' m → Led w g L h' (pre ++ (d, .dct (stored kvs k v)) :: post) → Q () ⟨h', G, D, tk', O⟩) :
    wpAny (model PR w) A (setItem (.ref d) (.int k t) v) Q E ⟨h, G, D, tk, O⟩ := by
  have hm : h.DictOf (intKind PR w) d kvs := N.get (a := d) (r := .dct kvs) (by simp)
  refine wpAny_setItem_pairs (knd := intKind PR w) (intKind_is _ _ _ _) hm (fun h' hm' hs => ?_) (by rw [sizeLine_eq]; exact hz)
  obtain ⟨F', N'⟩ := N.upd (r' := .dct (stored kvs k v)) F hs hm'
  exact hq _ _ F' N'
theorem newDictR {env : Env} {pos : Pos} {Q : Value → Shared → Prop} (F : Fr g L h m) (N : Led w g L h led)
    (hq : ∀ a h', Fr g L h' m → Led w g L h' ((a, .dct []) :: led) → Q (.ref a) ⟨h', G, D, tk, O⟩) :
    wpAny (model PR w) A (eval (.Dict [] [] pos) env) Q E ⟨h, G, D, tk, O⟩ :=
  wpAny_Dict_empty (hq _ _ (fr_push F _) (N.push F (Heap.DictOf.new h)))
theorem rangeR1 {Q : Value → Shared → Prop} (F : Fr g L h m) (N : Led w g L h led)
    (hq : ∀ h' tk' r t u v, Fr g L h' m → Led w g L h' led → IsRange h' r 0 a 1 t u v → Q (.ref r) ⟨h', G, D, tk', O⟩) :
    wpAny (model PR w) A (call (.type "range") [.int a t]) Q E ⟨h, G, D, tk, O⟩ :=
  call_range_1 (hq _ _ _ _ _ _ (fr_push F _) (N.stays (stays_push _ _)) (IsRange.new _ _ _ _ _ _ _))
theorem rangeR2 {Q : Value → Shared → Prop} (F : Fr g L h m) (N : Led w g L h led)
    (hq : ∀ h' tk' r t u v, Fr g L h' m → Led w g L h' led → IsRange h' r a b 1 t u v → Q (.ref r) ⟨h', G, D, tk', O⟩) :
    wpAny (model PR w) A (call (.type "range") [.int a t, .int b u]) Q E ⟨h, G, D, tk, O⟩ :=
  call_range_2 (hq _ _ _ _ _ _ (fr_push F _) (N.stays (stays_push _ _)) (IsRange.new _ _ _ _ _ _ _))
theorem rangeR3 {Q : Value → Shared → Prop} (F : Fr g L h m) (N : Led w g L h led) (hc : c ≠ 0) (hc2 : c.natAbs < 1073741824)
    (hq : ∀ h' tk' r t u v, Fr g L h' m → Led w g L h' led → IsRange h' r a b c t u v → Q (.ref r) ⟨h', G, D, tk', O⟩) :
    wpAny (model PR w) A (call (.type "range") [.int a t, .int b u, .int c tv]) Q E ⟨h, G, D, tk, O⟩ :=
  call_range_3 hc (hq _ _ _ _ _ _ (fr_push F _) (N.stays (stays_push _ _)) (IsRange.new _ _ _ _ _ _ _)) (.inl (PyProof.noPylong_small hc2))
theorem size1 (a : Int) (n : Nat) : Builtin.Range.rangeSize a (a + n) 1 = n := by rw [rangeSize_one]; split <;> omega
theorem size2 (n : Nat) : Builtin.Range.rangeSize 0 (2 * (n : Int)) 2 = n := by
  unfold Builtin.Range.rangeSize
  simp only [show (2 : Int) > 0 by decide, if_true]
  split <;> omega
theorem small2 (n : Nat) (h : n < 2 ^ 60) : Builtin.Range.small 0 (2 * (n : Int)) 2 = true := by
  unfold Builtin.Range.small
  rw [size2]
  unfold Builtin.Range.rangeFitsLong
  generalize hk : (2 : Int) ^ 63 = K
  have hK : K = 9223372036854775808 := by rw [← hk]; rfl
  have hn : n < 1152921504606846976 := h
  clear hk h
  rw [if_pos (by decide : (2 : Int) > 0)]
  simp only [Bool.and_eq_true, Bool.or_eq_true, decide_eq_true_eq]
  exact ⟨⟨⟨⟨⟨by omega, by omega⟩, ⟨by omega, by omega⟩⟩, ⟨by omega, by omega⟩⟩, ⟨by omega, by omega⟩⟩, .inr ⟨by omega, by omega⟩⟩
variable {env : Env} {x : Str} {px : Pos} {body : List Stmt} {r : Addr}
theorem forRange1 {Q : Flow → Shared → Prop} (hh : A.handled = none) (hx : env.kindOf x = some .local) (hp : (env.scope.kind == .class || (env.scope.kind == .module && env.locals != env.globals)) = false)
    (hE : PassesOwn (model PR w) A env E) (hL : env.locals = L) (F : Fr g L h m) (N : Led w g L h led) (n : Nat) (hr : IsRange h r a b 1 t u tv) (hb : b = a + n) (h1 : 0 ≤ a) (h2 : b < 2 ^ 62)
    (J : Nat → (Str → Option Value) → Ls → Prop) (hJ : J 0 m led)
    (turn : ∀ I i t m₁ led₁ oI h tk, i < n → J i m₁ led₁ → Fr g L h (fun y => if y = x then some (.int (a + i) t) else m₁ y) → Led w g L h ((I, .raw oI) :: led₁) →
      wpAny (model PR w) A (execs body env) (TurnEnd w g L I oI (J (i + 1)) G D O Q) E ⟨h, G, D, tk, O⟩)
    (done : ∀ m₁ led₁ h tk, J n m₁ led₁ → Fr g L h m₁ → Led w g L h led₁ → Q .next ⟨h, G, D, tk, O⟩) :
    wpAny (model PR w) A (pyIter (.ref r)) (fun it s₂ => ForAt w A env x px body Q E it s₂) E ⟨h, G, D, tk, O⟩ := by
  subst hb
  refine forRange n (size1 a n) hr (small_one (by omega) (by omega) (by omega) (by omega)) hh hx hp hE hL F N J hJ (fun I i t m₁ led₁ oI h tk hi hJ' F' N' => ?_) done
  rw [Int.mul_one] at F'
  exact turn I i t m₁ led₁ oI h tk hi hJ' F' N'
theorem forRange2 {Q : Flow → Shared → Prop} (hh : A.handled = none) (hx : env.kindOf x = some .local) (hp : (env.scope.kind == .class || (env.scope.kind == .module && env.locals != env.globals)) = false)
    (hE : PassesOwn (model PR w) A env E) (hL : env.locals = L) (F : Fr g L h m) (N : Led w g L h led) (n : Nat) (hr : IsRange h r 0 b 2 t u tv) (hb : b = 2 * (n : Int)) (h2 : n < 2 ^ 60)
    (J : Nat → (Str → Option Value) → Ls → Prop) (hJ : J 0 m led)
    (turn : ∀ I i t m₁ led₁ oI h tk, i < n → J i m₁ led₁ → Fr g L h (fun y => if y = x then some (.int (2 * (i : Int)) t) else m₁ y) → Led w g L h ((I, .raw oI) :: led₁) →
      wpAny (model PR w) A (execs body env) (TurnEnd w g L I oI (J (i + 1)) G D O Q) E ⟨h, G, D, tk, O⟩)
    (done : ∀ m₁ led₁ h tk, J n m₁ led₁ → Fr g L h m₁ → Led w g L h led₁ → Q .next ⟨h, G, D, tk, O⟩) :
    wpAny (model PR w) A (pyIter (.ref r)) (fun it s₂ => ForAt w A env x px body Q E it s₂) E ⟨h, G, D, tk, O⟩ := by
  subst hb
  refine forRange n (size2 n) hr (small2 n h2) hh hx hp hE hL F N J hJ (fun I i t m₁ led₁ oI h tk hi hJ' F' N' => ?_) done
  rw [show (0 : Int) + i * 2 = 2 * (i : Int) by omega] at F'
  exact turn I i t m₁ led₁ oI h tk hi hJ' F' N'
theorem strI {n : Int} {Q : Value → Shared → Prop} (hn : n.natAbs < 2 ^ 70) (hq : ∀ x t tk', x.length ≤ 30 → Q (.str x t) ⟨h, G, D, tk', O⟩) : wpAny (model PR w) A (call (.type "str") [.int n t]) Q E ⟨h, G, D, tk, O⟩ := by
  refine P.str_of_int ?_ (hq _ _ _ ?_)
  · rcases Nat.eq_zero_or_pos n.natAbs with z | z
    · rw [z]; decide
    · exact Nat.lt_trans ((Nat.log2_lt (Nat.pos_iff_ne_zero.mp z)).mpr hn) (by decide)
  · have := int_text_length_le10 (a := n) (k := 22) (by decide) (Nat.lt_trans hn (by decide))
    rw [PySem.ofString_length]; omega
theorem addSt {x y : Str} {Q : Value → Shared → Prop} (hx : x.length ≤ 1000) (hy : y.length ≤ 1000) (hq : ∀ t tk', (x ++ y).length ≤ x.length + y.length → Q (.str (x ++ y) t) ⟨h, G, D, tk', O⟩) : wpAny (model PR w) A (binaryOp .Add (.str x t) (.str y u)) Q E ⟨h, G, D, tk, O⟩ :=
  PyProof.Rows.add_str (fun t tk => hq t tk (by rw [PySem.strLen_append]; exact Nat.le_refl _)) (by rw [sizeLine_eq]; omega)
theorem nLen {ns : List Int} {Q : Value → Shared → Prop} (x : Nums h v ns) (hz : ns.length < 2 ^ 60) (hq : ∀ t tk', Q (.int (ns.length : Int) t) ⟨h, G, D, tk', O⟩) : wpAny (model PR w) A (call (.builtin "len") [v]) Q E ⟨h, G, D, tk, O⟩ := by
  obtain ⟨a, vs, rfl, r, q⟩ := x
  have e := r.len
  rcases q with q | q
  · exact lenL q (by omega) (by rw [e]; exact hq)
  · exact lenT q (by omega) (by rw [e]; exact hq)
theorem nItemJ {value slice : Expr} {ns : List Int} {n : Int} {Q : Value → Shared → Prop} (x : Nums h v ns) {j : Nat} (hx : ns[j]? = some n) (hk : k = j) (hj : j < 2 ^ 60) (hq : ∀ u, Q (.int n u) ⟨h, G, D, tk, O⟩)
    (hs : ∀ a, subscripted slice false (.ref a) (.int k t) = operate [.ref a, .int k t] (getItem (.ref a) (.int k t))) :
    wpAny (model PR w) A (subscriptTail value slice v (.int k t)) Q E ⟨h, G, D, tk, O⟩ := by
  subst hk
  exact nItem x (by omega) (by omega) (by simpa using hx) hq hs
/-- what a raised fault leaves -/
theorem raised {env : Env} {H h' : Heap} {X0 : Heap} {outer : List Env} {P : Int → Prop} {e : Addr} {n : Int} {vs : Array Value} (X : (hd.heap_1 w.params).In X0) (hl : FFr H outer) (F : Fr H L h m) (hX : X0.StaysIn H) (hk : env.scope.kind = .function) (hf : env.frame = some L) (x : Fault h h' e n vs) (h1 : vs[1]? = some .none) (hp : P n) :
    ∃ e' oe vs, Value.ref e = .ref e' ∧ (hd.heap_1 w.params).In (Shared.mk h' G D tk O).heap ∧ (Shared.mk h' G D tk O).heap.get? e' = some oe ∧ oe.cls = .ref 87 ∧ oe.data = .fields vs ∧ vs[1]? = some .none ∧ E1 H env outer P G D O (.ref e') ⟨h', G, D, tk, O⟩ := by
  obtain ⟨oe, ho, hc, hd', _⟩ := x.o
  exact ⟨e, oe, vs, rfl, X.keeps fun b o q => x.keep _ _ (F.keep _ _ (hX _ _ q)), ho, hc, hd', h1, e, n, h', tk, rfl, rfl, thrown_here hl F hk hf x h1, hp⟩
end
set_option linter.unusedVariables false
def put (tab : List (Int × E3)) (n : Int) : Option E3 → List (Int × E3)
  | none => tab
  | some e => tab ++ [(n, e)]
abbrev S3 := Nat × List Int × List (Int × E3)
def rowAt (b : List UInt8) (w0 w1 w2 p : Nat) : Option E3 := rowE ((b.drop p).take (w0 + w1 + w2)) w0 w1
def goRun (b : List UInt8) (w0 w1 w2 : Nat) : Nat → Int → S3 → Except Nat S3
  | 0, _, s => .ok s
  | k + 1, n, s => if n ∈ s.2.1 then .error s.1 else goRun b w0 w1 w2 k (n + 1) (s.1 + (w0 + w1 + w2), s.2.1 ++ [n], put s.2.2 n (rowAt b w0 w1 w2 s.1))
def goRuns (b : List UInt8) (w0 w1 w2 : Nat) : List (Nat × Nat) → S3 → Except Nat S3
  | [], s => .ok s
  | p :: r, s => if s.1 + (w0 + w1 + w2) * p.2 > b.length ∨ (w0 + w1 + w2 = 0 ∧ p.2 > 0) then .error s.1 else
    match goRun b w0 w1 w2 p.2 p.1 s with
    | .error e => .error e
    | .ok s' => goRuns b w0 w1 w2 r s'
def given (b : List UInt8) (w0 w1 w2 : Nat) (ps : List (Nat × Nat)) : Except Nat S3 := goRuns b w0 w1 w2 ps (0, [], [])
def flat (ps : List (Nat × Nat)) : List Int := ps.flatMap fun p => [(p.1 : Int), (p.2 : Int)]
theorem flat_len (ps : List (Nat × Nat)) : (flat ps).length = 2 * ps.length := by
  induction ps with
  | nil => rfl
  | cons p r ih => simp only [flat, List.flatMap_cons, List.length_append, List.length_cons, List.length_nil] at ih ⊢; omega
theorem flat_get {ps : List (Nat × Nat)} : ∀ {i : Nat} {p : Nat × Nat}, ps[i]? = some p → (flat ps)[2 * i]? = some (p.1 : Int) ∧ (flat ps)[2 * i + 1]? = some (p.2 : Int) := by
  induction ps with
  | nil => intro i p h; simp at h
  | cons q r ih =>
    intro i p h
    have e : flat (q :: r) = (q.1 : Int) :: (q.2 : Int) :: flat r := rfl
    cases i with
    | zero => simp at h; subst h; exact ⟨rfl, rfl⟩
    | succ i =>
      have := ih (by simpa using h)
      rw [e, show 2 * (i + 1) = 2 * i + 2 by omega]
      exact this
theorem put_keys {tab : List (Int × E3)} {n : Int} {o : Option E3} {kn : List Int} (h : ∀ p ∈ tab, p.1 ∈ kn) : ∀ p ∈ put tab n o, p.1 ∈ kn ++ [n] := by
  cases o with
  | none => exact fun p hp => List.mem_append_left _ (h p hp)
  | some e =>
    intro p hp
    rcases List.mem_append.mp hp with q | q
    · exact List.mem_append_left _ (h p q)
    · rw [List.mem_singleton.mp q]; simp
theorem A2.fst {l : Ls} {kvs : List (Int × Value)} {tab : List (Int × E3)} (x : A2 (KE l) kvs tab) : kvs.map (·.1) = tab.map (·.1) := by
  induction x with
  | nil => rfl
  | cons r _ ih => simp only [List.map_cons, ih, r.1]
theorem A2.put {l l' : Ls} {kvs : List (Int × Value)} {tab : List (Int × E3)} {n : Int} {e : E3} {x : Value} (hx : A2 (KE l) kvs tab) (he : EntR l' x e) (h1 : ∀ p ∈ l, p ∈ l') : A2 (KE l') (kvs ++ [(n, x)]) (tab ++ [(n, e)]) :=
  (hx.mono fun _ _ r => ⟨r.1, r.2.sub h1⟩).snoc ⟨rfl, he⟩
abbrev sN (x : String) : Str := Str.ofString x
inductive EInv (b : Array UInt8) (tb : Tok) (v u : Value) (dE dK : Addr) (z : Nat) (m : Str → Option Value) (led : Ls) (s : S3) (cap : Nat) : Prop
  | mk (kE : List (Int × Value)) (kK : List (Int × Value)) (l : Ls) (ts : Tok) (ta : Tok)
    (x1 : m (Str.ofString "octets") = some (.bytes b tb))
    (x2 : m (Str.ofString "widths") = some v)
    (x3 : m (Str.ofString "runs") = some u)
    (x4 : m (Str.ofString "entries") = some (.ref dE))
    (x5 : m (Str.ofString "known") = some (.ref dK))
    (x6 : m (Str.ofString "size") = some (.int (z : Int) ts))
    (x7 : m (Str.ofString "at") = some (.int (s.1 : Int) ta))
    (x8 : led = (dK, .dct kK) :: (dE, .dct kE) :: l)
    (x9 : kK.map (·.1) = s.2.1)
    (x10 : A2 (KE l) kE s.2.2)
    (x11 : (∀ q ∈ s.2.2, q.1 ∈ s.2.1))
    (x12 : s.2.2.length ≤ s.2.1.length)
    (x13 : s.2.1.length + cap ≤ 1000000) : EInv b tb v u dE dK z m led s cap
theorem entries_of_c
  {w : World} {mg mb : Str → Option Value} {me : ExcName → Option Value} {A : Around} {H : Heap} {G : Array GenState} {D : Drawn} {tk : Nat} {O : OsState} {h₀ : Heap} {Q E : Value → Shared → Prop}
  (X : (hd.heap_1 w.params).In h₀) (T : TopH mg mb me h₀) (st : h₀.StaysIn H) (hh : A.handled = none) (hdp : A.depth + 30 < recursionLimit) (hu : A.units + 90 < cLine)
  {fr : List Env} (hfr : A.frames = some fr) (hff : FFr H fr)
  {b : Array UInt8} {tb : Tok} {v u : Value} {w0 w1 w2 : Nat} {ps : List (Nat × Nat)} (hv : Nums H v [(w0 : Int), (w1 : Int), (w2 : Int)]) (hu' : Nums H u (flat ps)) (hw : w0 + w1 + w2 < 2 ^ 20) (hz : b.size ≤ 16777216)
  (hps : ps.length < 2 ^ 20) (hp : ∀ p ∈ ps, p.1 + p.2 < 2 ^ 50) (hsum : (ps.map (·.2)).sum ≤ 1000000)
  (post : ∀ h' tk' d kvs l s, H.StaysIn h' → New w H h' ((d, .dct kvs) :: l) → given b.toList w0 w1 w2 ps = .ok s → A2 (KE l) kvs s.2.2 → Q (.ref d) ⟨h', G, D, tk', O⟩)
  (posE : ∀ e n h' tk', Thrown H h' fr e n → (∃ k : Nat, n = k ∧ given b.toList w0 w1 w2 ps = .error k) → E (.ref e) ⟨h', G, D, tk', O⟩) :
  wpAny (model PR w) A (call (.ref 132) [.bytes b tb, v, u]) Q E ⟨H, G, D, tk, O⟩ := by
  generalize hR : given b.toList w0 w1 w2 ps = R at post posE
  with_reducible refine' enterE X T st [(Str.ofString "octets", .bytes b tb), (Str.ofString "widths", v), (Str.ofString "runs", u)] ?ho ?cd ?room ?bd ?lo ?ce ?co ?ge ?k hfr (fun n => ∃ k : Nat, n = k ∧ R = .error k) ?hE ?_
  case ho => k_is
  case cd => k_is
  case room => omega
  case bd => exact BindsTo.of_eq rfl
  case lo => exact rfl
  case ce => decide
  case co => exact rfl
  case ge => exact rfl
  case k => exact rfl
  case hE => exact posE
  clear X T
  intro L h tk X T F N
  repeat walk_at "S"
  refine newDictR F N fun dE h F N => ?_
  with_reducible refine' stR F N ?_ ?_ ?_ ?_
  · exact rfl
  · exact rfl
  · exact rfl
  clear F N; intro h tk F N
  try (with_reducible refine' Seal.next ?K ?_; case K => with_reducible assumption)
  repeat walk_at "S"
  refine newDictR F N fun dK h F N => ?_
  with_reducible refine' stR F N ?_ ?_ ?_ ?_
  · exact rfl
  · exact rfl
  · exact rfl
  clear F N; intro h tk F N
  try (with_reducible refine' Seal.next ?K ?_; case K => with_reducible assumption)
  repeat walk_at "S"
  refine nItem (hv.keeps F.keep) (by decide) (by decide) rfl (fun _ => ?_) (fun _ => rfl)
  repeat walk_at "S"
  refine nItem (hv.keeps F.keep) (by decide) (by decide) rfl (fun _ => ?_) (fun _ => rfl)
  repeat walk_at "S"
  refine nItem (hv.keeps F.keep) (by decide) (by decide) rfl (fun _ => ?_) (fun _ => rfl)
  repeat walk_at "S"
  with_reducible refine' stR F N ?_ ?_ ?_ ?_
  · exact rfl
  · exact rfl
  · exact rfl
  clear F N; intro h tk F N
  try (with_reducible refine' Seal.next ?K ?_; case K => with_reducible assumption)
  iterate 3 walk_at "S"
  with_reducible refine' stR F N ?_ ?_ ?_ ?_
  · exact rfl
  · exact rfl
  · exact rfl
  clear F N; intro h tk F N
  try (with_reducible refine' Seal.next ?K ?_; case K => with_reducible assumption)
  repeat walk_at "S"
  refine nLen (hu'.keeps F.keep) (by rw [flat_len]; omega) fun _ _ => ?_
  rw [flat_len]
  repeat walk_at "S"
  refine rangeR3 F N (by decide) (by decide) fun h tk r t1 t2 t3 F N hr => ?_
  with_reducible refine' forRange2 ?hh ?hx ?hp ?hE ?hL F N ps.length hr (by omega) (by omega) (fun i m led => ∃ s, R = goRuns b.toList w0 w1 w2 (ps.drop i) s ∧ EInv b tb v u dE dK (w0 + w1 + w2) m led s ((ps.drop i).map (·.2)).sum) ?hJ ?turn ?done
  case hh => exact hh
  case hx => exact rfl
  case hp => exact rfl
  case hE => exact passE1 (Around.frames_deeper hfr) rfl
  case hL => exact rfl
  case hJ => exact ⟨(0, [], []), hR.symm, [], [], [], _, _, rfl, rfl, rfl, rfl, rfl, vI (by omega), vI (by rfl), rfl, rfl, .nil, (fun _ hq => nomatch hq), Nat.le_refl _, by simpa using hsum⟩
  case turn =>
    clear F N hr
    rintro I i t m₁ led₁ oI h tk hi ⟨⟨p, kn, tab⟩, hRi, kE, kK, l, ts, ta, m1, m2, m3, m4, m5, m6, m7, rfl, hkk, hA, hsub, htl, hcap⟩ F N
    obtain ⟨⟨n0, c⟩, hq⟩ : ∃ q, ps[i]? = some q := ⟨ps[i], by simp [hi]⟩
    have hdrop : ps.drop i = (n0, c) :: ps.drop (i + 1) := by
      rw [List.drop_eq_getElem_cons hi]
      congr 1
      have := List.getElem?_eq_getElem hi
      rw [hq] at this; exact (Option.some.inj this).symm
    have hb := hp _ (List.mem_of_getElem? hq)
    obtain ⟨g1, g2⟩ := flat_get hq
    rw [hdrop] at hRi hcap
    dsimp only at hkk hA hsub htl hcap m7
    dsimp only at hb g1 g2
    have hfail : (p + (w0 + w1 + w2) * c > b.toList.length ∨ (w0 + w1 + w2 = 0 ∧ c > 0)) → R = .error p := fun z => by rw [hRi]; unfold goRuns; rw [if_pos z]
    refine joinK h G D O (¬ (p + (w0 + w1 + w2) * c > b.toList.length ∨ (w0 + w1 + w2 = 0 ∧ c > 0))) ?_ ?_
    · intro Qs Ks
      repeat walk_at "S"
      refine nItemJ (hu'.keeps F.keep) g2 (by omega) (by omega) (fun _ => ?_) (fun _ => rfl)
      try dsimp only
      repeat walk_at "S"
      with_reducible refine' mulI (by omega) (by omega) ?_; intro _ _
      repeat walk_at "S"
      refine lenB (by omega) fun _ _ => ?_
      repeat walk_at "S"
      refine iteB (fun hc => ?_) (fun hc => ?_)
      · repeat walk_at "S"
        refine raiseFault (by show A.handled = _; exact hh) rfl rfl X ?_
        walk_at "S"
        refine ⟨rfl, ?_⟩
        repeat walk_at "S"
        refine ⟨X.keeps F.keep, ?_⟩
        refine mkFault X T F.keep (by show A.depth + _ + _ < _; omega) (.inl rfl) fun e h' tk' vsx fa hv1 => ?_
        refine raised X hff F (fun _ _ q => q) rfl rfl fa hv1 (⟨p, rfl, hfail (.inl (by rw [Array.length_toList]; omega))⟩)
      repeat walk_at "S"
      refine iteB (fun hc2 => ?_) (fun hc2 => ?_)
      · repeat walk_at "S"
        refine nItemJ (hu'.keeps F.keep) g2 (by omega) (by omega) (fun _ => ?_) (fun _ => rfl)
        repeat walk_at "S"
        refine iteB (fun hc3 => ?_) (fun hc3 => ?_)
        · repeat walk_at "S"
          refine raiseFault (by show A.handled = _; exact hh) rfl rfl X ?_
          walk_at "S"
          refine ⟨rfl, ?_⟩
          repeat walk_at "S"
          refine ⟨X.keeps F.keep, ?_⟩
          refine mkFault X T F.keep (by show A.depth + _ + _ < _; omega) (.inl rfl) fun e h' tk' vsx fa hv1 => ?_
          refine raised X hff F (fun _ _ q => q) rfl rfl fa hv1 (⟨p, rfl, hfail (.inr ⟨by omega, by omega⟩)⟩)
        repeat walk_at "S"
        refine ⟨_, rfl, ?_⟩
        rintro (z | ⟨_, z⟩)
        · rw [Array.length_toList] at z; omega
        · omega
      · repeat walk_at "S"
        refine ⟨_, rfl, ?_⟩
        rintro (z | ⟨z, _⟩)
        · rw [Array.length_toList] at z; omega
        · omega
    intro tk hok
    clear hfail
    unfold goRuns at hRi
    rw [if_neg hok] at hRi
    dsimp only at hRi
    repeat walk_at "S"
    refine nItemJ (j := 2 * i) (hu'.keeps F.keep) g1 (by omega) (by omega) (fun _ => ?_) (fun _ => rfl)
    repeat walk_at "S"
    refine nItemJ (j := 2 * i) (hu'.keeps F.keep) g1 (by omega) (by omega) (fun _ => ?_) (fun _ => rfl)
    repeat walk_at "S"
    refine nItemJ (hu'.keeps F.keep) g2 (by omega) (by omega) (fun _ => ?_) (fun _ => rfl)
    repeat walk_at "S"
    refine rangeR2 F N fun h tk r t1 t2 t3 F N hr => ?_
    with_reducible refine' forRange1 ?_ ?_ ?_ ?_ ?_ F N c hr (by omega) (by omega) (by omega) (fun j m led => ∃ s led', R = (match goRun b.toList w0 w1 w2 (c - j) ((n0 : Int) + j) s with | .error e => .error e | .ok s' => goRuns b.toList w0 w1 w2 (ps.drop (i + 1)) s') ∧ led = (I, .raw oI) :: led' ∧ EInv b tb v u dE dK (w0 + w1 + w2) m led' s ((c - j) + ((ps.drop (i + 1)).map (·.2)).sum)) ?_ ?_ ?_
    · exact hh
    · exact rfl
    · exact rfl
    · exact passE1 (Around.frames_deeper hfr) rfl
    · exact rfl
    · refine ⟨(p, kn, tab), _, by simpa using hRi, rfl, kE, kK, l, _, _, m1, m2, m3, m4, m5, m6, m7, rfl, hkk, hA, hsub, htl, ?_⟩
      simp only [List.map_cons, List.sum_cons] at hcap
      try dsimp only
      omega
    · clear F N hr hRi hcap hkk hA hsub htl hok hdrop m1 m2 m3 m4 m5 m6 m7
      rintro I' j t' m₂ led₂ oI' h tk hj ⟨⟨p, kn, tab⟩, led', hRi, rfl, kE, kK, l, ts, ta, m1, m2, m3, m4, m5, m6, m7, rfl, hkk, hA, hsub, htl, hcap⟩ F N
      dsimp only at hkk hA hsub htl hcap m7
      subst hkk
      repeat walk_at "S"
      refine dIn (N.hi (a := dK) (r := .dct kK) (by simp)) (N.get (a := dK) (r := .dct kK) (by simp)) fun _ => ?_
      repeat walk_at "S"
      obtain ⟨k, hk⟩ : ∃ k, c - j = k + 1 := ⟨c - j - 1, by omega⟩
      rw [hk] at hRi hcap
      unfold goRun at hRi
      refine iteB (fun hc4 => ?_) (fun hc4 => ?_)
      · rw [if_pos hc4] at hRi
        dsimp only at hRi
        repeat walk_at "S"
        refine raiseFault (by show A.handled = _; exact hh) rfl rfl X ?_
        walk_at "S"
        refine ⟨rfl, ?_⟩
        repeat walk_at "S"
        refine strI (by omega) fun x t tk hx => ?_
        repeat walk_at "S"
        refine addSt (Nat.le_of_ble_eq_true rfl) (by omega) fun t tk hx2 => ?_
        repeat walk_at "S"
        refine addSt ?_ (Nat.le_of_ble_eq_true rfl) fun t tk hx3 => ?_
        · refine Nat.le_trans hx2 ?_
          refine Nat.le_trans (Nat.add_le_add_left hx _) (Nat.le_of_ble_eq_true rfl)
        repeat walk_at "S"
        refine ⟨X.keeps F.keep, ?_⟩
        refine mkFault X T F.keep (by show A.depth + _ + _ < _; omega) (.inl rfl) fun e h' tk' vsx fa hv1 => ?_
        refine raised X hff F (fun _ _ q => q) rfl rfl fa hv1 (⟨p, rfl, hRi⟩)
      rw [if_neg hc4] at hRi
      dsimp only at hRi
      repeat walk_at "S"
      have hlen : kK.length ≤ 1000000 := by rw [List.length_map] at hcap; omega
      have hlenE : kE.length ≤ 1000000 := by rw [hA.len]; rw [List.length_map] at htl; omega
      refine dSet (pre := [(I', .raw oI'), (I, .raw oI)]) F N (by omega) fun h tk F N => ?_
      rw [stored_new hc4] at N
      repeat walk_at "S"
      refine sliceB F N (.int _ _) (.int _ _) (by intro i q; cases q; omega) (by intro i q; cases q; omega) hz (fun h t tk F N => ?_) rfl (fun _ => rfl)
      repeat walk_at "S"
      have hcut : (cutB b (some (p : Int)) (some ((p : Int) + (w0 + w1 + w2 : Nat)))).toArray.toList = (b.toList.drop p).take (w0 + w1 + w2) := by
        rw [List.toList_toArray, cutB_some]
      have hcs : (cutB b (some (p : Int)) (some ((p : Int) + (w0 + w1 + w2 : Nat)))).toArray.size ≤ 16777216 := by
        rw [← Array.length_toList, hcut, List.length_take, List.length_drop, Array.length_toList]; omega
      refine ⟨X.keeps F.keep, ?_⟩
      refine row_entry_c X T F.keep (by show A.handled = _; exact hh) (by show A.depth + _ + _ < _; omega) (by show A.units + 3 + _ < _; omega) (hv.keeps F.keep) (by omega) hcs ?_ ?_
      · intro h' tk' st' hrow
        rw [hcut] at hrow
        replace F := fr_stays F st'
        replace N := N.stays st'
        clear st'
        repeat walk_at "S"
        with_reducible refine' stR F N ?_ ?_ ?_ ?_
        · exact rfl
        · exact rfl
        · exact rfl
        clear F N; intro h tk F N
        try (with_reducible refine' Seal.next ?K ?_; case K => with_reducible assumption)
        repeat walk_at "S"
        refine isnot_none_none ?_
        repeat walk_at "S"
        with_reducible refine' stR F N ?_ ?_ ?_ ?_
        · exact rfl
        · exact rfl
        · exact rfl
        clear F N; intro h tk F N
        try (with_reducible refine' Seal.next ?K ?_; case K => with_reducible assumption)
        repeat walk_at "S"
        refine turnNext [] F N ⟨_, _, (by rw [show c - (j + 1) = k by omega, show ((n0 : Int) + ((j + 1 : Nat) : Int)) = n0 + j + 1 by omega]; exact hRi), rfl, kE, kK ++ [_], l, _, _, m1, m2, m3, m4, m5, m6, vI (by simp), rfl, (by simp), ?_, put_keys hsub, ?_, ?_⟩
        · dsimp only
          rw [rowAt, hrow]; exact hA
        · dsimp only
          rw [rowAt, hrow]; simp only [put, List.length_append, List.length_map] at htl ⊢; omega
        · dsimp only
          simp only [List.length_append, List.length_map, List.length_cons, List.length_nil] at hcap ⊢; omega
      · intro h' tk' x e lx st' hnew hrow hent
        rw [hcut] at hrow
        replace N := N.call F st' hnew
        replace F := fr_stays F st'
        replace N := N.perm (List.perm_append_comm_assoc lx [(I', .raw oI'), (I, .raw oI), (dK, .dct (kK ++ [((n0 : Int) + j, Value.bool true)])), (dE, .dct kE)] l)
        repeat walk_at "S"
        with_reducible refine' stR F N ?_ ?_ ?_ ?_
        · exact rfl
        · exact rfl
        · exact rfl
        clear F N; intro h tk F N
        try (with_reducible refine' Seal.next ?K ?_; case K => with_reducible assumption)
        repeat walk_at "S"
        refine isnot_ref_none ?_
        repeat walk_at "S"
        refine dSet (pre := [(I', .raw oI'), (I, .raw oI), (dK, .dct (kK ++ [((n0 : Int) + j, Value.bool true)]))]) F N (by omega) fun h tk F N => ?_
        have hnE : (n0 : Int) + j ∉ kE.map (·.1) := by
          rw [hA.fst]
          intro z
          obtain ⟨q, hq, e⟩ := List.mem_map.mp z
          exact hc4 (e ▸ hsub q hq)
        rw [stored_new hnE] at N
        repeat walk_at "S"
        with_reducible refine' stR F N ?_ ?_ ?_ ?_
        · exact rfl
        · exact rfl
        · exact rfl
        clear F N; intro h tk F N
        try (with_reducible refine' Seal.next ?K ?_; case K => with_reducible assumption)
        repeat walk_at "S"
        refine turnNext [] F N ⟨_, _, (by rw [show c - (j + 1) = k by omega, show ((n0 : Int) + ((j + 1 : Nat) : Int)) = n0 + j + 1 by omega]; exact hRi), rfl, kE ++ [_], kK ++ [_], lx ++ l, _, _, m1, m2, m3, m4, m5, m6, vI (by simp), rfl, (by simp), ?_, put_keys hsub, ?_, ?_⟩
        · dsimp only
          rw [rowAt, hrow]
          exact (hA.mono fun _ _ r => ⟨r.1, r.2.sub fun _ q => List.mem_append_right _ q⟩).snoc ⟨rfl, hent.sub fun _ q => List.mem_append_left _ q⟩
        · dsimp only
          rw [rowAt, hrow]; simp only [put, List.length_append, List.length_map, List.length_cons, List.length_nil] at htl ⊢; omega
        · dsimp only
          simp only [List.length_append, List.length_map, List.length_cons, List.length_nil] at hcap ⊢; omega
    · clear F N hr
      rintro m₂ led₂ h tk ⟨⟨p, kn, tab⟩, led', hRi, rfl, he⟩ F N
      try dsimp only
      rw [Nat.sub_self] at hRi he
      unfold goRun at hRi
      rw [Nat.zero_add] at he
      repeat walk_at "S"
      refine turnNext [] F N ⟨_, hRi, he⟩
  case done =>
    clear F N hr
    rintro m₁ led₁ h tk ⟨⟨p, kn, tab⟩, hRi, kE, kK, l, ts, ta, m1, m2, m3, m4, m5, m6, m7, rfl, hkk, hA, hsub, htl, hcap⟩ F N
    try dsimp only
    repeat walk_at "S"
    rw [List.drop_length] at hRi
    repeat (first | (with_reducible refine' Seal.ret ?K ?_; case K => with_reducible assumption) | with_reducible refine turnRet ?_)
    refine post _ _ _ _ _ _ F.keep (Led.new (N.sub (led' := (dE, .dct kE) :: l) (fun q hq => .tail _ hq) (by have := N.D; rw [keys_cons, List.nodup_cons] at this; exact this.2))) hRi hA
set_option linter.unusedVariables false
theorem slice_rev (xs : Array Value) : slicePick xs none none (some (-1)) = xs.toList.reverse.toArray := by
  have e : sliceBounds none none (some (-1)) xs.size = ((xs.size : Int) - 1, -1, -1) := by
    simp [sliceBounds]
  have r : sliceRange ((xs.size : Int) - 1) (-1) (-1) = (List.range xs.size).map (fun k => xs.size - 1 - k) := by
    unfold sliceRange
    rw [if_neg (by decide)]
    by_cases h : (xs.size : Int) - 1 > -1
    · rw [if_pos h]
      have e2 : ((xs.size : Int) - 1 - -1 - -1 - 1) / (- -1) = xs.size := by
        rw [show (- -1 : Int) = 1 from rfl, Int.ediv_one]; omega
      rw [e2]
      show List.map _ (List.range ((xs.size : Int).toNat)) = _
      rw [Int.toNat_natCast]
      apply List.map_congr_left
      intro k hk
      have := List.mem_range.mp hk
      omega
    · rw [if_neg h]
      have : xs.size = 0 := by omega
      rw [this]; rfl
  unfold slicePick
  rw [e]
  dsimp only
  rw [r]
  congr 1
  apply List.ext_getElem?
  intro i
  have key : ∀ n, n ≤ xs.size → ((List.range n).map (fun k => xs.size - 1 - k)).filterMap (fun i => xs[i]?) = (xs.toList.reverse).take n := by
    intro n
    induction n with
    | zero => intro _; rfl
    | succ n ih =>
      intro hn
      rw [List.range_succ, List.map_append, List.filterMap_append, ih (by omega), List.take_add_one]
      congr 1
      have hx : xs.size - 1 - n < xs.size := by omega
      simp only [List.map_cons, List.map_nil]
      rw [List.getElem?_reverse (by simp; omega)]
      simp only [Array.length_toList, Array.getElem?_toList]
      simp [hx]
  rw [key xs.size (Nat.le_refl _)]
  rw [List.take_of_length_le (by simp)]
section
variable {w : World} {A : Around} {E : Value → Shared → Prop} {h : Heap} {G : Array GenState} {D : Drawn} {tk : Nat} {O : OsState} {g : Heap} {L l : Addr} {m : Str → Option Value} {led pre post : Ls} {v : Value} {vs : List Value}
theorem led_list (N : Led w g L h led) (hm : (l, .lst vs) ∈ led) : h.IsList l vs.toArray := (N.get hm).isList
theorem lmeth {name : Str} {id : String} {pl : Sem Bool} {Q : Value × List Value → Shared → Prop} (hl : h.PlainList l vs.toArray) (slot : Slot "list" name id) (hty : typeOf (.builtin id) = pure (.type "method_descriptor"))
    (hq : Q (.builtin id, [.ref l]) ⟨h, G, D, tk, O⟩) : wpAny (model PR w) A (getMethod (.ref l) name pl) Q E ⟨h, G, D, tk, O⟩ := by
  obtain ⟨n, ho⟩ := hl
  exact getMethod_builtin ⟨_, ho, rfl⟩ PySem.F.plainAttrs_list slot hty (fun a e => by cases e; exact ⟨_, ho, rfl⟩) hq
theorem mAppend {pl : Sem Bool} {Q : Value × List Value → Shared → Prop} (N : Led w g L h led) (hm : (l, .lst vs) ∈ led)
    (hq : Q (.builtin "list.append", [.ref l]) ⟨h, G, D, tk, O⟩) : wpAny (model PR w) A (getMethod (.ref l) (Str.ofString "append") pl) Q E ⟨h, G, D, tk, O⟩ :=
  lmeth (N.get hm) PySem.F.slot_list_append PySem.F.type_list_append hq
theorem appendR {Q : Value → Shared → Prop} (F : Fr g L h m) (N : Led w g L h (pre ++ (l, .lst vs) :: post)) (hz : vs.length ≤ 16777216)
    (hq : ∀ h', Fr g L h' m → Led w g L h' (pre ++ (l, .lst (vs ++ [v])) :: post) → Q .none ⟨h', G, D, tk, O⟩) :
    wpAny (model PR w) A (call (.builtin "list.append") [.ref l, v]) Q E ⟨h, G, D, tk, O⟩ := by
  obtain ⟨n, ho⟩ : h.PlainList l vs.toArray := N.get (a := l) (r := .lst vs) (by simp)
  refine append_at ho (fun h' hs ho' => ?_) (by rw [sizeLine_eq]; simpa using hz)
  obtain ⟨F', N'⟩ := N.upd (r' := .lst (vs ++ [v])) F hs ⟨n + 1, by rw [ho', List.push_toArray]⟩
  exact hq _ F' N'
theorem sliceL {value slice : Expr} {ops : List Value} {vl vu vst : Value} {lo hi stp : Option Int} {Q : Value → Shared → Prop} {sl : Addr} (F : Fr g L h m) (N : Led w g L h led) (hl : h.IsList l vs.toArray) (hs : h.IsSliceOf sl vl vu vst) (pl : IsPart vl lo) (pu : IsPart vu hi) (ps : IsPart vst stp) (h0 : stp ≠ some 0) (hz : vs.length ≤ 16777216)
    (hq : ∀ a h', Fr g L h' m → Led w g L h' ((a, .lst (slicePick vs.toArray lo hi stp).toList) :: led) → Q (.ref a) ⟨h', G, D, tk, O⟩)
    (hs2 : subscripted slice false (.ref l) (.ref sl) = operate ops (getItem (.ref l) (.ref sl))) :
    wpAny (model PR w) A (subscriptTail value slice (.ref l) (.ref sl)) Q E ⟨h, G, D, tk, O⟩ := by
  refine tail_any hl.typeIs slot_list_getitem.lookup (wpAny_getItem_list_slice hl hs pl pu ps h0 (hq _ _ (fr_push F _) (N.push F ⟨0, ?_⟩)) (by rw [sizeLine_eq]; simpa using hz)) hs2
  rw [Heap.get?_push_size _ rfl, Array.toArray_toList]
theorem sliceP {value slice : Expr} {ops : List Value} {vl vu vst : Value} {lo hi stp : Option Int} {Q : Value → Shared → Prop} (F : Fr g L h m) (N : Led w g L h led) (hl : h.IsList l vs.toArray) (pl : IsPart vl lo) (pu : IsPart vu hi) (ps : IsPart vst stp) (h0 : stp ≠ some 0) (hz : vs.length ≤ 16777216)
    (hq : ∀ a h', Fr g L h' m → Led w g L h' ((a, .lst (slicePick vs.toArray lo hi stp).toList) :: led) → Q (.ref a) ⟨h', G, D, tk, O⟩)
    (hs2 : subscripted slice false (.ref l) (.ref h.objs.size) = operate ops (getItem (.ref l) (.ref h.objs.size))) :
    wpAny (model PR w) A (subscriptTail value slice (.ref l) (.ref h.objs.size)) Q E ⟨h.push { cls := .type "slice", data := .fields #[vl, vu, vst] }, G, D, tk, O⟩ :=
  sliceL (fr_push F _) (N.stays (stays_push _ _)) (hl.push _) (Heap.IsSliceOf.new _ _ _ _) pl pu ps h0 hz hq hs2
end
set_option linter.unusedVariables false
/-- the low octets of a number, the lowest first -/
def lows (n k : Nat) : List Int := (List.range k).map fun j => ((n / 256 ^ j % 256 : Nat) : Int)
theorem lows_snoc (n k : Nat) : lows n (k + 1) = lows n k ++ [((n / 256 ^ k % 256 : Nat) : Int)] := by simp [lows, List.range_succ]
/-- a number's octets, the highest first -/
def octs (n k : Nat) : List UInt8 := (List.range k).map fun j => (n / 256 ^ (k - 1 - j) % 256).toUInt8
theorem lows_rev (n k : Nat) : (lows n k).reverse = (List.range k).map fun j => ((n / 256 ^ (k - 1 - j) % 256 : Nat) : Int) := by
  apply List.ext_getElem?
  intro i
  by_cases h : i < k
  · rw [List.getElem?_reverse (by simp [lows]; omega)]
    simp only [lows, List.length_map, List.length_range, List.getElem?_map]
    rw [List.getElem?_range (by omega), List.getElem?_range h]
    rfl
  · rw [List.getElem?_eq_none (by simp [lows]; omega), List.getElem?_eq_none (by simp; omega)]
theorem A2.ints {vs : List Value} {ns : List Int} (x : A2 IV vs ns) : IntsAre vs ns := by
  induction x with
  | nil => exact .nil
  | cons r _ ih => obtain ⟨t, rfl⟩ := r; exact .cons _ _ ih
theorem A2.ofInts {vs : List Value} {ns : List Int} (x : IntsAre vs ns) : A2 IV vs ns := by
  induction x with
  | nil => exact .nil
  | cons n t _ ih => exact .cons ⟨t, rfl⟩ ih
theorem A2.app {α β : Type} {R : α → β → Prop} {a c : List α} {b d : List β} (x : A2 R a b) (y : A2 R c d) : A2 R (a ++ c) (b ++ d) := by
  induction x with
  | nil => exact y
  | cons r _ ih => exact .cons r ih
theorem A2.rev {α β : Type} {R : α → β → Prop} {a : List α} {b : List β} (x : A2 R a b) : A2 R a.reverse b.reverse := by
  induction x with
  | nil => exact .nil
  | cons r _ ih => rw [List.reverse_cons, List.reverse_cons]; exact ih.app (.cons r .nil)
theorem byteArr_octs (n k : Nat) : byteArr ((List.range k).map fun j => ((n / 256 ^ (k - 1 - j) % 256 : Nat) : Int)) = (octs n k).toArray := by
  unfold byteArr octs
  rw [List.map_map]
  rfl
theorem field_octets_c
  {w : World} {mg mb : Str → Option Value} {me : ExcName → Option Value} {A : Around} {H : Heap} {G : Array GenState} {D : Drawn} {tk : Nat} {O : OsState} {h₀ : Heap} {Q E : Value → Shared → Prop}
  (X : (hd.heap_1 w.params).In h₀) (T : TopH mg mb me h₀) (st : h₀.StaysIn H) (hh : A.handled = none) (hdp : A.depth + 30 < recursionLimit) (hu : A.units + 90 < cLine)
  {fr : List Env} (hfr : A.frames = some fr) (hff : FFr H fr)
  {n : Int} {tn tw : Tok} {k : Nat} (hn : n.natAbs < 2 ^ 70) (hk : k < 2 ^ 20)
  (post : ∀ h' tk' t, H.StaysIn h' → 0 ≤ n → n.toNat < 256 ^ k → Q (.bytes (octs n.toNat k).toArray t) ⟨h', G, D, tk', O⟩)
  (posE : ∀ e a h' tk', Thrown H h' fr e a → (n < 0 ∨ 256 ^ k ≤ n.toNat) → E (.ref e) ⟨h', G, D, tk', O⟩) :
  wpAny (model PR w) A (call (.ref 104) [.int n tn, .int (k : Int) tw]) Q E ⟨H, G, D, tk, O⟩ := by
  with_reducible refine' enterE X T st [(Str.ofString "number", .int n tn), (Str.ofString "width", .int (k : Int) tw)] ?ho ?cd ?room ?bd ?lo ?ce ?co ?ge ?k hfr (fun _ => n < 0 ∨ 256 ^ k ≤ n.toNat) ?hE ?_
  case ho => k_is
  case cd => k_is
  case room => omega
  case bd => exact BindsTo.of_eq rfl
  case lo => exact rfl
  case ce => decide
  case co => exact rfl
  case ge => exact rfl
  case k => exact rfl
  case hE => exact posE
  clear X T
  intro L h tk X T F N
  repeat walk_at "S"
  with_reducible refine newListR F N (by rw [sizeLine_eq]; exact Nat.le_of_ble_eq_true rfl) fun c h F N => ?_
  repeat (first | (with_reducible refine' Seal.ret ?K ?_; case K => with_reducible assumption) | with_reducible refine turnRet ?_)
  with_reducible refine' stR F N ?_ ?_ ?_ ?_
  · exact rfl
  · exact rfl
  · exact rfl
  clear F N; intro h tk F N
  try (with_reducible refine' Seal.next ?K ?_; case K => with_reducible assumption)
  repeat walk_at "S"
  with_reducible refine' stR F N ?_ ?_ ?_ ?_
  · exact rfl
  · exact rfl
  · exact rfl
  clear F N; intro h tk F N
  try (with_reducible refine' Seal.next ?K ?_; case K => with_reducible assumption)
  repeat walk_at "S"
  refine rangeR1 F N fun h tk r t1 t2 t3 F N hr => ?_
  with_reducible refine' forRange1 ?_ ?_ ?_ ?_ ?_ F N k hr (by omega) (by omega) (by omega) (fun i m led => ∃ vs ns x tn' tx, m (Str.ofString "number") = some (.int n tn') ∧ m (Str.ofString "codes") = some (.ref c) ∧ m (Str.ofString "rest") = some (.int x tx) ∧ led = [(c, .lst vs)] ∧ A2 IV vs ns ∧ ns.length = i ∧ (0 ≤ n → x = ((n.toNat / 256 ^ i : Nat) : Int) ∧ ns = lows n.toNat i) ∧ (n < 0 → x < 0) ∧ (∀ y ∈ ns, 0 ≤ y ∧ y < 256)) ?_ ?_ ?_
  · exact hh
  · exact rfl
  · exact rfl
  · first | exact PassesOwn.never | exact passE1 (Around.frames_deeper hfr) rfl
  · exact rfl
  · exact ⟨[], [], n, _, _, rfl, rfl, rfl, rfl, .nil, rfl, fun h0 => ⟨by rw [Nat.pow_zero, Nat.div_one]; omega, rfl⟩, id, fun _ q => nomatch q⟩
  · clear F N hr
    rintro I i t m₁ led₁ oI h tk hi ⟨vs, ns, x, tn', tx, m1, m2, m3, rfl, hA, hl, h0, h1, h2⟩ F N
    repeat walk_at "S"
    refine mAppend (vs := vs) N (by simp) ?_
    repeat walk_at "S"
    with_reducible refine' modI (by decide) ?_; intro _ _
    repeat walk_at "S"
    refine appendR (pre := [(I, .raw oI)]) F N (by rw [hA.len]; omega) fun h F N => ?_
    repeat walk_at "S"
    with_reducible refine' divI (by decide) (by decide) ?_; intro _ _
    repeat walk_at "S"
    with_reducible refine' stR F N ?_ ?_ ?_ ?_
    · exact rfl
    · exact rfl
    · exact rfl
    clear F N; intro h tk F N
    try (with_reducible refine' Seal.next ?K ?_; case K => with_reducible assumption)
    repeat walk_at "S"
    have e0 := Int.fmod_eq_emod_of_nonneg x (show (0 : Int) ≤ 256 by decide)
    have e1 := Int.fdiv_eq_ediv_of_nonneg x (show (0 : Int) ≤ 256 by decide)
    refine turnNext [] F N ⟨vs ++ [_], ns ++ [x.fmod 256], x.fdiv 256, _, _, m1, m2, rfl, rfl, hA.snoc ⟨_, rfl⟩, by simp [hl], fun z => ?_, fun z => ?_, fun y hy => ?_⟩
    · obtain ⟨z1, z2⟩ := h0 z
      refine ⟨?_, ?_⟩
      · rw [e1, z1, Nat.pow_succ, ← Nat.div_div_eq_div_mul]; rfl
      · rw [lows_snoc, z2, e0, z1]; rfl
    · have := h1 z
      rw [e1]; omega
    · rcases List.mem_append.mp hy with q | q
      · exact h2 y q
      · rw [List.mem_singleton.mp q, e0]; omega
  · clear F N hr
    rintro m₁ led₁ h tk ⟨vs, ns, x, tn', tx, m1, m2, m3, rfl, hA, hl, h0, h1, h2⟩ F N
    try dsimp only
    repeat walk_at "S"
    refine iteB (fun hc => ?_) (fun hc => ?_)
    · repeat walk_at "S"
      refine raiseFault (by show A.handled = _; exact hh) rfl rfl X ?_
      walk_at "S"
      refine ⟨rfl, ?_⟩
      repeat walk_at "S"
      refine strI (by omega) fun x t tk hx => ?_
      repeat walk_at "S"
      refine addSt (Nat.le_of_ble_eq_true rfl) (by omega) fun t tk hx2 => ?_
      repeat walk_at "S"
      refine ⟨X.keeps F.keep, ?_⟩
      refine mkFault X T F.keep (by show A.depth + _ + _ < _; omega) (.inr ⟨rfl, rfl, rfl⟩) fun e h' tk' vsx fa hv1 => ?_
      refine raised X hff F (fun _ _ q => q) rfl rfl fa hv1 (?_)
      by_cases z : n < 0
      · exact .inl z
      · refine .inr (Nat.le_of_not_lt fun q => hc ?_)
        rw [(h0 (by omega)).1, Nat.div_eq_of_lt q]; rfl
    · repeat walk_at "S"
      have hz : 0 ≤ n := by
        by_cases z : n < 0
        · have := h1 z; omega
        · omega
      obtain ⟨e1, rfl⟩ := h0 hz
      have e2 : n.toNat / 256 ^ k = 0 := by omega
      have e3 : n.toNat < 256 ^ k := by
        rcases (Nat.div_eq_zero_iff).mp e2 with q | q
        · exact absurd q (Nat.pos_iff_ne_zero.mp (Nat.pow_pos (by decide)))
        · exact q
      refine sliceP F N (led_list N (l := c) (vs := vs) (.head _)) .none .none (.int _ _) (by decide) (by rw [hA.len, hl]; omega) (fun r h F N => ?_) rfl
      rw [slice_rev, List.toList_toArray] at N
      repeat walk_at "S"
      have hR := hA.rev
      rw [lows_rev] at hR
      refine call_bytes_ints (led_list N (.head _)) hR.ints ?_ (by rw [sizeLine_eq, hR.len]; simp; omega) hh fun h' t tk' st' => ?_
      · intro y hy
        obtain ⟨j, _, rfl⟩ := List.mem_map.mp hy
        exact ⟨by omega, by omega⟩
      rw [byteArr_octs]
      repeat (first | (with_reducible refine' Seal.ret ?K ?_; case K => with_reducible assumption) | with_reducible refine turnRet ?_)
      exact post _ _ _ (fun b o q => st' _ _ (F.keep _ _ q)) hz e3
set_option linter.unusedVariables false
theorem bytes_buffer : typeLookup (.type "bytes") "__buffer__" = pure (some (.builtin "bytes.__buffer__")) := by rw [typeLookup_type, builtinLookup_eq_fast]; kernel_rfl
theorem bytes_release : typeLookup (.type "bytes") "__release_buffer__" = pure none := by rw [typeLookup_type, builtinLookup_eq_fast]; kernel_rfl
theorem bytes_sub : isSubtype (.type "bytes") (.type "bytes") = pure true := by rw [isSubtype_type]; kernel_rfl
section
variable {M : Model} {A : Around} {E : Value → Shared → Prop} {s : Shared} {b : Array UInt8} {t : Tok}
theorem own_bytes {Q : Bool → Shared → Prop} (h : Q true s) : wpAny M A (Builtin.Bytes.slotIsOwn (.bytes b t) "__buffer__") Q E s := by
  unfold Builtin.Bytes.slotIsOwn
  refine wpAny_bind (wpAny_specialOf (typeIs_bytes s b t) bytes_buffer ?_)
  have e1 : ("bytes.__buffer__" : String).endsWith ("." ++ "__buffer__") = true := by decide +kernel
  have e2 : ("bytes.__buffer__" : String).dropRight (("__buffer__" : String).length + 1) = "bytes" := by decide +kernel
  dsimp only
  rw [e1, e2]
  refine wpAny_ite ?_
  rw [if_neg (by decide)]
  exact wpAny_isInstance (typeIs_bytes s b t) bytes_sub h
theorem rel_bytes {Q : Bool → Shared → Prop} (h : Q false s) : wpAny M A (Builtin.Bytes.ownRelease (.bytes b t)) Q E s := by
  unfold Builtin.Bytes.ownRelease Builtin.Bytes.slotIsOwn
  refine wpAny_bind (wpAny_bind (wpAny_specialOf (typeIs_bytes s b t) bytes_release ?_))
  exact wpAny_pure (wpAny_pure h)
theorem wNo {α : Type} {c : Prop} [Decidable c] {x y : Sem α} {Q : α → Shared → Prop} (h : ¬ c) (hq : wpAny M A y Q E s) : wpAny M A (if c then x else y) Q E s := by rw [if_neg h]; exact hq
theorem wYes {α : Type} {c : Prop} [Decidable c] {x y : Sem α} {Q : α → Shared → Prop} (h : c) (hq : wpAny M A x Q E s) : wpAny M A (if c then x else y) Q E s := by rw [if_pos h]; exact hq
theorem take_bytes {id : String} {Q : Option (Array UInt8 × Option Value) → Shared → Prop} (h : Q (some (b, none)) s) : wpAny M A (Builtin.Bytes.takeBufferQuiet? id (.bytes b t) 0) Q E s := by
  unfold Builtin.Bytes.takeBufferQuiet? Builtin.Bytes.takeBuffer? Builtin.Bytes.buffer?
  refine wpAny_bind (wpAny_attempt ?_)
  refine wpAny_bind (wpAny_specialOf (typeIs_bytes s b t) bytes_buffer ?_)
  try dsimp only
  refine wpAny_bind (own_bytes ?_)
  refine wNo (by decide) ?_
  refine wpAny_bind (wpAny_specialOf (typeIs_bytes s b t) bytes_buffer ?_)
  try dsimp only
  refine wpAny_bind (wpAny_bind (wpAny_specialOf (typeIs_bytes s b t) bytes_buffer ?_))
  try dsimp only
  refine wpAny_bind (own_bytes ?_)
  refine wNo (by decide) ?_
  refine wpAny_bind (wpAny_specialOf (typeIs_bytes s b t) bytes_buffer ?_)
  try dsimp only
  refine wpAny_bind (rel_bytes ?_)
  refine wNo (by decide) ?_
  exact wpAny_pure (wpAny_pure (wpAny_pure h))
theorem letgo_bytes : ∀ (l keep : List Value) (Q : Unit → Shared → Prop), Q () s → wpAny M A (letGo l keep) Q E s
  | [], _, _, h => wpAny_pure h
  | _ :: r, keep, Q, h => by
    unfold letGo
    exact wpAny_bind (wpAny_holding (wpAny_point (letgo_bytes r keep Q h)))
theorem joinLet : ∀ (l : List (Value × Option Value)) (keep : List Value) (Q : Unit → Shared → Prop), (∀ p ∈ l, p.2 = none) → Q () s → wpAny M A (Builtin.Bytes.joinLetGo l keep) Q E s
  | [], _, _, _, h => wpAny_pure h
  | (x, w) :: r, keep, Q, hn, h => by
    have e : w = none := hn _ (.head _)
    subst e
    unfold Builtin.Bytes.joinLetGo
    exact wpAny_bind (letgo_bytes _ _ _ (joinLet r keep Q (fun p hp => hn p (.tail _ hp)) h))
inductive BytesAre : List Value → List (Array UInt8) → Prop
  | nil : BytesAre [] []
  | cons (b : Array UInt8) (t : Tok) {vs bs} : BytesAre vs bs → BytesAre (.bytes b t :: vs) (b :: bs)
theorem BytesAre.len {vs bs} (x : BytesAre vs bs) : vs.length = bs.length := by
  induction x with
  | nil => rfl
  | cons _ _ _ ih => simp [ih]
theorem BytesAre.get {vs bs} (x : BytesAre vs bs) : ∀ {i : Nat} {v : Value}, vs[i]? = some v → ∃ b t, v = .bytes b t ∧ bs[i]? = some b := by
  induction x with
  | nil => intro i v h; simp at h
  | cons b t _ ih =>
    intro i v h
    cases i with
    | zero => simp at h; subst h; exact ⟨b, t, rfl, rfl⟩
    | succ i => simpa using ih (by simpa using h)
theorem BytesAre.app {a b c d} (x : BytesAre a b) (y : BytesAre c d) : BytesAre (a ++ c) (b ++ d) := by
  induction x with
  | nil => exact y
  | cons b t _ ih => exact .cons b t ih
end
section
variable {prog : Program} {w : World} {A : Around} {E : Value → Shared → Prop} {s : Shared}
theorem joined_nil (bs : List (Array UInt8)) : (Builtin.Bytes.joined #[] bs).toList = (bs.map (·.toList)).flatten := by
  unfold Builtin.Bytes.joined
  have key : ∀ (l : List (Array UInt8)) (k : Nat) (acc : Array UInt8), (List.foldl (fun out (x : Array UInt8 × Nat) => (if x.2 > 0 then out ++ #[] else out) ++ x.1) acc (l.zipIdx k)).toList = acc.toList ++ (l.map (·.toList)).flatten := by
    intro l
    induction l with
    | nil => intro k acc; simp
    | cons p r ih =>
      intro k acc
      rw [List.zipIdx_cons, List.foldl_cons, ih]
      simp
  simpa using key bs 0 #[]
theorem fold_size (l : List (Array UInt8)) (acc : Nat) : l.foldl (fun x1 x2 => x1 + x2.size) acc = acc + (l.map (·.size)).sum := by
  induction l generalizing acc with
  | nil => simp
  | cons p r ih => rw [List.foldl_cons, ih, List.map_cons, List.sum_cons]; omega
theorem flat_sum (bs : List (Array UInt8)) : (bs.map (·.toList)).flatten.length = (bs.map (·.size)).sum := by
  induction bs with
  | nil => rfl
  | cons p r ih => simp only [List.map_cons, List.flatten_cons, List.length_append, List.sum_cons, Array.length_toList, ih]
theorem joinTree {t : Tok} {a : Addr} {vs : List Value} {bs : List (Array UInt8)} {R : Result → Shared → Prop} {n : Nat} {ds : Option Addr} {sl : Array (Option Value)}
    (hl : s.heap.get? a = some { cls := .type "list", dict := ds, data := .seq vs.toArray n, slots := sl }) (hb : BytesAre vs bs) (h2 : 2 ≤ vs.length) (hz : (bs.map (·.size)).sum ≤ 16777216)
    (hq : ∀ t tk', R (.ok (.ret (.bytes (bs.map (·.toList)).flatten.toArray t))) { s with toks := tk' }) :
    wpAny (model prog w) A.in1 (Builtin.«bytes.join» ⟨[.bytes #[] t, .ref a], []⟩) (fun fin s' => match fin with | .done f => R (.ok f) s' | .again c' => c'.quiet = true ∧ codeAny (model prog w) A c' R s') (fun e s' => R (.error e) s') s := by
  unfold Builtin.«bytes.join» Builtin.Bytes.joinM
  obtain ⟨hp, g, d, tk, os⟩ := s
  wp_walk
  obtain ⟨v0, v1, r, hvs⟩ : ∃ v0 v1 r, vs = v0 :: v1 :: r := by
    rcases vs with _ | ⟨v0, _ | ⟨v1, r⟩⟩
    · simp at h2
    · simp at h2
    · exact ⟨v0, v1, r, rfl⟩
  subst hvs
  show wpAny _ _ (_ >>= _) _ _ _
  refine wpAny_bind ?_
  rw [Std.Legacy.Range.forIn_eq_forIn_range']
  simp only [Std.Legacy.Range.size, Nat.sub_zero, Nat.add_sub_cancel, Nat.div_one]
  generalize hvs : v0 :: v1 :: r = vs at hl hb h2 ⊢
  refine wpAny_forIn_list _
      (fun rest q s' => s' = ⟨hp, g, d, tk, os⟩ ∧ ∃ i, rest = List.range' i (vs.toArray.size - i) ∧ i ≤ vs.toArray.size ∧ q.1.toList = bs.take i ∧ ∀ p ∈ q.2, p.2 = none ∧ p.1.onHeap = false)
      _ ?_ ?_ _ _ ⟨rfl, 0, by simp, Nat.zero_le _, by simp, (fun _ hp => nomatch hp)⟩
  · rintro x rest ⟨parts, taken⟩ s' ⟨rfl, i, hr, hi, hq, ht⟩
    have hlt : i < vs.toArray.size := by
      rcases Nat.lt_or_ge i vs.toArray.size with h | h
      · exact h
      · rw [Nat.sub_eq_zero_of_le h] at hr; simp at hr
    obtain ⟨rfl, hrest⟩ : x = i ∧ rest = List.range' (i + 1) (vs.toArray.size - (i + 1)) := by
      have e : vs.toArray.size - i = (vs.toArray.size - (i + 1)) + 1 := by omega
      rw [e, List.range'_succ] at hr
      injection hr with h1 h2
      exact ⟨h1, h2⟩
    dsimp only at hq ht ⊢
    have hxl : x < vs.length := by simpa using hlt
    obtain ⟨b, u, hb1, hb2⟩ := hb.get (List.getElem?_eq_getElem hxl)
    have hD : vs.toArray.getD x Value.none = .bytes b u := by
      rw [← hb1]; simp [Array.getD, hxl]
    refine wpAny_bind (wpAny_seqItems hl rfl ?_)
    dsimp only
    rw [hD]
    have hany : (taken.any fun p => p.1.onHeap) = false := by
      rw [List.any_eq_false]
      intro p hp
      rw [(ht p hp).2]; decide
    refine wNo (by rw [hany]; decide) ?_
    refine wpAny_bind (wpAny_holding (take_bytes ?_))
    dsimp only
    refine wpAny_bind (wpAny_seqItems hl rfl ?_)
    dsimp only
    refine wNo (by simp) ?_
    refine wpAny_pure ⟨rfl, x + 1, hrest, by omega, ?_, fun p hp => ?_⟩
    · dsimp only
      rw [Array.toList_push, hq, List.take_add_one, hb2]; rfl
    · rcases List.mem_append.mp hp with q | q
      · exact ht p q
      · rw [List.mem_singleton.mp q]; exact ⟨rfl, rfl⟩
  · rintro ⟨parts, taken⟩ s' ⟨rfl, i, hr, hi, hqq, ht⟩
    dsimp only at hqq ht ⊢
    have hin : i = vs.toArray.size := by
      have := congrArg List.length hr
      simp only [List.length_nil, List.length_range'] at this
      omega
    have hpl : parts.toList = bs := by
      rw [hqq, hin, List.size_toArray, hb.len, List.take_length]
    refine wpAny_bind (wpAny_of_eq (a := #[]) rfl ?_)
    have hps : Array.foldl (fun x1 x2 => x1 + x2.size) ((#[] : Array UInt8).size * (parts.size - 1)) parts ≤ 16777216 := by
      rw [← Array.foldl_toList, hpl, fold_size]; simpa using hz
    refine wNo (by unfold Builtin.Bytes.tooLong; rw [sizeLine_eq]; simpa using hps) ?_
    have hj : Builtin.Bytes.joined #[] parts.toList = (bs.map (·.toList)).flatten.toArray := by
      rw [hpl, ← joined_nil]
    rw [hj]
    refine wpAny_bind ?_
    show wpAny _ _ (mkBytes _) _ _ _
    refine wpAny_mkBytes ?_ ?_
    · refine wpAny_bind (wpAny_holding (wpAny_point ?_))
      refine wpAny_bind (joinLet _ _ _ (fun p hp => (ht p hp).1) ?_)
      exact wpAny_pure (hq _ _)
    · rw [sizeLine_eq, List.size_toArray]
      refine Nat.le_trans (Nat.le_of_eq ?_) hz
      exact flat_sum bs
end
theorem slot_bytes_join : Slot "bytes" "join" "bytes.join" :=
  .of (owner := "bytes") (n := "join") (by rw [typeLookup_type, builtinLookup_eq_fast]; kernel_rfl) (by decide +kernel) (by decide +kernel) (by decide +kernel)
    (by first | exact .inl (by decide +kernel) | exact .inr (by decide +kernel)) (by rw [isSubtype_type]; kernel_rfl)
theorem type_bytes_join : typeOf (.builtin "bytes.join") = pure (.type "method_descriptor") := by show builtinType _ = _; rw [builtinType_eq_fast]; kernel_rfl
theorem entry_bytes_join : entryFor table "bytes.join" = some Builtin.«bytes.join» := entryFor_of_tree (by kernel_rfl)
theorem args_bytes_join (a b : Value) : argsOk "bytes.join" ⟨[a, b], []⟩ := by
  unfold argsOk; rw [signature?_of (id := "bytes.join") (n := ['n', 'i', 'o', 'j']) (o := ['s', 'e', 't', 'y', 'b']) (by kernel_rfl) PySem.W.FB.owner_bytes]; kernel_rfl
section
variable {prog : Program} {w : World} {A : Around} {E : Value → Shared → Prop} {s : Shared}
theorem mJoin {b : Array UInt8} {t : Tok} {pl : Sem Bool} {Q : Value × List Value → Shared → Prop} (h : Q (.builtin "bytes.join", [.bytes b t]) s) : wpAny (model prog w) A (getMethod (.bytes b t) (Str.ofString "join") pl) Q E s :=
  getMethod_builtin (typeIs_bytes _ _ _) FB.plainAttrs_bytes slot_bytes_join type_bytes_join (fun a e => nomatch e) h
theorem joinR {t : Tok} {a : Addr} {vs : List Value} {bs : List (Array UInt8)} {Q : Value → Shared → Prop} (hl : s.heap.PlainList a vs.toArray) (hb : BytesAre vs bs) (h2 : 2 ≤ vs.length) (hz : (bs.map (·.size)).sum ≤ 16777216)
    (hq : ∀ t tk', Q (.bytes (bs.map (·.toList)).flatten.toArray t) { s with toks := tk' }) :
    wpAny (model prog w) A (call (.builtin "bytes.join") [.bytes #[] t, .ref a]) Q E s := by
  obtain ⟨n, ho⟩ := hl
  exact wpAny_call (codeAny_call_builtin slot_bytes_join.plain entry_bytes_join (slot_bytes_join.check _ _ _ _ _ _ _ _ (typeIs_bytes _ _ _) (args_bytes_join _ _) (joinTree (R := wants Q E) ho hb h2 hz hq)))
theorem mTupIndex {a : Addr} {o : Obj} {pl : Sem Bool} {Q : Value × List Value → Shared → Prop} (ho : s.heap.get? a = some o) (hc : o.cls = .type "tuple") (hn : o.dict = none) (h : Q (.builtin "tuple.index", [.ref a]) s) : wpAny (model prog w) A (getMethod (.ref a) (Str.ofString "index") pl) Q E s := by
  refine getMethod_builtin ⟨o, ho, hc⟩ PySem.F.plainAttrs_tuple PySem.F.slot_tuple_index PySem.F.type_tuple_index (fun b e => ?_) h
  cases e
  exact ⟨o, ho, hn⟩
theorem tupIndex {a : Addr} {o : Obj} {n : Nat} {s0 s1 s2 x : Str} {t0 t1 t2 t : Tok} {k : Nat} {Q : Value → Shared → Prop} (ho : s.heap.get? a = some o) (hc : o.cls = .type "tuple") (hd : o.data = .seq [.str s0 t0, .str s1 t1, .str s2 t2].toArray n)
    (hk : (k = 0 ∧ x = s0) ∨ (k = 1 ∧ x ≠ s0 ∧ x = s1) ∨ (k = 2 ∧ x ≠ s0 ∧ x ≠ s1 ∧ x = s2)) (hq : ∀ t tk', Q (.int (k : Int) t) { s with toks := tk' }) :
    wpAny (model prog w) A (call (.builtin "tuple.index") [.ref a, .str x t]) Q E s := by
  refine wpAny_call (codeAny_call_builtin PySem.F.slot_tuple_index.plain PySem.F.entry_tuple_index (PySem.F.slot_tuple_index.check _ _ _ _ _ _ _ _ ⟨o, ho, hc⟩ (PySem.F.args_tuple_index_2 _ _) ?_))
  unfold Builtin.«tuple.index»
  refine wpAny_bind (wpAny_of_eq (a := (.ref a, [.str x t])) rfl ?_)
  dsimp only
  refine wpAny_bind ?_
  unfold Builtin.Tuple.tupleItemsOf
  refine wpAny_bind (wpAny_seqItems ho hd (wpAny_pure ?_))
  refine wpAny_bind (wpAny_pure ?_)
  refine wpAny_bind (wpAny_pure ?_)
  refine wpAny_bind ?_
  rw [Std.Legacy.Range.forIn_eq_forIn_range']
  have hr : List.range' [0:min [Value.str s0 t0, Value.str s1 t1, Value.str s2 t2].toArray.size [Value.str s0 t0, Value.str s1 t1, Value.str s2 t2].toArray.size].start [0:min [Value.str s0 t0, Value.str s1 t1, Value.str s2 t2].toArray.size [Value.str s0 t0, Value.str s1 t1, Value.str s2 t2].toArray.size].size [0:min [Value.str s0 t0, Value.str s1 t1, Value.str s2 t2].toArray.size [Value.str s0 t0, Value.str s1 t1, Value.str s2 t2].toArray.size].step = [0, 1, 2] := by
    simp only [Std.Legacy.Range.size, List.size_toArray, List.length_cons, List.length_nil]
    rfl
  rw [hr]
  rw [List.forIn_cons]
  refine wpAny_bind ?_
  refine wpAny_bind (wpAny_eqBool_str ?_)
  rcases hk with ⟨rfl, e⟩ | ⟨rfl, e0, e⟩ | ⟨rfl, e0, e1, e⟩
  · rw [decide_eq_true e.symm]
    refine wYes rfl ?_
    refine wpAny_bind ?_
    unfold retInt
    wp_walk
    exact hq _ _
  · rw [decide_eq_false (Ne.symm e0)]
    refine wNo (by decide) ?_
    refine wpAny_pure ?_
    dsimp only
    rw [List.forIn_cons]
    refine wpAny_bind ?_
    refine wpAny_bind (wpAny_eqBool_str ?_)
    rw [decide_eq_true e.symm]
    refine wYes rfl ?_
    refine wpAny_bind ?_
    unfold retInt
    wp_walk
    exact hq _ _
  · rw [decide_eq_false (Ne.symm e0)]
    refine wNo (by decide) ?_
    refine wpAny_pure ?_
    dsimp only
    rw [List.forIn_cons]
    refine wpAny_bind ?_
    refine wpAny_bind (wpAny_eqBool_str ?_)
    rw [decide_eq_false (Ne.symm e1)]
    refine wNo (by decide) ?_
    refine wpAny_pure ?_
    dsimp only
    rw [List.forIn_cons]
    refine wpAny_bind ?_
    refine wpAny_bind (wpAny_eqBool_str ?_)
    rw [decide_eq_true e.symm]
    refine wYes rfl ?_
    refine wpAny_bind ?_
    unfold retInt
    wp_walk
    exact hq _ _
end
set_option linter.unusedVariables false
section
variable {w : World} {A : Around} {E : Value → Shared → Prop} {h h' : Heap} {G : Array GenState} {D : Drawn} {tk : Nat} {O : OsState} {g : Heap} {L l B : Addr} {m : Str → Option Value} {led pre post : Ls} {v : Value} {vs : List Value}
theorem Led.grown {r : Res} (N : Led w g L h led) (F : Fr g L h m) (k : h.StaysIn h') (hB : h.objs.size ≤ B) (hr : r.at w h' B) : Led w g L h' ((B, r) :: led) :=
  N.call (tl := [(B, r)]) F k ⟨fun p hp => by
    rw [List.mem_singleton.mp hp]; exact ⟨hr, Nat.lt_of_lt_of_le (N.gt F) hB, Heap.get?_none_of_le hB⟩, by simp [keys]⟩
theorem Led.toNews (N : Led w g L h led) : ∃ nw, News g L h nw ∧ ∀ p ∈ led, ∃ q ∈ nw, q.1 = p.1 ∧ h.get? p.1 = some q.2 := by
  have D := N.D
  induction led with
  | nil => exact ⟨[], News.nil, fun _ hp => nomatch hp⟩
  | cons p r ih =>
    obtain ⟨nw, h1, h2⟩ := ih (N.sub (fun q hq => .tail _ hq) (by rw [keys_cons, List.nodup_cons] at D; exact D.2)) (by rw [keys_cons, List.nodup_cons] at D; exact D.2)
    obtain ⟨o, ho⟩ := res_ex (N.N p (.head _)).1
    refine ⟨(p.1, o) :: nw, fun q hq => ?_, fun q hq => ?_⟩
    · rcases List.mem_cons.mp hq with rfl | hq
      · exact ⟨ho, (N.N p (.head _)).2.2.1, (N.N p (.head _)).2.2.2⟩
      · exact h1 q hq
    · rcases List.mem_cons.mp hq with rfl | hq
      · exact ⟨(q.1, o), .head _, rfl, ho⟩
      · obtain ⟨x, a, b, c⟩ := h2 q hq
        exact ⟨x, .tail _ a, b, c⟩
theorem Led.ofNews {r : Res} {o : Obj} {nw : List (Addr × Obj)} (N : Led w g L h led) (hne : led ≠ []) (h2 : ∀ p ∈ led, ∃ q ∈ nw, q.1 = p.1 ∧ h.get? p.1 = some q.2) (N' : News g L h' ((B, o) :: nw)) (hlt : ∀ q ∈ nw, q.1 < B) (hr : r.at w h' B) :
    Led w g L h' ((B, r) :: led) := by
  have hb : ∀ p ∈ led, p.1 < B := fun p hp => by obtain ⟨q, a, b, _⟩ := h2 p hp; rw [← b]; exact hlt q a
  refine ⟨fun p hp => ?_, ?_, N.B⟩
  · rcases List.mem_cons.mp hp with rfl | hp
    · obtain ⟨x, hx⟩ := List.exists_mem_of_ne_nil _ hne
      exact ⟨hr, Nat.lt_trans (N.N x hx).2.1 (hb x hx), (N' _ (.head _)).2⟩
    · obtain ⟨q, a, b, c⟩ := h2 p hp
      refine ⟨at_of (N.N p hp).1 fun o' e => ?_, (N.N p hp).2⟩
      rw [c] at e; cases e
      rw [← b]; exact (N' q (.tail _ a)).1
  · rw [keys_cons, List.nodup_cons]
    refine ⟨fun z => ?_, N.D⟩
    obtain ⟨p, hp, e⟩ := List.mem_map.mp z
    exact absurd e (Nat.ne_of_lt (hb p hp))
theorem A2.of_get {α β : Type} {R : α → β → Prop} : ∀ {l : List α} {m : List β}, l.length = m.length → (∀ (j : Nat) (a : α), l[j]? = some a → ∃ b, m[j]? = some b ∧ R a b) → A2 R l m
  | [], [], _, _ => .nil
  | [], _ :: _, h, _ => by simp at h
  | _ :: _, [], h, _ => by simp at h
  | a :: l, b :: m, h, k => by
    obtain ⟨b', e, r⟩ := k 0 a rfl
    simp at e; subst e
    exact .cons r (A2.of_get (by simpa using h) fun j x hx => by simpa using k (j + 1) x (by simpa using hx))
theorem sortL {ns : List Int} {Q : Value → Shared → Prop} (F : Fr g L h m) (N : Led w g L h led) (hl : h.IsList l vs.toArray) (hi : A2 IV vs ns) (h64 : vs.length < 64)
    (hq : ∀ h' B vs' ns', Fr g L h' m → Led w g L h' ((B, .lst vs') :: led) → A2 IV vs' ns' → ns'.Perm ns → ns'.Pairwise (· ≤ ·) → Q (.ref B) ⟨h', G, D, tk, O⟩) :
    wpAny (model PR w) A (call (.builtin "sorted") [.ref l]) Q E ⟨h, G, D, tk, O⟩ := by
  refine sorted_ints hl hi.ints h64 fun out ns' a1 a2 a3 => ?_
  obtain ⟨e, he⟩ := sortedAll_at h vs out
  have k : h.StaysIn (sortedAll h vs out) := fun b o q => sortedAll_old q
  exact hq _ _ out.toList ns' (fr_stays F k) (N.grown F k (Nat.le_succ _) ⟨e, by rw [he, Array.toArray_toList]⟩) (A2.ofInts a1) a2 a3
theorem keysA2 {kvs : List (Int × Value)} {vs : List Value} (hl : vs.length = kvs.length) (hv : ∀ (j : Nat) (v : Value), vs[j]? = some v → ∃ k x, kvs[j]? = some (k, x) ∧ (intKind PR w).is k v = true) : A2 IV vs (kvs.map (·.1)) := by
  refine A2.of_get (by simpa using hl) fun j a ha => ?_
  obtain ⟨k, x, e, hk⟩ := hv j a ha
  obtain ⟨t, rfl⟩ := Value.isInt_shape hk
  exact ⟨k, by simp [e], t, rfl⟩
theorem listD {d : Addr} {kvs : List (Int × Value)} {Q : Value → Shared → Prop} (hh : A.handled = none) (F : Fr g L h m) (N : Led w g L h led) (hne : led ≠ []) (hd3 : 3 < d) (hm : h.DictOf (intKind PR w) d kvs) (hz : kvs.length ≤ 16777216)
    (hq : ∀ h' tk' B vs', Fr g L h' m → Led w g L h' ((B, .lst vs') :: led) → A2 IV vs' (kvs.map (·.1)) → Q (.ref B) ⟨h', G, D, tk', O⟩) :
    wpAny (model PR w) A (call (.type "list") [.ref d]) Q E ⟨h, G, D, tk, O⟩ := by
  obtain ⟨ep, hat⟩ := hm.dictAt
  obtain ⟨nw, NW, back⟩ := N.toNews
  refine kdl_N (kdl_dict (knd := intKind PR w) (kvs := kvs) (ep := ep) (sysm hd3)) hh F NW hat (kdl_size hz) fun B c h' tk vs F' N' l1 hl hv => ?_
  exact hq _ _ _ _ F' (N.ofNews hne back N' l1 ⟨c, (N' _ (.head _)).1⟩) (keysA2 hl hv)
theorem sortD {d : Addr} {kvs : List (Int × Value)} {Q : Value → Shared → Prop} (hh : A.handled = none) (F : Fr g L h m) (N : Led w g L h led) (hne : led ≠ []) (hd3 : 3 < d) (hm : h.DictOf (intKind PR w) d kvs) (hz : kvs.length < 64)
    (hq : ∀ h' tk' B vs' ns', Fr g L h' m → Led w g L h' ((B, .lst vs') :: led) → A2 IV vs' ns' → ns'.Perm (kvs.map (·.1)) → ns'.Pairwise (· ≤ ·) → Q (.ref B) ⟨h', G, D, tk', O⟩) :
    wpAny (model PR w) A (call (.builtin "sorted") [.ref d]) Q E ⟨h, G, D, tk, O⟩ := by
  obtain ⟨ep, hat⟩ := hm.dictAt
  obtain ⟨nw, NW, back⟩ := N.toNews
  refine kdu_sorted (kdl_dict (knd := intKind PR w) (kvs := kvs) (ep := ep) (sysm hd3)) hh F NW hat (kdl_size (by omega)) fun B h' tk vs F' N' l1 hl hv => ?_
  have hA := keysA2 (w := w) hl hv
  have ho := (N' _ (.head _)).1
  refine wpAny_call_entry PyProof.Rows.slot_list_sort ⟨_, ho, rfl⟩ PyProof.Rows.entry_list_sort (list_sort_tree (n := 0) (vs := vs) ho hA.ints (by omega) fun out ns' hI hp hP => ⟨.none, rfl, ?_⟩) (PyProof.Rows.args_list_sort _)
  obtain ⟨c, hc⟩ := sortedHeap_at (out := out) ho
  have k : ∀ b o, b ≠ B → h'.get? b = some o → (sortedHeap h' B vs out).get? b = some o := fun b o hb e => (sortedHeap_old hb (Heap.lt_size e)).trans e
  have hBL : L ≠ B := Ne.symm (N' _ (.head _)).2.1
  refine hq _ _ B out.toList ns' ⟨F'.ns.at' fun o e => k _ _ hBL e, fun b o e => k b o (fun q => ?_) (F'.keep b o e), F'.above⟩ (N.ofNews (o := seqObj "list" out c) hne back (fun p hp => ?_) l1 ⟨c, by rw [hc, Array.toArray_toList]⟩) (A2.ofInts hI) hp hP
  · rw [q, (N' _ (.head _)).2.2] at e; cases e
  · rcases List.mem_cons.mp hp with rfl | hp
    · exact ⟨hc, (N' _ (.head _)).2⟩
    · exact ⟨k _ _ (Nat.ne_of_lt (l1 p hp)) (N' p (.tail _ hp)).1, (N' p (.tail _ hp)).2⟩
theorem constBy {x : List UInt8} {k pos} {env : Env} {Q : Value → Shared → Prop} (hq : ∀ t tk', Q (.bytes x.toArray t) ⟨h, G, D, tk', O⟩) : wpAny (model PR w) A (eval (.Constant (.bytes x) k pos) env) Q E ⟨h, G, D, tk, O⟩ := Constant_bytes (hq _ _)
theorem lksU {a b : List Int} (p : a.Perm b) (ha : a.Pairwise (· ≤ ·)) (hb : b.Pairwise (· ≤ ·)) : a = b := PySem.W.lks_uniq p ha hb
theorem waysO {w : World} {h : Heap} (X : (hd.heap_1 w.params).In h) : ∃ o n, h.get? 90 = some o ∧ o.cls = .type "tuple" ∧ o.dict = none ∧ o.data = .seq [.str (wayS 0) 298, .str (wayS 1) 299, .str (wayS 2) 300].toArray n := ⟨_, _, X _ _ (by k_is), rfl, rfl, rfl⟩
theorem mWays {pl : Sem Bool} {Q : Value × List Value → Shared → Prop} (X : (hd.heap_1 w.params).In h) (hq : Q (.builtin "tuple.index", [.ref 90]) ⟨h, G, D, tk, O⟩) : wpAny (model PR w) A (getMethod (.ref 90) (Str.ofString "index") pl) Q E ⟨h, G, D, tk, O⟩ := by
  obtain ⟨o, n, a, b, c, _⟩ := waysO X
  exact mTupIndex a b c hq
theorem waysIndex {k : Nat} {t : Tok} {Q : Value → Shared → Prop} (X : (hd.heap_1 w.params).In h) (hk : k < 3) (hq : ∀ t tk', Q (.int (k : Int) t) ⟨h, G, D, tk', O⟩) :
    wpAny (model PR w) A (call (.builtin "tuple.index") [.ref 90, .str (wayS k) t]) Q E ⟨h, G, D, tk, O⟩ := by
  obtain ⟨o, n, a, b, c, d⟩ := waysO X
  refine tupIndex a b d ?_ hq
  rcases (by omega : k = 0 ∨ k = 1 ∨ k = 2) with rfl | rfl | rfl
  · exact .inl ⟨rfl, rfl⟩
  · exact .inr (.inl ⟨rfl, by decide, rfl⟩)
  · exact .inr (.inr ⟨rfl, by decide, by decide, rfl⟩)
theorem BytesAre.snoc {vs : List Value} {bs : List (Array UInt8)} (x : BytesAre vs bs) (b : Array UInt8) (t : Tok) : BytesAre (vs ++ [.bytes b t]) (bs ++ [b]) := x.app (.cons b t .nil)
end
local macro_rules | `(tactic| walk_at "S") => `(tactic| (with_reducible refine constBy ?_; intro _ _))
set_option linter.unusedVariables false
def fitE (w0 w1 w2 : Nat) (e : E3) : Prop := (0 < w0 → e.1 < 256 ^ w0) ∧ (w0 = 0 → e.1 = 1) ∧ (0 ≤ e.2.1 ∧ e.2.1.toNat < 256 ^ w1) ∧ (0 ≤ e.2.2 ∧ e.2.2.toNat < 256 ^ w2)
def rowB (w0 w1 w2 : Nat) (e : E3) : List UInt8 := (if 0 < w0 then octs e.1 w0 else []) ++ octs e.2.1.toNat w1 ++ octs e.2.2.toNat w2
theorem octs_len (n k : Nat) : (octs n k).length = k := by simp [octs]
theorem rowB_len (w0 w1 w2 : Nat) (e : E3) : (rowB w0 w1 w2 e).length = w0 + w1 + w2 := by
  unfold rowB
  split
  · simp [octs_len]; omega
  · simp [octs_len]; omega
theorem rowsB_len (w0 w1 w2 : Nat) (tab : List (Int × E3)) : (tab.flatMap fun p => rowB w0 w1 w2 p.2).length = tab.length * (w0 + w1 + w2) := by
  induction tab with
  | nil => simp
  | cons p r ih => rw [List.flatMap_cons, List.length_append, ih, rowB_len, List.length_cons, Nat.succ_mul]; omega
theorem rows_octets_c
  {w : World} {mg mb : Str → Option Value} {me : ExcName → Option Value} {A : Around} {H : Heap} {G : Array GenState} {D : Drawn} {tk : Nat} {O : OsState} {h₀ : Heap} {Q E : Value → Shared → Prop}
  (X : (hd.heap_1 w.params).In h₀) (T : TopH mg mb me h₀) (st : h₀.StaysIn H) (hh : A.handled = none) (hdp : A.depth + 60 < recursionLimit) (hu : A.units + 200 < cLine)
  {fr : List Env} (hfr : A.frames = some fr) (hff : FFr H fr)
  {d : Addr} {kvs : List (Int × Value)} {tab : List (Int × E3)} {l : Ls} {v : Value} {w0 w1 w2 : Nat} (hm : H.DictOf (intKind PR w) d kvs) (hd3 : 3 < d) (hl : Has w H l) (hr : A2 (KE l) kvs tab)
  (hv : Nums H v [(w0 : Int), (w1 : Int), (w2 : Int)]) (hw : w0 + w1 + w2 < 2 ^ 10) (h64 : tab.length < 64) (h1 : 1 ≤ tab.length) (hs : (tab.map (·.1)).Pairwise (· ≤ ·))
  (hn : ∀ p ∈ tab, p.2.1 < 3 ∧ p.2.2.1.natAbs < 2 ^ 70 ∧ p.2.2.2.natAbs < 2 ^ 70)
  (post : ∀ h' tk' t, H.StaysIn h' → (∀ p ∈ tab, fitE w0 w1 w2 p.2) → Q (.bytes (tab.flatMap fun p => rowB w0 w1 w2 p.2).toArray t) ⟨h', G, D, tk', O⟩)
  (posE : ∀ e a h' tk', Thrown H h' fr e a → (¬ ∀ p ∈ tab, fitE w0 w1 w2 p.2) → E (.ref e) ⟨h', G, D, tk', O⟩) :
  wpAny (model PR w) A (call (.ref 139) [.ref d, v]) Q E ⟨H, G, D, tk, O⟩ := by
  with_reducible refine' enterE X T st [(Str.ofString "entries", .ref d), (Str.ofString "widths", v)] ?ho ?cd ?room ?bd ?lo ?ce ?co ?ge ?k hfr (fun _ => ¬ ∀ p ∈ tab, fitE w0 w1 w2 p.2) ?hE ?_
  case ho => k_is
  case cd => k_is
  case room => omega
  case bd => exact BindsTo.of_eq rfl
  case lo => exact rfl
  case ce => decide
  case co => exact rfl
  case ge => exact rfl
  case k => exact rfl
  case hE => exact posE
  clear X T
  intro L h tk X T F N
  repeat walk_at "S"
  with_reducible refine newListR F N (by rw [sizeLine_eq]; exact Nat.le_of_ble_eq_true rfl) fun c h F N => ?_
  repeat (first | (with_reducible refine' Seal.ret ?K ?_; case K => with_reducible assumption) | with_reducible refine turnRet ?_)
  with_reducible refine' stR F N ?_ ?_ ?_ ?_
  · exact rfl
  · exact rfl
  · exact rfl
  clear F N; intro h tk F N
  try (with_reducible refine' Seal.next ?K ?_; case K => with_reducible assumption)
  repeat walk_at "S"
  refine sortD hh F N (by simp) hd3 (hm.keep F.keep) (by rw [hr.len]; exact h64) fun h tk B ks ns F N hK hP hS => ?_
  have hns : ns = tab.map (·.1) := lksU (by rw [← hr.fst]; exact hP) hS hs
  subst hns
  have hlB := led_list N (.head _)
  have hklen : ks.length = tab.length := by rw [hK.len, List.length_map]
  with_reducible refine' forList ?_ ?_ ?_ ?_ ?_ F N hlB (fun i m led => ∃ vs bs, m (Str.ofString "entries") = some (.ref d) ∧ m (Str.ofString "widths") = some v ∧ m (Str.ofString "parts") = some (.ref c) ∧ led = [(B, .lst ks), (c, .lst vs)] ∧ BytesAre vs bs ∧ (bs.map (·.toList)).flatten = (tab.take i).flatMap (fun p => rowB w0 w1 w2 p.2) ∧ 2 * i ≤ vs.length ∧ vs.length ≤ 3 * i ∧ (∀ p ∈ tab.take i, fitE w0 w1 w2 p.2)) ?_ ?_ ?_ ?_
  · exact hh
  · exact rfl
  · exact rfl
  · first | exact PassesOwn.never | exact passE1 (Around.frames_deeper hfr) rfl
  · exact rfl
  · exact ⟨[], [], rfl, rfl, rfl, rfl, .nil, rfl, by simp, by simp, fun _ hp => by simp at hp⟩
  · rintro i m led h ⟨vs, bs, m1, m2, m3, rfl, _⟩ F N
    exact led_list N (.head _)
  · clear F N hlB
    rintro I i x m₁ led₁ oI h tk hx ⟨vs, bs, m1, m2, m3, rfl, hB, hF, hv1, hv2, hfit⟩ F N
    obtain ⟨k, hk1, tx, rfl⟩ := hK.get hx
    obtain ⟨⟨k', e⟩, hq, rfl⟩ : ∃ p, tab[i]? = some p ∧ p.1 = k := by simpa using hk1
    obtain ⟨⟨k2, ev⟩, hq2, hk2, tw, u1, u2, hE⟩ := hr.get' hq
    dsimp only at hk2
    subst hk2
    obtain ⟨n1, n2, n3⟩ := hn _ (List.mem_of_getElem? hq)
    have hi : i < tab.length := (List.getElem?_eq_some_iff.mp hq).1
    have hbad : ¬ fitE w0 w1 w2 e → ¬ ∀ p ∈ tab, fitE w0 w1 w2 p.2 := fun z k => z (k _ (List.mem_of_getElem? hq))
    repeat walk_at "S"
    refine dItem (kvs := kvs) (hm.keep F.keep) (valueAt_of_get (let ⟨_, _, _, _, _, _, _, _, z⟩ := hm; z) hq2) (fun _ => ?_) rfl
    with_reducible refine' stR F N ?_ ?_ ?_ ?_
    · exact rfl
    · exact rfl
    · exact rfl
    clear F N; intro h tk F N
    try (with_reducible refine' Seal.next ?K ?_; case K => with_reducible assumption)
    refine joinLd w G D O F (fun led' => ∃ (vs' : List Value) (bs' : List (Array UInt8)), led' = [(I, .raw oI), (B, .lst ks), (c, .lst vs')] ∧ BytesAre vs' bs' ∧ (bs'.map (·.toList)).flatten = (tab.take i).flatMap (fun p => rowB w0 w1 w2 p.2) ++ (if 0 < w0 then octs e.1 w0 else []) ∧ 2 * i ≤ vs'.length ∧ vs'.length ≤ 3 * i + 1 ∧ ((0 < w0 → e.1 < 256 ^ w0) ∧ (w0 = 0 → e.1 = 1))) ?_ ?_
    · intro Qs Ks
      repeat walk_at "S"
      refine nItem (hv.keeps F.keep) (by decide) (by decide) rfl (fun _ => ?_) (fun _ => rfl)
      repeat walk_at "S"
      refine iteB (fun hc => ?_) (fun hc => ?_)
      · have hw0 : 0 < w0 := by omega
        repeat walk_at "S"
        refine mAppend (vs := vs) N (by simp) ?_
        repeat walk_at "S"
        refine mWays (X.keeps F.keep) ?_
        repeat walk_at "S"
        refine getWay F X (hl.keeps F.keep) hE rfl fun _ => ?_
        repeat walk_at "S"
        refine waysIndex (X.keeps F.keep) n1 fun _ _ => ?_
        repeat walk_at "S"
        refine nItem (hv.keeps F.keep) (by decide) (by decide) rfl (fun _ => ?_) (fun _ => rfl)
        repeat walk_at "S"
        refine ⟨X.keeps F.keep, ?_⟩
        refine field_octets_c X T F.keep (by show A.handled = _; exact hh) (by show A.depth + _ + _ < _; omega) (by show A.units + 3 + _ < _; omega) (Around.frames_deeper hfr) (hff.cons F rfl rfl) (by rw [Int.natAbs_natCast]; omega) (by omega) (fun h tk t st' z0 z1 => ?_) (fun e' a h' tk' th z => ⟨e', a, h', tk', rfl, rfl, thrown_from F rfl th, hbad fun f => ?_⟩)
        rotate_left
        · have := f.1 hw0
          rw [Int.toNat_natCast] at z
          rcases z with z | z
          · omega
          · exact absurd this (Nat.not_lt.mpr z)
        replace F := fr_stays F st'
        replace N := N.stays st'
        clear st'
        repeat walk_at "S"
        refine appendR (pre := [(I, .raw oI), (B, .lst ks)]) F N (by omega) fun h F N => ?_
        rw [Int.toNat_natCast] at z1
        repeat walk_at "S"
        refine ⟨_, _, _, rfl, ⟨_, _, rfl, hB.snoc (octs (e.1 : Int).toNat w0).toArray t, ?_, by simp; omega, by simp; omega, fun _ => z1, fun z => by omega⟩, F, N⟩
        rw [List.map_append, List.flatten_append, hF, if_pos hw0]; simp
      · have hw0 : w0 = 0 := by omega
        repeat walk_at "S"
        refine getWay F X (hl.keeps F.keep) hE rfl fun _ => ?_
        repeat walk_at "S"
        refine iteB (fun hc2 => ?_) (fun hc2 => ?_)
        · repeat walk_at "S"
          refine raiseFault (by show A.handled = _; exact hh) rfl rfl X ?_
          walk_at "S"
          refine ⟨rfl, ?_⟩
          repeat walk_at "S"
          refine ⟨X.keeps F.keep, ?_⟩
          refine mkFault X T F.keep (by show A.depth + _ + _ < _; omega) (.inr ⟨rfl, rfl, rfl⟩) fun e h' tk' vsx fa hv1 => ?_
          refine raised X hff F (fun _ _ q => q) rfl rfl fa hv1 (hbad fun f => hc2 (by rw [f.2.1 hw0]; rfl))
        repeat walk_at "S"
        exact ⟨_, _, _, rfl, ⟨_, _, rfl, hB, by rw [hF, if_neg (by omega), List.append_nil], hv1, by omega, fun z => by omega, fun _ => (wayS_used _).mp (by simpa using hc2)⟩, F, N⟩
    clear F N hB hF hv1 hv2
    rintro h tk _ ⟨vs', bs', rfl, hB', hF', hv1', hv2', hfw⟩ F N
    repeat walk_at "S"
    refine mAppend (vs := vs') N (by simp) ?_
    repeat walk_at "S"
    refine getOne F X (hl.keeps F.keep) hE rfl fun _ => ?_
    repeat walk_at "S"
    refine nItem (hv.keeps F.keep) (by decide) (by decide) rfl (fun _ => ?_) (fun _ => rfl)
    repeat walk_at "S"
    refine ⟨X.keeps F.keep, ?_⟩
    refine field_octets_c X T F.keep (by show A.handled = _; exact hh) (by show A.depth + _ + _ < _; omega) (by show A.units + 3 + _ < _; omega) (Around.frames_deeper hfr) (hff.cons F rfl rfl) n2 (by omega) (fun h tk t st' z2 z3 => ?_) (fun e' a h' tk' th z => ⟨e', a, h', tk', rfl, rfl, thrown_from F rfl th, hbad fun f => ?_⟩)
    rotate_left
    · obtain ⟨f1, f2⟩ := f.2.2.1
      rcases z with z | z
      · exact absurd f1 (Int.not_le.mpr z)
      · exact absurd f2 (Nat.not_lt.mpr z)
    replace F := fr_stays F st'
    replace N := N.stays st'
    clear st'
    repeat walk_at "S"
    refine appendR (pre := [(I, .raw oI), (B, .lst ks)]) F N (by omega) fun h F N => ?_
    repeat walk_at "S"
    refine mAppend (vs := vs' ++ [_]) N (.tail _ (.tail _ (.head _))) ?_
    repeat walk_at "S"
    refine getTwo F X (hl.keeps F.keep) hE rfl fun _ => ?_
    repeat walk_at "S"
    refine nItem (hv.keeps F.keep) (by decide) (by decide) rfl (fun _ => ?_) (fun _ => rfl)
    repeat walk_at "S"
    refine ⟨X.keeps F.keep, ?_⟩
    refine field_octets_c X T F.keep (by show A.handled = _; exact hh) (by show A.depth + _ + _ < _; omega) (by show A.units + 3 + _ < _; omega) (Around.frames_deeper hfr) (hff.cons F rfl rfl) n3 (by omega) (fun h tk t st' z4 z5 => ?_) (fun e' a h' tk' th z => ⟨e', a, h', tk', rfl, rfl, thrown_from F rfl th, hbad fun f => ?_⟩)
    rotate_left
    · obtain ⟨f1, f2⟩ := f.2.2.2
      rcases z with z | z
      · exact absurd f1 (Int.not_le.mpr z)
      · exact absurd f2 (Nat.not_lt.mpr z)
    replace F := fr_stays F st'
    replace N := N.stays st'
    clear st'
    repeat walk_at "S"
    refine appendR (pre := [(I, .raw oI), (B, .lst ks)]) F N (by simp; omega) fun h F N => ?_
    repeat walk_at "S"
    refine turnNext [] F N ⟨_, _, m1, m2, m3, rfl, (hB'.snoc _ _).snoc _ _, ?_, by simp; omega, by simp; omega, fun p hp => ?_⟩
    · rw [List.map_append, List.map_append, List.flatten_append, List.flatten_append, hF', take_snoc hq, List.flatMap_append]
      simp [rowB]
    · rw [take_snoc hq] at hp
      rcases List.mem_append.mp hp with hp | hp
      · exact hfit p hp
      · rw [List.mem_singleton.mp hp]
        exact ⟨hfw.1, hfw.2, ⟨z2, z3⟩, ⟨z4, z5⟩⟩
  · clear F N hlB
    rintro m₁ led₁ h tk ⟨vs, bs, m1, m2, m3, rfl, hB, hF, hv1, hv2, hfit⟩ F N
    try dsimp only
    rw [hklen] at hF hv1 hv2 hfit
    rw [List.take_length] at hF hfit
    repeat walk_at "S"
    refine mJoin ?_
    repeat walk_at "S"
    have hlenR := rowsB_len w0 w1 w2 tab
    have hmul : tab.length * (w0 + w1 + w2) ≤ 64 * 1024 := Nat.mul_le_mul (by omega) (by omega)
    refine joinR (N.get (a := c) (r := .lst vs) (.tail _ (.head _))) hB (by omega) (by rw [← flat_sum, hF, hlenR]; omega) fun t tk => ?_
    rw [hF]
    repeat (first | (with_reducible refine' Seal.ret ?K ?_; case K => with_reducible assumption) | with_reducible refine turnRet ?_)
    exact post _ _ _ F.keep hfit
set_option linter.unusedVariables false
section
variable {w : World} {A : Around} {E : Value → Shared → Prop} {h h' : Heap} {G : Array GenState} {D : Drawn} {tk : Nat} {O : OsState} {g : Heap} {L l b : Addr} {m : Str → Option Value} {led pre post : Ls} {v x : Value} {vs us : List Value} {t : Tok}
theorem lLast {value slice : Expr} {Q : Value → Shared → Prop} (hl : h.IsList l (us ++ [x]).toArray) (hz : us.length < 2 ^ 60) (hq : Q x ⟨h, G, D, tk, O⟩)
    (hs : subscripted slice false (.ref l) (.int (-1) t) = operate [.ref l, .int (-1) t] (getItem (.ref l) (.int (-1) t))) :
    wpAny (model PR w) A (subscriptTail value slice (.ref l) (.int (-1) t)) Q E ⟨h, G, D, tk, O⟩ := by
  refine tail_any hl.typeIs slot_list_getitem.lookup (wpAny_getItem_list_neg hl (by decide) ?_ (by decide) ?_ hq) hs
  · simp; omega
  · have e : ((-1 : Int) + ((us ++ [x]).toArray.size : Nat)).toNat = us.length := by simp; omega
    rw [e]; simp
theorem lSetLast {Q : Unit → Shared → Prop} (F : Fr g L h m) (N : Led w g L h (pre ++ (l, .lst (us ++ [x])) :: post)) (hq : ∀ h', Fr g L h' m → Led w g L h' (pre ++ (l, .lst (us ++ [v])) :: post) → Q () ⟨h', G, D, tk, O⟩) :
    wpAny (model PR w) A (setItem (.ref l) (.int (-1) t) v) Q E ⟨h, G, D, tk, O⟩ := by
  obtain ⟨n, ho⟩ : h.PlainList l (us ++ [x]).toArray := N.get (a := l) (r := .lst (us ++ [x])) (by simp)
  refine ki_setBack (n := n) ho (by decide) (by simp; omega) (by decide) ?_
  have e : ((-1 : Int) + ((us ++ [x]).toArray.size : Nat)).toNat = us.length := by simp; omega
  rw [e]
  have q := PySem.IsL.update (n := n) ho fun xs => xs.setIfInBounds us.length v
  have e2 : ((us ++ [x]).toArray).setIfInBounds us.length v = (us ++ [v]).toArray := by
    apply Array.ext'
    simp
  rw [e2] at q
  obtain ⟨F', N'⟩ := N.upd (r' := .lst (us ++ [v])) F (Heap.SameBut.update ..) ⟨_, q⟩
  exact hq _ F' N'
theorem neNil {a b : Addr} {Q : Value → Shared → Prop} (ha : h.IsList a vs.toArray) (hb : h.IsList b ([] : List Value).toArray) (hu : A.units < cLine) (hq : Q (.bool (decide (vs ≠ []))) ⟨h, G, D, tk, O⟩) :
    wpAny (model PR w) A (compareOp .NotEq (.ref a) (.ref b)) Q E ⟨h, G, D, tk, O⟩ := by
  show wpAny _ _ (richCompare .NotEq (.ref a) (.ref b)) _ _ _
  cases vs with
  | nil => exact SeqAt.RcNeAt.lists (e := fun _ => true) ha hb rfl hu (fun j h1 _ => absurd h1 (by simp)) PR w E Q (by simpa using hq)
  | cons y r => exact SeqAt.RcNeAt.lists_lengths ha hb (by simp) hu PR w E Q (by simpa using hq)
theorem eqNil {a b : Addr} {Q : Value → Shared → Prop} (ha : h.IsList a vs.toArray) (hb : h.IsList b ([] : List Value).toArray) (hu : A.units < cLine) (hq : Q (.bool (decide (vs = []))) ⟨h, G, D, tk, O⟩) :
    wpAny (model PR w) A (compareOp .Eq (.ref a) (.ref b)) Q E ⟨h, G, D, tk, O⟩ := by
  show wpAny _ _ (richCompare .Eq (.ref a) (.ref b)) _ _ _
  cases vs with
  | nil => exact SeqAt.RcAt.lists (e := fun _ => true) ha hb rfl hu (fun j h1 _ => absurd h1 (by simp)) PR w E Q (by simpa using hq)
  | cons y r => exact SeqAt.RcAt.lists_lengths ha hb (by simp) hu PR w E Q (by simpa using hq)
end
section
variable {w : World} {A : Around} {E : Value → Shared → Prop} {h h' : Heap} {G : Array GenState} {D : Drawn} {tk : Nat} {O : OsState} {g : Heap} {L l a : Addr} {m : Str → Option Value} {led : Ls} {v : Value} {vs : List Value}
theorem updM {r r' : Res} (F : Fr g L h m) (N : Led w g L h led) (hm : (a, r) ∈ led) (hs : Heap.SameBut a h h') (hr : r'.at w h' a) :
    ∃ led', Fr g L h' m ∧ Led w g L h' led' ∧ (a, r') ∈ led' ∧ ∀ p ∈ led, p ≠ (a, r) → p ∈ led' := by
  obtain ⟨pre, post, rfl⟩ := List.append_of_mem hm
  obtain ⟨F', N'⟩ := N.upd (r' := r') F hs hr
  refine ⟨_, F', N', by simp, fun p hp ne => ?_⟩
  rcases List.mem_append.mp hp with q | q
  · exact List.mem_append_left _ q
  · rcases List.mem_cons.mp q with q | q
    · exact absurd q ne
    · exact List.mem_append_right _ (.tail _ q)
theorem appendM {Q : Value → Shared → Prop} (F : Fr g L h m) (N : Led w g L h led) (hm : (l, .lst vs) ∈ led) (hz : vs.length ≤ 16777216)
    (hq : ∀ h' led', Fr g L h' m → Led w g L h' led' → (l, .lst (vs ++ [v])) ∈ led' → (∀ p ∈ led, p ≠ (l, .lst vs) → p ∈ led') → Q .none ⟨h', G, D, tk, O⟩) :
    wpAny (model PR w) A (call (.builtin "list.append") [.ref l, v]) Q E ⟨h, G, D, tk, O⟩ := by
  obtain ⟨n, ho⟩ : h.PlainList l vs.toArray := N.get hm
  refine append_at ho (fun h' hs ho' => ?_) (by rw [sizeLine_eq]; simpa using hz)
  obtain ⟨led', F', N', a, b⟩ := updM (r' := .lst (vs ++ [v])) F N hm hs ⟨n + 1, by rw [ho', List.push_toArray]⟩
  exact hq _ _ F' N' a b
theorem setLastM {us : List Value} {x : Value} {t : Tok} {Q : Unit → Shared → Prop} (F : Fr g L h m) (N : Led w g L h led) (hm : (l, .lst (us ++ [x])) ∈ led)
    (hq : ∀ h' led', Fr g L h' m → Led w g L h' led' → (l, .lst (us ++ [v])) ∈ led' → (∀ p ∈ led, p ≠ (l, .lst (us ++ [x])) → p ∈ led') → Q () ⟨h', G, D, tk, O⟩) :
    wpAny (model PR w) A (setItem (.ref l) (.int (-1) t) v) Q E ⟨h, G, D, tk, O⟩ := by
  obtain ⟨pre, post, rfl⟩ := List.append_of_mem hm
  refine lSetLast F N fun h' F' N' => hq _ _ F' N' (by simp) fun p hp ne => ?_
  rcases List.mem_append.mp hp with q | q
  · exact List.mem_append_left _ q
  · rcases List.mem_cons.mp q with q | q
    · exact absurd q ne
    · exact List.mem_append_right _ (.tail _ q)
theorem dSetM {d : Addr} {k : Int} {t : Tok} {kvs : List (Int × Value)} {Q : Unit → Shared → Prop} (F : Fr g L h m) (N : Led w g L h led) (hm : (d, .dct kvs) ∈ led) (hz : kvs.length ≤ 16777216)
    (hq : ∀ h' tk' led', Fr g L h' m → Led w g L h' led' → (d, .dct (stored kvs k v)) ∈ led' → (∀ p ∈ led, p ≠ (d, .dct kvs) → p ∈ led') → Q () ⟨h', G, D, tk', O⟩) :
    wpAny (model PR w) A (setItem (.ref d) (.int k t) v) Q E ⟨h, G, D, tk, O⟩ := by
  obtain ⟨pre, post, rfl⟩ := List.append_of_mem hm
  refine dSet F N hz fun h' tk' F' N' => hq _ _ _ F' N' (by simp) fun p hp ne => ?_
  rcases List.mem_append.mp hp with q | q
  · exact List.mem_append_left _ q
  · rcases List.mem_cons.mp q with q | q
    · exact absurd q ne
    · exact List.mem_append_right _ (.tail _ q)
theorem turnM {I : Addr} {oI : Obj} {J' : (Str → Option Value) → Ls → Prop} {Q : Flow → Shared → Prop} (F : Fr g L h m) (N : Led w g L h led) (hm : (I, .raw oI) ∈ led) (hJ : ∀ led', (∀ p ∈ led, p ≠ (I, .raw oI) → p ∈ led') → J' m led') :
    TurnEnd w g L I oI J' G D O Q .next ⟨h, G, D, tk, O⟩ := by
  obtain ⟨pre, post, rfl⟩ := List.append_of_mem hm
  refine turnNext pre F N (hJ _ fun p hp ne => ?_)
  rcases List.mem_append.mp hp with q | q
  · exact List.mem_append_left _ q
  · rcases List.mem_cons.mp q with q | q
    · exact absurd q ne
    · exact List.mem_append_right _ q
/-- the object a in front -/
theorem Led.front {r : Res} (N : Led w g L h led) (hm : (a, r) ∈ led) : ∃ l, Led w g L h ((a, r) :: l) ∧ ∀ p ∈ led, p ≠ (a, r) → p ∈ l := by
  obtain ⟨pre, post, rfl⟩ := List.append_of_mem hm
  refine ⟨pre ++ post, N.perm List.perm_middle, fun p hp ne => ?_⟩
  rcases List.mem_append.mp hp with q | q
  · exact List.mem_append_left _ q
  · rcases List.mem_cons.mp q with q | q
    · exact absurd q ne
    · exact List.mem_append_right _ q
end
theorem A2.unsnoc {α β : Type} {R : α → β → Prop} {l : List α} {m : List β} {b : β} (x : A2 R l (m ++ [b])) : ∃ l' a, l = l' ++ [a] ∧ A2 R l' m ∧ R a b := by
  induction m generalizing l with
  | nil => cases x with | cons r y => cases y; exact ⟨[], _, rfl, .nil, r⟩
  | cons c m ih =>
    cases x with
    | cons r y =>
      obtain ⟨l', a, rfl, z, s⟩ := ih y
      exact ⟨_ :: l', a, rfl, .cons r z, s⟩
set_option linter.unusedVariables false
def rStep (acc : List (Nat × Nat)) (n : Nat) : List (Nat × Nat) :=
  match acc.getLast? with
  | none => [(n, 1)]
  | some p => if n = p.1 + p.2 then acc.dropLast ++ [(p.1, p.2 + 1)] else if n > p.1 + p.2 then acc ++ [(n, 1)] else acc
def runsOf (ks : List Nat) : List (Nat × Nat) := ks.foldl rStep []
theorem runsOf_snoc (ks : List Nat) (n : Nat) : runsOf (ks ++ [n]) = rStep (runsOf ks) n := by simp [runsOf]
theorem rStep_snoc (us : List (Nat × Nat)) (a c n : Nat) : rStep (us ++ [(a, c)]) n = if n = a + c then us ++ [(a, c + 1)] else if n > a + c then us ++ [(a, c)] ++ [(n, 1)] else us ++ [(a, c)] := by
  unfold rStep
  rw [List.getLast?_concat, List.dropLast_concat]
theorem runs_len (ks : List Nat) : (runsOf ks).length ≤ ks.length := by
  suffices ∀ (ks : List Nat) (acc : List (Nat × Nat)), (ks.foldl rStep acc).length ≤ acc.length + ks.length by simpa [runsOf] using this ks []
  intro ks
  induction ks with
  | nil => intro acc; simp
  | cons k r ih =>
    intro acc
    refine Nat.le_trans (ih _) ?_
    have : (rStep acc k).length ≤ acc.length + 1 := by
      rcases List.eq_nil_or_concat acc with rfl | ⟨us, ⟨a, c⟩, rfl⟩
      · simp [rStep]
      · rw [List.concat_eq_append, rStep_snoc]; split
        · simp
        · split <;> simp
    simp; omega
abbrev RunR (l : Ls) (v : Value) (p : Nat × Nat) : Prop := ∃ a t1 t2, v = .ref a ∧ (a, Res.tup [.int (p.1 : Int) t1, .int (p.2 : Int) t2]) ∈ l
theorem runs_of_c
  {w : World} {mg mb : Str → Option Value} {me : ExcName → Option Value} {A : Around} {H : Heap} {G : Array GenState} {D : Drawn} {tk : Nat} {O : OsState} {h₀ : Heap} {Q E : Value → Shared → Prop}
  (X : (hd.heap_1 w.params).In h₀) (T : TopH mg mb me h₀) (st : h₀.StaysIn H) (hh : A.handled = none) (hdp : A.depth + 10 < recursionLimit) (hu : A.units + 90 < cLine)
  {q : Addr} {qs : List Value} {ks : List Nat} (hl : H.IsList q qs.toArray) (hA : A2 IV qs (ks.map fun (k : Nat) => (k : Int))) (h64 : ks.length < 64) (hs : ks.Pairwise (· ≤ ·))
  (post : ∀ h' tk' a vs l, H.StaysIn h' → New w H h' ((a, .lst vs) :: l) → A2 (RunR l) vs (runsOf ks) → Q (.ref a) ⟨h', G, D, tk', O⟩) :
  wpAny (model PR w) A (call (.ref 49) [.ref q]) Q E ⟨H, G, D, tk, O⟩ := by
  with_reducible refine' enterP X T st [(Str.ofString "numbers", .ref q)] ?ho ?cd ?room ?bd ?lo ?ce ?co ?ge ?k ?_
  case ho => k_is
  case cd => k_is
  case room => omega
  case bd => exact BindsTo.of_eq rfl
  case lo => exact rfl
  case ce => decide
  case co => exact rfl
  case ge => exact rfl
  case k => exact rfl
  clear X T
  intro L h tk X T F N
  repeat walk_at "S"
  with_reducible refine newListR F N (by rw [sizeLine_eq]; exact Nat.le_of_ble_eq_true rfl) fun c h F N => ?_
  repeat (first | (with_reducible refine' Seal.ret ?K ?_; case K => with_reducible assumption) | with_reducible refine turnRet ?_)
  with_reducible refine' stR F N ?_ ?_ ?_ ?_
  · exact rfl
  · exact rfl
  · exact rfl
  clear F N; intro h tk F N
  try (with_reducible refine' Seal.next ?K ?_; case K => with_reducible assumption)
  repeat walk_at "S"
  have hql : qs.length = ks.length := by rw [hA.len, List.length_map]
  refine sortL F N (hl.at fun o e => F.keep _ _ e) hA (by omega) fun h B bs ns F N hB hP hS => ?_
  have hns : ns = ks.map fun (k : Nat) => (k : Int) := lksU hP hS (List.pairwise_map.mpr (hs.imp fun z => by omega))
  subst hns
  have hlB := led_list N (.head _)
  have hBc : B ≠ c := by have := N.D; simp [keys] at this; exact this
  with_reducible refine' forList ?_ ?_ ?_ ?_ ?_ F N hlB (fun i m led => ∃ vs, m (Str.ofString "runs") = some (.ref c) ∧ (B, .lst bs) ∈ led ∧ (c, .lst vs) ∈ led ∧ A2 (RunR led) vs (runsOf (ks.take i))) ?_ ?_ ?_ ?_
  · exact hh
  · exact rfl
  · exact rfl
  · first | exact PassesOwn.never | exact passE1 (Around.frames_deeper hfr) rfl
  · exact rfl
  · exact ⟨[], rfl, .head _, .tail _ (.head _), .nil⟩
  · rintro i m led h ⟨vs, m1, hmB, _⟩ F N
    exact led_list N hmB
  · clear F N hlB
    rintro I i x m₁ led₁ oI h tk hx ⟨vs, m1, hmB, hmc, hR⟩ F N
    obtain ⟨k', hk1, tx, rfl⟩ := hB.get hx
    obtain ⟨k, hq, rfl⟩ : ∃ k, ks[i]? = some k ∧ (k : Int) = k' := by simpa using hk1
    have hi : i < ks.length := (List.getElem?_eq_some_iff.mp hq).1
    have hnext : runsOf (ks.take (i + 1)) = rStep (runsOf (ks.take i)) k := by rw [take_snoc hq, runsOf_snoc]
    have hlen := Nat.le_trans (runs_len (ks.take i)) (by simp; omega : (ks.take i).length ≤ i)
    have hvl := hR.len
    have tupOf : ∀ {h' : Heap} {led' : Ls} {v : Value} {p : Nat × Nat}, Led w H L h' led' → (∀ q ∈ led₁, q ∈ led') → RunR led₁ v p → ∃ a t1 t2, v = .ref a ∧ IsTup h' a [.int (p.1 : Int) t1, .int (p.2 : Int) t2].toArray := by
      rintro h' led' v p N' hsub ⟨a, t1, t2, rfl, hm⟩
      exact ⟨a, t1, t2, rfl, N'.get (hsub _ hm)⟩
    repeat walk_at "S"
    with_reducible refine newListR F N (by rw [sizeLine_eq]; exact Nat.le_of_ble_eq_true rfl) fun e h F N => ?_
    repeat (first | (with_reducible refine' Seal.ret ?K ?_; case K => with_reducible assumption) | with_reducible refine turnRet ?_)
    repeat walk_at "S"
    refine neNil (led_list N (l := c) (vs := vs) (.tail _ (.tail _ hmc))) (led_list N (.head _)) (by show A.units + _ < _; omega) ?_
    repeat walk_at "S"
    generalize runsOf (ks.take i) = acc at hR hnext hlen hvl
    rcases List.eq_nil_or_concat acc with rfl | ⟨us, ⟨a, n⟩, rfl⟩
    · have hv0 : vs = [] := by cases hR; rfl
      subst hv0
      refine iteB (fun hc => absurd rfl hc) (fun _ => ?_)
      repeat walk_at "S"
      with_reducible refine newListR F N (by rw [sizeLine_eq]; exact Nat.le_of_ble_eq_true rfl) fun e2 h F N => ?_
      repeat (first | (with_reducible refine' Seal.ret ?K ?_; case K => with_reducible assumption) | with_reducible refine turnRet ?_)
      repeat walk_at "S"
      refine eqNil (led_list N (l := c) (vs := []) (.tail _ (.tail _ (.tail _ hmc)))) (led_list N (.head _)) (by show A.units + _ < _; omega) ?_
      repeat walk_at "S"
      refine iteB (fun _ => ?_) (fun hc => absurd rfl hc)
      repeat walk_at "S"
      refine mAppend (l := c) (vs := []) N (.tail _ (.tail _ (.tail _ hmc))) ?_
      repeat walk_at "S"
      with_reducible refine newTupleR F N (by rw [sizeLine_eq]; exact Nat.le_of_ble_eq_true rfl) fun tp h F N => ?_
      repeat (first | (with_reducible refine' Seal.ret ?K ?_; case K => with_reducible assumption) | with_reducible refine turnRet ?_)
      repeat walk_at "S"
      refine appendM (l := c) (vs := []) F N (.tail _ (.tail _ (.tail _ (.tail _ hmc)))) (by simp) fun h led' F N hc hk => ?_
      repeat walk_at "S"
      refine turnM F N (hk _ (by simp) (by simp)) fun led'' hk2 => ⟨_, m1, hk2 _ (hk _ (by simp [hmB]) (by simp [hBc])) (by simp), hk2 _ hc (by simp), ?_⟩
      rw [hnext]
      exact .cons ⟨tp, _, _, rfl, hk2 _ (hk _ (.head _) (by simp)) (by simp)⟩ .nil
    · rw [List.concat_eq_append] at hR hnext hlen hvl
      obtain ⟨vs, x, rfl, hR1, hR2⟩ := hR.unsnoc
      rw [rStep_snoc] at hnext
      simp only [List.length_append, List.length_cons, List.length_nil] at hlen hvl
      refine iteB (fun _ => ?_) (fun hc => absurd (by simp) hc)
      repeat walk_at "S"
      obtain ⟨ax, t1, t2, rfl, hmx⟩ := id hR2
      refine lLast (led_list N (.tail _ (.tail _ hmc))) (by omega) ?_ rfl
      repeat walk_at "S"
      refine tItem (vs := [.int (a : Int) t1, .int (n : Int) t2]) (N.get (a := ax) (r := .tup _) (.tail _ (.tail _ hmx))) (by decide) (by decide) rfl ?_ rfl
      repeat walk_at "S"
      refine lLast (led_list N (.tail _ (.tail _ hmc))) (by omega) ?_ rfl
      repeat walk_at "S"
      refine tItem (vs := [.int (a : Int) t1, .int (n : Int) t2]) (N.get (a := ax) (r := .tup _) (.tail _ (.tail _ hmx))) (by decide) (by decide) rfl ?_ rfl
      repeat walk_at "S"
      have hmain : ∀ {led' : Ls} {p : Nat × Nat} {tp : Addr} {t1 t2 : Tok}, (∀ a us, (a, Res.tup us) ∈ led₁ → (a, Res.tup us) ∈ led') → (tp, Res.tup [.int (p.1 : Int) t1, .int (p.2 : Int) t2]) ∈ led' → A2 (RunR led') (vs ++ [Value.ref tp]) (us ++ [p]) := fun hk hm =>
        (hR1.mono fun v p ⟨a, t1, t2, q, hm⟩ => ⟨a, t1, t2, q, hk _ _ hm⟩).snoc ⟨_, _, _, rfl, hm⟩
      refine iteB (fun hc => ?_) (fun hc => ?_)
      · rw [if_pos (by omega)] at hnext
        repeat walk_at "S"
        refine lLast (led_list N (.tail _ (.tail _ hmc))) (by omega) ?_ rfl
        repeat walk_at "S"
        refine tItem (vs := [.int (a : Int) t1, .int (n : Int) t2]) (N.get (a := ax) (r := .tup _) (.tail _ (.tail _ hmx))) (by decide) (by decide) rfl ?_ rfl
        repeat walk_at "S"
        refine lLast (led_list N (.tail _ (.tail _ hmc))) (by omega) ?_ rfl
        repeat walk_at "S"
        refine tItem (vs := [.int (a : Int) t1, .int (n : Int) t2]) (N.get (a := ax) (r := .tup _) (.tail _ (.tail _ hmx))) (by decide) (by decide) rfl ?_ rfl
        repeat walk_at "S"
        with_reducible refine newTupleR F N (by rw [sizeLine_eq]; exact Nat.le_of_ble_eq_true rfl) fun tp h F N => ?_
        repeat (first | (with_reducible refine' Seal.ret ?K ?_; case K => with_reducible assumption) | with_reducible refine turnRet ?_)
        repeat walk_at "S"
        refine setLastM F N (.tail _ (.tail _ (.tail _ hmc))) fun h led' F N hc2 hk => ?_
        repeat walk_at "S"
        refine turnM F N (hk _ (by simp) (by simp)) fun led'' hk2 => ⟨_, m1, hk2 _ (hk _ (by simp [hmB]) (by simp [hBc])) (by simp), hk2 _ hc2 (by simp), ?_⟩
        rw [hnext]
        exact hmain (p := (a, n + 1)) (fun a us hq => hk2 _ (hk _ (.tail _ (.tail _ (.tail _ hq))) (by simp)) (by simp)) (hk2 _ (hk _ (.head _) (by simp)) (by simp))
      · rw [if_neg (by omega)] at hnext
        repeat walk_at "S"
        with_reducible refine newListR F N (by rw [sizeLine_eq]; exact Nat.le_of_ble_eq_true rfl) fun e2 h F N => ?_
        repeat (first | (with_reducible refine' Seal.ret ?K ?_; case K => with_reducible assumption) | with_reducible refine turnRet ?_)
        repeat walk_at "S"
        refine eqNil (led_list N (l := c) (vs := vs ++ [.ref ax]) (.tail _ (.tail _ (.tail _ hmc)))) (led_list N (.head _)) (by show A.units + _ < _; omega) ?_
        repeat walk_at "S"
        refine iteB (fun hc2 => absurd hc2 (by simp)) (fun _ => ?_)
        repeat walk_at "S"
        refine lLast (led_list N (.tail _ (.tail _ (.tail _ hmc)))) (by omega) ?_ rfl
        repeat walk_at "S"
        refine tItem (vs := [.int (a : Int) t1, .int (n : Int) t2]) (N.get (a := ax) (r := .tup _) (.tail _ (.tail _ (.tail _ hmx)))) (by decide) (by decide) rfl ?_ rfl
        repeat walk_at "S"
        refine lLast (led_list N (.tail _ (.tail _ (.tail _ hmc)))) (by omega) ?_ rfl
        repeat walk_at "S"
        refine tItem (vs := [.int (a : Int) t1, .int (n : Int) t2]) (N.get (a := ax) (r := .tup _) (.tail _ (.tail _ (.tail _ hmx)))) (by decide) (by decide) rfl ?_ rfl
        repeat walk_at "S"
        refine iteB (fun hc2 => ?_) (fun hc2 => ?_)
        · rw [if_pos (by omega)] at hnext
          repeat walk_at "S"
          refine mAppend (l := c) (vs := vs ++ [.ref ax]) N (.tail _ (.tail _ (.tail _ hmc))) ?_
          repeat walk_at "S"
          with_reducible refine newTupleR F N (by rw [sizeLine_eq]; exact Nat.le_of_ble_eq_true rfl) fun tp h F N => ?_
          repeat (first | (with_reducible refine' Seal.ret ?K ?_; case K => with_reducible assumption) | with_reducible refine turnRet ?_)
          repeat walk_at "S"
          refine appendM F N (.tail _ (.tail _ (.tail _ (.tail _ hmc)))) (by simp; omega) fun h led' F N hc3 hk => ?_
          repeat walk_at "S"
          refine turnM F N (hk _ (by simp) (by simp)) fun led'' hk2 => ⟨_, m1, hk2 _ (hk _ (by simp [hmB]) (by simp [hBc])) (by simp), hk2 _ hc3 (by simp), ?_⟩
          rw [hnext]
          refine A2.snoc (hR.mono fun v p ⟨a, t1, t2, q, hm⟩ => ⟨a, t1, t2, q, hk2 _ (hk _ (by simp [hm]) (by simp)) (by simp)⟩) ⟨tp, _, _, rfl, hk2 _ (hk _ (.head _) (by simp)) (by simp)⟩
        · rw [if_neg (by omega)] at hnext
          repeat walk_at "S"
          refine turnM F N (by simp) fun led'' hk2 => ⟨vs ++ [.ref ax], m1, hk2 _ (by simp [hmB]) (by simp), hk2 _ (by simp [hmc]) (by simp), ?_⟩
          rw [hnext]
          exact hR.mono fun v p ⟨a, t1, t2, q, hm⟩ => ⟨a, t1, t2, q, hk2 _ (by simp [hm]) (by simp)⟩
  · clear F N hlB
    rintro m₁ led₁ h tk ⟨vs, m1, hmB, hmc, hR⟩ F N
    try dsimp only
    have e : bs.length = ks.length := by rw [hB.len, List.length_map]
    rw [e, List.take_length] at hR
    repeat walk_at "S"
    obtain ⟨l, N', hk⟩ := N.front hmc
    repeat (first | (with_reducible refine' Seal.ret ?K ?_; case K => with_reducible assumption) | with_reducible refine turnRet ?_)
    refine post _ _ _ _ _ F.keep (Led.new N') (hR.mono fun v p ⟨a, t1, t2, q, hm⟩ => ⟨a, t1, t2, q, hk _ hm (by simp)⟩)
set_option linter.unusedVariables false
section
variable {w : World} {A : Around} {E : Value → Shared → Prop} {G : Array GenState} {Dr : Drawn} {O : OsState} {g : Heap} {L : Addr} {m : Str → Option Value}
/-- where a turn of a comprehension ends: one value more -/
inductive CEnd (w : World) (g : Heap) (L : Addr) (m : Str → Option Value) (I C D : Addr) (oI : Obj) (mC : Str → Option Value) (ys : List Value) (J' : List Value → Ls → Prop) (G : Array GenState) (Dr : Drawn) (O : OsState) (v : Value) (s₂ : Shared) : Prop
  | mk (h' : Heap) (tk' : Nat) (led' : Ls)
    (x1 : s₂ = ⟨h', G, Dr, tk', O⟩)
    (x2 : Fr g L h' m)
    (x3 : Led w g L h' led')
    (x4 : (I, Res.raw oI) ∈ led')
    (x5 : (C, Res.nsp mC) ∈ led')
    (x6 : (D, Res.lst ys) ∈ led')
    (x7 : ∀ led'', (∀ p ∈ led', p ≠ (I, Res.raw oI) → p ≠ (C, Res.nsp mC) → p ≠ (D, Res.lst ys) → p ∈ led'') → J' (ys ++ [v]) led'') : CEnd w g L m I C D oI mC ys J' G Dr O v s₂
/-- or none -/
inductive CSkip (w : World) (g : Heap) (L : Addr) (m : Str → Option Value) (I C D : Addr) (oI : Obj) (mC : Str → Option Value) (ys : List Value) (J' : List Value → Ls → Prop) (G : Array GenState) (Dr : Drawn) (O : OsState) (s₂ : Shared) : Prop
  | mk (h' : Heap) (tk' : Nat) (led' : Ls)
    (x1 : s₂ = ⟨h', G, Dr, tk', O⟩)
    (x2 : Fr g L h' m)
    (x3 : Led w g L h' led')
    (x4 : (I, Res.raw oI) ∈ led')
    (x5 : (C, Res.nsp mC) ∈ led')
    (x6 : (D, Res.lst ys) ∈ led')
    (x7 : ∀ led'', (∀ p ∈ led', p ≠ (I, Res.raw oI) → p ≠ (C, Res.nsp mC) → p ≠ (D, Res.lst ys) → p ∈ led'') → J' ys led'') : CSkip w g L m I C D oI mC ys J' G Dr O s₂
inductive CSt (w : World) (g : Heap) (L : Addr) (m : Str → Option Value) (I C D : Addr) (n : Nat) (It : Nat → Heap → Prop) (J : Nat → List Value → Ls → Prop) (G : Array GenState) (Dr : Drawn) (O : OsState) (k : Nat) (s' : Shared) : Prop
  | mk (h' : Heap) (tk i : Nat) (ys : List Value) (mC : Str → Option Value) (led' : Ls) (x1 : s' = ⟨h', G, Dr, tk, O⟩) (x2 : i ≤ n) (x3 : k = n + 1 - i) (x4 : ys.length ≤ i) (x5 : It i h') (x6 : Fr g L h' m)
    (x7 : Led w g L h' ((C, .nsp mC) :: (D, .lst ys) :: led')) (x8 : ∀ p ∈ (C, Res.nsp mC) :: (D, Res.lst ys) :: led', p.1 ≠ I) (x9 : J i ys led') : CSt w g L m I C D n It J G Dr O k s'
theorem Led.uniq {h : Heap} {led : Ls} {a : Addr} {r r' : Res} (N : Led w g L h led) (h1 : (a, r) ∈ led) (h2 : (a, r') ∈ led) : r = r' := by
  obtain ⟨pre, post, rfl⟩ := List.append_of_mem h1
  have off := N.off2
  rcases List.mem_append.mp h2 with q | q
  · exact absurd rfl (off _ (List.mem_append_left _ q))
  · rcases List.mem_cons.mp q with q | q
    · cases q; rfl
    · exact absurd rfl (off _ (List.mem_append_right _ q))
theorem Led.ne {h : Heap} {led : Ls} {a b : Addr} {r r' : Res} (N : Led w g L h led) (h1 : (a, r) ∈ led) (h2 : (b, r') ∈ led) (hr : r ≠ r') : a ≠ b := fun e => hr (N.uniq h1 (e ▸ h2))
theorem permFront {led : Ls} {p0 : Addr × Res} (hm : p0 ∈ led) : ∃ l, led.Perm (p0 :: l) ∧ ∀ p ∈ led, p ≠ p0 → p ∈ l := by
  obtain ⟨pre, post, rfl⟩ := List.append_of_mem hm
  refine ⟨pre ++ post, List.perm_middle, fun p hp ne => ?_⟩
  rcases List.mem_append.mp hp with q | q
  · exact List.mem_append_left _ q
  · rcases List.mem_cons.mp q with q | q
    · exact absurd q ne
    · exact List.mem_append_right _ q
/-- three objects in front -/
theorem Led.front3 {h : Heap} {led : Ls} {p1 p2 p3 : Addr × Res} (N : Led w g L h led) (h1 : p1 ∈ led) (h2 : p2 ∈ led) (h3 : p3 ∈ led) (n1 : p2 ≠ p1) (n2 : p3 ≠ p1) (n3 : p3 ≠ p2) :
    ∃ l, Led w g L h (p1 :: p2 :: p3 :: l) ∧ ∀ p ∈ led, p ≠ p1 → p ≠ p2 → p ≠ p3 → p ∈ l := by
  obtain ⟨l1, N1, k1⟩ := permFront h1
  obtain ⟨l2, N2, k2⟩ := permFront (k1 _ h2 n1)
  obtain ⟨l3, N3, k3⟩ := permFront (k2 _ (k1 _ h3 n2) n3)
  exact ⟨l3, N.perm (N1.trans ((N2.trans (N3.cons _)).cons _)), fun p hp a1 a2 a3 => k3 _ (k2 _ (k1 _ hp a1) a2) a3⟩
def CompAt (w : World) (A : Around) (env : Env) (elt : Expr) (x : Str) (px : Pos) (iter : Expr) (ifs : List Expr) (scope : Scope) (cl : List (Str × Addr)) (pos : Pos) (Q E : Value → Shared → Prop) (it : Value) (s₂ : Shared) : Prop :=
  wpAny (model PR w) A (newList []) (fun acc s₃ => wpAny (model PR w) A (newFunctionEnv scope env.globals cl [] env.qual none .none (some env)) (fun cenv s₄ =>
      codeAny (model PR w) A (.compStart (.ListComp elt [⟨.Name x px, iter, ifs, 0⟩] scope pos) 0 it acc { cenv with scope := relabel scope env }) (compPost (model PR w) A E none Q acc cenv.locals) s₄) E s₃) E s₂
theorem compS {env : Env} {elt iter : Expr} {x : Str} {px : Pos} {ifs : List Expr} {scope : Scope} {cl : List (Str × Addr)} {pos : Pos} {Q : Value → Shared → Prop} {s : Shared}
    (hq : wpAny (model PR w) A (eval iter env) (fun xv s₁ => wpAny (model PR w) A (pyIter xv) (fun it s₂ => CompAt w A env elt x px iter ifs scope cl pos Q E it s₂) E s₁) E s)
    (hclos : closureFor scope env = pure cl) (hkind : scope.kind = .function) (hnames : ∀ y ∈ scope.names, y.2 = .local → scope.names.lookup y.1 = some .local)
    (hs : ∀ x, foldedSetIterable iter env x = pure x) : wpAny (model PR w) A (eval (.ListComp elt [⟨.Name x px, iter, ifs, 0⟩] scope pos) env) Q E s := by
  rw [eval_ListComp]
  exact wpAny_comprehension_free (use := none) rfl hs hclos hkind hnames hq
theorem stays_fr {h h' : Heap} (F : Fr g L h m) (k : ∀ b o, h.get? b = some o → h'.get? b = some o) : Fr g L h' m := fr_stays F k
variable {h : Heap} {tk : Nat} {led : Ls} {env : Env} {elt iter : Expr} {x : Str} {px : Pos} {ifs : List Expr} {scope : Scope} {cl : List (Str × Addr)} {pos : Pos}
theorem compW {I : Addr} {n : Nat} {P : Nat → Value → Prop} {It : Nat → Heap → Prop} {C₀ : Heap → Prop} {Q : Value → Shared → Prop} (K : Wk w A I n P It C₀)
    (hcell : ∀ y ∈ scope.names, y.2 ≠ .cell) (hkind : scope.kind = .function) (hx : scope.names.lookup x = some .local) (hn : n ≤ 1000000)
    (h0 : It 0 h) (F : Fr g L h m) (N : Led w g L h led) (fI : I ≠ L ∧ g.get? I = none) (h3 : 3 < I) (off : ∀ p ∈ led, p.1 ≠ I)
    (J : Nat → List Value → Ls → Prop) (hJ : J 0 [] led)
    (hC : ∀ i ys led h, J i ys led → Led w g L h led → Fr g L h m → C₀ h)
    (turn : ∀ C D i v ys mC led₁ oI h tk (E' : Value → Shared → Prop), i < n → P i v → J i ys led₁ → mC x = some v → Fr g L h m → Led w g L h ((I, .raw oI) :: (C, .nsp mC) :: (D, .lst ys) :: led₁) →
      wpAny (model PR w) A (forIn ifs true fun c r => if r = true then do let ok ← isTrue c (compEnvC scope cl C env) (eval c (compEnvC scope cl C env)); pure (ForInStep.yield ok) else pure (ForInStep.yield r)) (fun ok s₃ =>
        if ok = true then wpAny (model PR w) A (eval elt (compEnvC scope cl C env)) (CEnd w g L m I C D oI mC ys (J (i + 1)) G Dr O) E' s₃ else CSkip w g L m I C D oI mC ys (J (i + 1)) G Dr O s₃) E' ⟨h, G, Dr, tk, O⟩)
    (done : ∀ D ys led₁ h tk, J n ys led₁ → Fr g L h m → Led w g L h ((D, .lst ys) :: led₁) → Q (.ref D) ⟨h, G, Dr, tk, O⟩) :
    CompAt w A env elt x px iter ifs scope cl pos Q E (.ref I) ⟨h, G, Dr, tk, O⟩ := by
  unfold CompAt
  refine wpAny_newObj_type (wpAny_newFunctionEnv hcell (by intro y hy; simp at hy) (fun h₁ hns₁ hsb₁ => ?_) hkind)
  dsimp only at hns₁ hsb₁ ⊢
  have F2 := fr_push F { cls := .type "list", dict := none, data := .seq ([] : List Value).toArray }
  have N2 : Led w g L _ ((h.objs.size, .lst []) :: led) := N.push F (o := { cls := .type "list", dict := none, data := .seq ([] : List Value).toArray }) ⟨0, Heap.get?_push_size _ rfl⟩
  have hID : I < h.objs.size := by obtain ⟨o, e⟩ := K.ex _ _ h0; exact Heap.lt_size e
  have h0' : It 0 (h.push { cls := .type "list", dict := none, data := .seq ([] : List Value).toArray }) := K.loc _ _ _ h0 fun o e => Heap.get?_push_of_some _ e
  have hI2 : I < (h.push { cls := .type "list", dict := none, data := .seq ([] : List Value).toArray }).objs.size := by rw [Heap.size_push]; exact Nat.lt_succ_of_lt hID
  have off2 : ∀ p ∈ (h.objs.size, Res.lst []) :: led, p.1 ≠ I := fun p hp => by
    rcases List.mem_cons.mp hp with rfl | hp
    · exact Nat.ne_of_gt hID
    · exact off p hp
  generalize h.push { cls := .type "list", dict := none, data := .seq ([] : List Value).toArray } = H2 at hns₁ hsb₁ F2 N2 h0' hI2 ⊢
  have hk : H2.StaysIn h₁ := fun b o e => hsb₁.extBut b o (Nat.ne_of_lt (Heap.lt_size e)) (Heap.get?_push_of_some _ e)
  have F3 : Fr g L h₁ m := fr_stays F2 hk
  have N3 : Led w g L h₁ ((H2.objs.size, .nsp fun x => ([] : List (Str × Value)).reverse.lookup x) :: (h.objs.size, .lst []) :: led) := N2.grown F2 hk (Nat.le_refl _) hns₁
  have off3 : ∀ p ∈ (H2.objs.size, Res.nsp fun x => ([] : List (Str × Value)).reverse.lookup x) :: (h.objs.size, Res.lst []) :: led, p.1 ≠ I := fun p hp => by
    rcases List.mem_cons.mp hp with rfl | hp
    · exact Nat.ne_of_gt hI2
    · exact off2 p hp
  have h0'' : It 0 h₁ := K.loc _ _ _ h0' fun o e => hk _ _ e
  generalize (fun x => ([] : List (Str × Value)).reverse.lookup x) = mC0 at N3 off3
  generalize H2.objs.size = C at N3 off3 ⊢
  generalize h.objs.size = D at N3 off3 ⊢
  have hC0 := hC 0 [] led h₁ hJ (N3.subl ((List.sublist_cons_self _ _).trans (List.sublist_cons_self _ _))) F3
  have loop : ∀ tk, codeAny (model PR w) A (.compLoop (.ListComp elt [⟨.Name x px, iter, ifs, 0⟩] scope pos) 0 (.ref I) (.ref D) (compEnvC scope cl C env)) (compPost (model PR w) A E none Q (.ref D) C) ⟨h₁, G, Dr, tk, O⟩ := by
    intro tk
    refine codeAny_compLoop_tests
      (CSt w g L m I C D n It J G Dr O) ?_ (n + 1)
      ⟨h₁, tk, 0, [], mC0, led, rfl, Nat.zero_le _, rfl, Nat.le_refl _, h0'', F3, N3, off3, hJ⟩ (fun _ => rfl)
    rintro k s' ⟨h', tk, i, ys, mC, led', rfl, hi, rfl, hyl, hit, F', N', off', hJ'⟩
    have hc := hC i ys led' h' hJ' (N'.subl ((List.sublist_cons_self _ _).trans (List.sublist_cons_self _ _))) F'
    by_cases hlt : i < n
    · refine K.item i _ _ _ hlt hit hc fun v h₂ tk₂ hP hit₂ hk₂ => ?_
      have F4 : Fr g L h₂ m := ⟨F'.ns.at' fun o e => hk₂ _ o (Ne.symm fI.1) e, fun b o e => hk₂ b o (fun q => by rw [q, fI.2] at e; cases e) (F'.keep b o e), F'.above⟩
      have N4 : Led w g L h₂ ((C, .nsp mC) :: (D, .lst ys) :: led') := ⟨fun p hp => ⟨at_of (N'.N p hp).1 fun o e => hk₂ _ o (off' p hp) e, (N'.N p hp).2⟩, N'.D, N'.B⟩
      have hCI : C ≠ I := off' _ (.head _)
      refine wpAny_assign_Name (wpAny_storeName_local (lookup_relabel_local hx) (N4.get (a := C) (r := .nsp mC) (.head _)) (fun h₃ hn₃ hs₃ => ?_) (by simp [compEnvC, relabel, hkind]))
      obtain ⟨F5, N5⟩ := Led.upd0 (r' := .nsp fun y => if y = x then some v else mC y) N4 F4 hs₃ hn₃
      have hit₃ : It (i + 1) h₃ := K.loc _ _ _ hit₂ fun o e => (hs₃.2 _ (Ne.symm hCI)).trans e
      obtain ⟨oI, hoI⟩ := K.ex _ _ hit₃
      have N6 : Led w g L h₃ ((I, .raw oI) :: (C, .nsp fun y => if y = x then some v else mC y) :: (D, .lst ys) :: led') := by
        refine ⟨fun p hp => ?_, ?_, N5.B⟩
        · rcases List.mem_cons.mp hp with rfl | hp
          · exact ⟨hoI, h3, fI⟩
          · exact N5.N p hp
        · rw [keys_cons, List.nodup_cons]
          refine ⟨fun z => ?_, N5.D⟩
          obtain ⟨p, hp, e⟩ := List.mem_map.mp z
          rcases List.mem_cons.mp hp with rfl | hp
          · exact hCI e
          · exact off' p (.tail _ hp) e
      have fin : ∀ (ys' : List Value) (h₅ : Heap) (tk₅ : Nat) (led₅ : Ls), ys'.length ≤ i + 1 → Fr g L h₅ m → Led w g L h₅ led₅ → (I, Res.raw oI) ∈ led₅ → (C, Res.nsp fun y => if y = x then some v else mC y) ∈ led₅ → (D, Res.lst ys') ∈ led₅ →
          (∀ l, (∀ p ∈ led₅, p ≠ (I, Res.raw oI) → p ≠ (C, Res.nsp fun y => if y = x then some v else mC y) → p ≠ (D, Res.lst ys') → p ∈ l) → J (i + 1) ys' l) →
          ∃ k', k' < n + 1 - i ∧ CSt w g L m I C D n It J G Dr O k' ⟨h₅, G, Dr, tk₅, O⟩ := by
        intro ys' h₅ tk₅ led₅ hyl' F₅ N₅ mI mC' mD hJ₅
        obtain ⟨l, N7, hk7⟩ := N₅.front3 mI mC' mD (by simp) (by simp) (by simp)
        refine ⟨n + 1 - (i + 1), by omega, h₅, tk₅, i + 1, ys', _, l, rfl, hlt, rfl, hyl', K.loc _ _ _ hit₃ fun o e => ?_, F₅, N7.subl (List.sublist_cons_self _ _), N7.off, hJ₅ l hk7⟩
        rw [hoI] at e; cases e
        exact N₅.get (a := I) (r := .raw oI) mI
      refine wpAny_mono (turn C D i v ys _ led' oI h₃ _ _ hlt hP hJ' (by simp) F5 N6) (fun ok s₃ hs => ?_) fun _ _ e => e
      cases ok with
      | false =>
        simp only [Bool.false_eq_true, if_false] at hs ⊢
        obtain ⟨h₅, tk₅, led₅, rfl, F₅, N₅, mI, mC', mD, hJ₅⟩ := hs
        exact fin ys h₅ tk₅ led₅ (by omega) F₅ N₅ mI mC' mD hJ₅
      | true =>
        simp only [if_true] at hs ⊢
        refine wpAny_mono hs (fun y s₄ hs4 => ?_) fun _ _ e => e
        obtain ⟨h₄, tk₄, led₄, rfl, F₄, N₄, mI, mC', mD, hJ₄⟩ := hs4
        refine appendM F₄ N₄ mD (by omega) fun h₅ led₅ F₅ N₅ mD5 hk5 => ?_
        refine fin (ys ++ [y]) h₅ tk₄ led₅ (by simp; omega) F₅ N₅ (hk5 _ mI (by simp)) (hk5 _ mC' (by simp)) mD5 fun l hl => hJ₄ l fun p hp n1 n2 n3 => hl p (hk5 _ hp n3) n1 n2 fun q => ?_
        rw [q] at hp
        have := N₄.uniq hp mD
        simp at this
    · have hin : i = n := Nat.le_antisymm hi (Nat.not_lt.mp hlt)
      subst hin
      refine K.done _ _ _ hit hc fun h₂ tk₂ hk₂ => ?_
      have F4 : Fr g L h₂ m := ⟨F'.ns.at' fun o e => hk₂ _ o (Ne.symm fI.1) e, fun b o e => hk₂ b o (fun q => by rw [q, fI.2] at e; cases e) (F'.keep b o e), F'.above⟩
      have N4 : Led w g L h₂ ((C, .nsp mC) :: (D, .lst ys) :: led') := ⟨fun p hp => ⟨at_of (N'.N p hp).1 fun o e => hk₂ _ o (off' p hp) e, (N'.N p hp).2⟩, N'.D, N'.B⟩
      refine ⟨mC, N4.get (a := C) (r := .nsp mC) (.head _), fun h₅ hs => done D ys led' h₅ tk₂ hJ' ?_ ?_⟩
      · have hC1 := N4.N (C, .nsp mC) (.head _)
        exact ⟨F4.ns.sameBut hs (Ne.symm hC1.2.2.1), fun b o e => (hs.2 b fun q => by rw [q, hC1.2.2.2] at e; cases e).trans (F4.keep b o e), F4.above⟩
      · exact ⟨fun p hp => ⟨at_of (N4.N p (.tail _ hp)).1 fun o e => (hs.2 _ (N4.off p hp)).trans e, (N4.N p (.tail _ hp)).2⟩, by have := N4.D; rw [keys_cons, List.nodup_cons] at this; exact this.2, N4.B⟩
  exact codeAny_compStart_list (loop _) (K.self 0 _ _ _ h0'' hC0 (loop _))
theorem compIter {n : Nat} {P : Nat → Value → Prop} {It : Nat → Heap → Prop} {C₀ : Heap → Prop} {Q : Value → Shared → Prop} {ob : Obj} (K : Wk w A h.objs.size n P It C₀)
    (hcell : ∀ y ∈ scope.names, y.2 ≠ .cell) (hkind : scope.kind = .function) (hx : scope.names.lookup x = some .local) (hn : n ≤ 1000000)
    (h0 : It 0 (h.push ob)) (F : Fr g L h m) (N : Led w g L h led)
    (J : Nat → List Value → Ls → Prop) (hJ : J 0 [] led)
    (hC : ∀ i ys led h, J i ys led → Led w g L h led → Fr g L h m → C₀ h)
    (turn : ∀ I C D i v ys mC led₁ oI h tk (E' : Value → Shared → Prop), i < n → P i v → J i ys led₁ → mC x = some v → Fr g L h m → Led w g L h ((I, .raw oI) :: (C, .nsp mC) :: (D, .lst ys) :: led₁) →
      wpAny (model PR w) A (forIn ifs true fun c r => if r = true then do let ok ← isTrue c (compEnvC scope cl C env) (eval c (compEnvC scope cl C env)); pure (ForInStep.yield ok) else pure (ForInStep.yield r)) (fun ok s₃ =>
        if ok = true then wpAny (model PR w) A (eval elt (compEnvC scope cl C env)) (CEnd w g L m I C D oI mC ys (J (i + 1)) G Dr O) E' s₃ else CSkip w g L m I C D oI mC ys (J (i + 1)) G Dr O s₃) E' ⟨h, G, Dr, tk, O⟩)
    (done : ∀ D ys led₁ h tk, J n ys led₁ → Fr g L h m → Led w g L h ((D, .lst ys) :: led₁) → Q (.ref D) ⟨h, G, Dr, tk, O⟩) :
    CompAt w A env elt x px iter ifs scope cl pos Q E (.ref h.objs.size) ⟨h.push ob, G, Dr, tk, O⟩ :=
  compW K hcell hkind hx hn h0 (fr_push F ob) (N.stays (stays_push _ _)) (fresh_none F (size_none _)) (N.gt F) (fun p hp => Nat.ne_of_lt (N.size p hp)) J hJ hC (turn _) done
theorem compRange {r : Addr} {a b : Int} {t u v : Tok} {Q : Value → Shared → Prop} (hh : A.handled = none) (F : Fr g L h m) (N : Led w g L h led) (n : Nat) (hr : IsRange h r a b 1 t u v) (hb : b = a + n) (h1 : 0 ≤ a) (h2 : b < 2 ^ 62)
    (hcell : ∀ y ∈ scope.names, y.2 ≠ .cell) (hkind : scope.kind = .function) (hx : scope.names.lookup x = some .local) (hn : n ≤ 1000000)
    (J : Nat → List Value → Ls → Prop) (hJ : J 0 [] led)
    (turn : ∀ I C D i t ys mC led₁ oI h tk (E' : Value → Shared → Prop), i < n → J i ys led₁ → mC x = some (.int (a + i) t) → Fr g L h m → Led w g L h ((I, .raw oI) :: (C, .nsp mC) :: (D, .lst ys) :: led₁) →
      wpAny (model PR w) A (forIn ifs true fun c r => if r = true then do let ok ← isTrue c (compEnvC scope cl C env) (eval c (compEnvC scope cl C env)); pure (ForInStep.yield ok) else pure (ForInStep.yield r)) (fun ok s₃ =>
        if ok = true then wpAny (model PR w) A (eval elt (compEnvC scope cl C env)) (CEnd w g L m I C D oI mC ys (J (i + 1)) G Dr O) E' s₃ else CSkip w g L m I C D oI mC ys (J (i + 1)) G Dr O s₃) E' ⟨h, G, Dr, tk, O⟩)
    (done : ∀ D ys led₁ h tk, J n ys led₁ → Fr g L h m → Led w g L h ((D, .lst ys) :: led₁) → Q (.ref D) ⟨h, G, Dr, tk, O⟩) :
    wpAny (model PR w) A (pyIter (.ref r)) (fun it s₂ => CompAt w A env elt x px iter ifs scope cl pos Q E it s₂) E ⟨h, G, Dr, tk, O⟩ := by
  subst hb
  refine wpAny_pyIter_range hr (small_one (by omega) (by omega) (by omega) (by omega)) (compIter (Wk.range hh _ a 1 n) hcell hkind hx hn (by rw [size1]; show IsRangeIter _ _ (a + ((0 : Nat) : Int) * 1) ((n : Int) - ((0 : Nat) : Int)) 1; rw [show a + ((0 : Nat) : Int) * 1 = a by simp, show (n : Int) - ((0 : Nat) : Int) = n by simp]; exact Heap.get?_push_size _ rfl) F N J hJ (fun _ _ _ _ _ _ _ => trivial) (fun I C D i v ys mC led₁ oI h tk E' hi hP hJ' hm F' N' => ?_) done)
  obtain ⟨t, rfl⟩ := hP
  rw [Int.mul_one] at hm
  exact turn I C D i t ys mC led₁ oI h tk E' hi hJ' hm F' N'
theorem compList {l : Addr} {vs : List Value} {Q : Value → Shared → Prop} (hh : A.handled = none) (F : Fr g L h m) (N : Led w g L h led) (hl : h.IsList l vs.toArray)
    (hcell : ∀ y ∈ scope.names, y.2 ≠ .cell) (hkind : scope.kind = .function) (hx : scope.names.lookup x = some .local) (hn : vs.length ≤ 1000000)
    (J : Nat → List Value → Ls → Prop) (hJ : J 0 [] led)
    (hC : ∀ i ys led h, J i ys led → Led w g L h led → Fr g L h m → h.IsList l vs.toArray)
    (turn : ∀ I C D i v ys mC led₁ oI h tk (E' : Value → Shared → Prop), vs[i]? = some v → J i ys led₁ → mC x = some v → Fr g L h m → Led w g L h ((I, .raw oI) :: (C, .nsp mC) :: (D, .lst ys) :: led₁) →
      wpAny (model PR w) A (forIn ifs true fun c r => if r = true then do let ok ← isTrue c (compEnvC scope cl C env) (eval c (compEnvC scope cl C env)); pure (ForInStep.yield ok) else pure (ForInStep.yield r)) (fun ok s₃ =>
        if ok = true then wpAny (model PR w) A (eval elt (compEnvC scope cl C env)) (CEnd w g L m I C D oI mC ys (J (i + 1)) G Dr O) E' s₃ else CSkip w g L m I C D oI mC ys (J (i + 1)) G Dr O s₃) E' ⟨h, G, Dr, tk, O⟩)
    (done : ∀ D ys led₁ h tk, J vs.length ys led₁ → Fr g L h m → Led w g L h ((D, .lst ys) :: led₁) → Q (.ref D) ⟨h, G, Dr, tk, O⟩) :
    wpAny (model PR w) A (pyIter (.ref l)) (fun it s₂ => CompAt w A env elt x px iter ifs scope cl pos Q E it s₂) E ⟨h, G, Dr, tk, O⟩ :=
  wpAny_pyIter_list hl (compIter (Wk.list hh _ l (by obtain ⟨o, ho, _⟩ := hl; exact Nat.ne_of_lt (Heap.lt_size ho)) vs) hcell hkind hx hn ⟨_, Heap.get?_push_size _ rfl, rfl, rfl⟩ F N J hJ hC
    (fun I C D i v ys mC led₁ oI h tk E' _ hP hJ' hm F' N' => turn I C D i v ys mC led₁ oI h tk E' hP hJ' hm F' N') done)
theorem compDict {d : Addr} {kvs : List (Int × Value)} {ep : Nat} {Q : Value → Shared → Prop} (hh : A.handled = none) (F : Fr g L h m) (N : Led w g L h led) (hd3 : 3 < d) (hm : h.DictAt (intKind PR w) d kvs ep)
    (hcell : ∀ y ∈ scope.names, y.2 ≠ .cell) (hkind : scope.kind = .function) (hx : scope.names.lookup x = some .local) (hn : kvs.length ≤ 1000000)
    (J : Nat → List Value → Ls → Prop) (hJ : J 0 [] led)
    (hC : ∀ i ys led h, J i ys led → Led w g L h led → Fr g L h m → h.DictAt (intKind PR w) d kvs ep)
    (turn : ∀ I C D i k v t ys mC led₁ oI h tk (E' : Value → Shared → Prop), kvs[i]? = some (k, v) → J i ys led₁ → mC x = some (.int k t) → Fr g L h m → Led w g L h ((I, .raw oI) :: (C, .nsp mC) :: (D, .lst ys) :: led₁) →
      wpAny (model PR w) A (forIn ifs true fun c r => if r = true then do let ok ← isTrue c (compEnvC scope cl C env) (eval c (compEnvC scope cl C env)); pure (ForInStep.yield ok) else pure (ForInStep.yield r)) (fun ok s₃ =>
        if ok = true then wpAny (model PR w) A (eval elt (compEnvC scope cl C env)) (CEnd w g L m I C D oI mC ys (J (i + 1)) G Dr O) E' s₃ else CSkip w g L m I C D oI mC ys (J (i + 1)) G Dr O s₃) E' ⟨h, G, Dr, tk, O⟩)
    (done : ∀ D ys led₁ h tk, J kvs.length ys led₁ → Fr g L h m → Led w g L h ((D, .lst ys) :: led₁) → Q (.ref D) ⟨h, G, Dr, tk, O⟩) :
    wpAny (model PR w) A (pyIter (.ref d)) (fun it s₂ => CompAt w A env elt x px iter ifs scope cl pos Q E it s₂) E ⟨h, G, Dr, tk, O⟩ :=
  wpAny_pyIter_dict (sysm hd3) hm (compIter (Wk.dict hh _ d (by obtain ⟨o, es, ho, _⟩ := hm; exact Nat.ne_of_lt (Heap.lt_size ho)) kvs ep) hcell hkind hx hn ⟨_, Heap.get?_push_size _ rfl, rfl, rfl⟩ F N J hJ hC
    (fun I C D i v ys mC led₁ oI h tk E' _ hP hJ' hm F' N' => by obtain ⟨k, x, t, e, rfl⟩ := hP; exact turn I C D i k x t ys mC led₁ oI h tk E' e hJ' hm F' N') done)
theorem cEnd {I C D : Addr} {oI : Obj} {mC : Str → Option Value} {ys : List Value} {J' : List Value → Ls → Prop} {v : Value} (F : Fr g L h m) (N : Led w g L h led) (h1 : (I, Res.raw oI) ∈ led) (h2 : (C, Res.nsp mC) ∈ led) (h3 : (D, Res.lst ys) ∈ led)
    (hJ : ∀ led'', (∀ p ∈ led, p ≠ (I, Res.raw oI) → p ≠ (C, Res.nsp mC) → p ≠ (D, Res.lst ys) → p ∈ led'') → J' (ys ++ [v]) led'') : CEnd w g L m I C D oI mC ys J' G Dr O v ⟨h, G, Dr, tk, O⟩ := ⟨h, tk, led, rfl, F, N, h1, h2, h3, hJ⟩
theorem cSkip {I C D : Addr} {oI : Obj} {mC : Str → Option Value} {ys : List Value} {J' : List Value → Ls → Prop} (F : Fr g L h m) (N : Led w g L h led) (h1 : (I, Res.raw oI) ∈ led) (h2 : (C, Res.nsp mC) ∈ led) (h3 : (D, Res.lst ys) ∈ led)
    (hJ : ∀ led'', (∀ p ∈ led, p ≠ (I, Res.raw oI) → p ≠ (C, Res.nsp mC) → p ≠ (D, Res.lst ys) → p ∈ led'') → J' ys led'') : CSkip w g L m I C D oI mC ys J' G Dr O ⟨h, G, Dr, tk, O⟩ := ⟨h, tk, led, rfl, F, N, h1, h2, h3, hJ⟩
end
section
variable {w : World} {mg mb : Str → Option Value} {me : ExcName → Option Value} {A : Around} {h : Heap} {G : Array GenState} {D : Drawn} {tk : Nat} {O : OsState}
  {name qual : Str} {params : Arguments} {body : List Stmt} {scope : Scope} {dV kV doc pm cdv ct oc : Value} {an od : Option Addr} {osl : Array (Option Value)} {f : Addr} {args : List Value}
  {Q E : Value → Shared → Prop}
/-- a def of the text with captured names -/
theorem enterCP {h₀ : Heap} (X : (hd.heap_1 w.params).In h₀) (T : TopH mg mb me h₀) (st : h₀.StaysIn h) (binds : List (Str × Value)) (m0 : Str → Option Value) (led0 : Addr → Ls)
  (ho : (hd.heap_1 w.params).lookup f = some ⟨oc, od, .func (fnOf name qual params body scope dV kV doc pm an cdv ct), osl⟩) (hcd : codeIn (hd.heap_1 w.params) cdv qual = true)
  (hroom : A.depth < recursionLimit)
  (hbind : bindArgs (fnOf name qual params body scope dV kV doc pm an cdv ct) ⟨args, []⟩ = pure binds)
  (hkinds : KindsOk scope (h.objs.size + 1) binds) (hnd : ((cellsFrom 0 scope.names []).map (·.1)).Nodup)
  (hm0 : ∀ L, bindL (envOfC qual scope L f cdv).kindOf binds (fun _ => none) = m0)
  (hled : ∀ L, (cellsFrom (L + 1) scope.names []).map (fun p => (p.2, Res.cel (bindC (envOfC qual scope L f cdv).kindOf binds (fun _ => none) p.1))) = led0 L)
  (hco : scope.isCoroutine = false) (hgen : scope.isGenerator = false) (hk : scope.kind = .function)
  (k : ∀ L h₁ tk, (hd.heap_1 w.params).In h → TopH mg mb me h → Fr h L h₁ m0 → Led w h L h₁ (led0 L) →
      wpAny (model PR w) (A.deeper (envOfC qual scope L f cdv)) (execs body (envOfC qual scope L f cdv))
        (fun fl s' => Q (match fl with | .ret v => v | _ => .none) s') (fun _ _ => False)
        ⟨h₁, G, D, tk, O⟩) :
  wpAny (model PR w) A (call (.ref f) args) Q E ⟨h, G, D, tk, O⟩ := by
  refine wpAny_call ?_
  refine codeAny_call_cells (fd := fnOf name qual params body scope dV kV doc pm an cdv ct) (body := body) (binds := binds) hroom (st _ _ (X _ _ ho)) rfl (T.nolimit.keeps st) (codeRec_of (X.keeps st) hcd) rfl hbind rfl (kinds_of hkinds) (fun s₁ Y => ?_) hco hgen hk
  obtain ⟨h₁, tk₁, rfl, hkeep⟩ := Y.done
  have F : Fr h h.objs.size h₁ m0 := by
    rw [← hm0 h.objs.size]
    exact ⟨Y.toInCall.ns, hkeep, Nat.le_refl _⟩
  have N : Led w h h.objs.size h₁ (led0 h.objs.size) := by
    rw [← hled h.objs.size]
    refine ⟨fun p hp => ?_, ?_, heapK (X.keeps st)⟩
    · obtain ⟨q, hq, rfl⟩ := List.mem_map.mp hp
      have hlt : h.objs.size < q.2 := Y.above q.1 q.2 hq
      refine ⟨Y.cell q.1 q.2 (lookup_of_mem_nodup (cellsFrom_names scope.names 0 (h.objs.size + 1) [] [] rfl ▸ hnd) hq), Nat.lt_trans (heapK (X.keeps st)) hlt, Nat.ne_of_gt hlt, Heap.get?_none_of_le (Nat.le_of_lt hlt)⟩
    · have := Y.apart
      unfold keys
      rw [List.map_map, List.nodup_iff_pairwise_ne, List.pairwise_map]
      exact this
  exact wpAny_mono (k h.objs.size h₁ _ (X.keeps st) (T.keeps st) F N) (fun fl s' hl => hl) fun _ _ y => y.elim
end
local macro_rules | `(tactic| walk_at "S") => `(tactic| ((with_reducible refine' compS ?_ ?cl ?ki ?na ?hs); (case cl => exact rfl); (case ki => exact rfl); (case na => decide); (case hs => intro _; exact rfl)))
set_option linter.unusedVariables false
section
variable {w : World} {A : Around} {E : Value → Shared → Prop} {h h' : Heap} {G : Array GenState} {D : Drawn} {tk : Nat} {O : OsState} {g : Heap} {L l : Addr} {m : Str → Option Value} {led : Ls} {v : Value} {vs : List Value} {t u : Tok}
theorem Led.backNews {nw : List (Addr × Obj)} (N : Led w g L h led) (h2 : ∀ p ∈ led, ∃ q ∈ nw, q.1 = p.1 ∧ h.get? p.1 = some q.2) (N' : News g L h' nw) : Led w g L h' led :=
  ⟨fun p hp => by
    obtain ⟨q, a, b, c⟩ := h2 p hp
    refine ⟨at_of (N.N p hp).1 fun o' e => ?_, (N.N p hp).2⟩
    rw [c] at e; cases e
    rw [← b]; exact (N' q a).1, N.D, N.B⟩
theorem sumR {ns : List Int} {Q : Value → Shared → Prop} (hh : A.handled = none) (F : Fr g L h m) (N : Led w g L h led) (hl : h.IsList l vs.toArray) (hi : A2 IV vs ns)
    (hq : ∀ h' tk' t', Fr g L h' m → Led w g L h' led → Q (.int ns.sum t') ⟨h', G, D, tk', O⟩) : wpAny (model PR w) A (call (.builtin "sum") [.ref l]) Q E ⟨h, G, D, tk, O⟩ := by
  obtain ⟨nw, NW, back⟩ := N.toNews
  exact PyProof.Rows.LSm.sum_ints F NW hh hl hi.ints fun h' tk t' F' N' => hq _ _ _ F' (N.backNews back N')
theorem bItem {value slice : Expr} {b : Array UInt8} {k : Int} {j : Nat} {Q : Value → Shared → Prop} (hk : k = j) (hj : j < b.size) (hz : b.size ≤ 16777216) (hq : ∀ t tk', Q (.int ((b.toList.getD j 0).toNat : Int) t) ⟨h, G, D, tk', O⟩)
    (hs : subscripted slice false (.bytes b t) (.int k u) = operate [.bytes b t, .int k u] (getItem (.bytes b t) (.int k u))) :
    wpAny (model PR w) A (subscriptTail value slice (.bytes b t) (.int k u)) Q E ⟨h, G, D, tk, O⟩ := by
  subst hk
  refine tail_any (typeIs_bytes _ _ _) FB.slot_bytes_getitem.lookup ?_ hs
  have e : b = b.toList.toArray := (Array.toArray_toList).symm
  rw [e]
  refine getItem_bytes (by simp; omega) (by omega) (by simp; omega) ?_
  simpa using hq _ _
theorem stCM {env : Env} {x : Str} {c : Addr} {v₀ : Option Value} {Q : Unit → Shared → Prop} (F : Fr g L h m) (N : Led w g L h led) (hm : (c, .cel v₀) ∈ led)
    (hk : env.scope.kind = .function) (hl : env.kindOf x = some .cell) (hc : env.cells.lookup x = some c)
    (k : ∀ h' led', Fr g L h' m → Led w g L h' led' → (c, .cel (some v)) ∈ led' → (∀ p ∈ led, p ≠ (c, .cel v₀) → p ∈ led') → Q () ⟨h', G, D, tk, O⟩) :
    wpAny (model PR w) A (storeName env x v) Q E ⟨h, G, D, tk, O⟩ := by
  obtain ⟨pre, post, rfl⟩ := List.append_of_mem hm
  refine stC F N hk hl hc fun h' F' N' => k _ _ F' N' (by simp) fun p hp ne => ?_
  rcases List.mem_append.mp hp with q | q
  · exact List.mem_append_left _ q
  · rcases List.mem_cons.mp q with q | q
    · exact absurd q ne
    · exact List.mem_append_right _ (.tail _ q)
end
set_option linter.unusedVariables false
theorem pow_log {e : Nat} (h : e < 1024) : ((256 : Int) ^ e).natAbs.log2 < 9000 := by
  have e1 : ((256 : Int) ^ e).natAbs = 2 ^ (8 * e) := by
    rw [Int.natAbs_pow, Nat.pow_mul]; rfl
  rw [e1, Nat.log2_two_pow]; omega
theorem pow_ne {e : Nat} : (256 : Int) ^ e ≠ 0 := Int.pow_ne_zero (by decide)
theorem pow_cast (e : Nat) : (256 : Int) ^ e = ((256 ^ e : Nat) : Int) := by simp
theorem law_octets_c
  {w : World} {mg mb : Str → Option Value} {me : ExcName → Option Value} {A : Around} {H : Heap} {G : Array GenState} {D : Drawn} {tk : Nat} {O : OsState} {h₀ : Heap} {Q E : Value → Shared → Prop}
  (X : (hd.heap_1 w.params).In h₀) (T : TopH mg mb me h₀) (st : h₀.StaysIn H) (hh : A.handled = none) (hdp : A.depth + 10 < recursionLimit) (hu : A.units + 60 < cLine)
  {n k : Nat} {tn tk' : Tok} (hn : n < 2 ^ 70) (hk : k < 2 ^ 10)
  (post : ∀ h' tk' t, H.StaysIn h' → Q (.bytes (octs n k).toArray t) ⟨h', G, D, tk', O⟩) :
  wpAny (model PR w) A (call (.ref 177) [.int (n : Int) tn, .int (k : Int) tk']) Q E ⟨H, G, D, tk, O⟩ := by
  with_reducible refine' enterCP X T st [(Str.ofString "number", .int (n : Int) tn), (Str.ofString "width", .int (k : Int) tk')] (fun _ => none) (fun L => [(L + 2, .cel (some (.int (k : Int) tk'))), (L + 1, .cel (some (.int (n : Int) tn)))]) ?ho ?cd ?room ?bd ?ki ?nd ?m0 ?l0 ?co ?ge ?k ?_
  case ho => k_is
  case cd => k_is
  case room => omega
  case bd => exact rfl
  case ki => (repeat' first | exact trivial | refine ⟨.inl rfl, ?_⟩ | refine ⟨.inr ⟨rfl, rfl⟩, ?_⟩)
  case nd => decide
  case m0 => exact fun _ => rfl
  case l0 => exact fun _ => rfl
  case co => exact rfl
  case ge => exact rfl
  case k => exact rfl
  clear X T
  intro L h tk X T F N
  repeat walk_at "S"
  refine rangeR1 F N fun h tk r t1 t2 t3 F N hr => ?_
  with_reducible refine' compRange ?hh F N k hr (by omega) (by omega) (by omega) ?ce ?ki ?hx ?hn (fun i ys led => A2 IV ys (((List.range k).map fun j => ((n / 256 ^ (k - 1 - j) % 256 : Nat) : Int)).take i) ∧ (L + 2, Res.cel (some (.int (k : Int) tk'))) ∈ led ∧ (L + 1, Res.cel (some (.int (n : Int) tn))) ∈ led) ?_ ?_ ?_
  case hh => exact hh
  case ce => decide
  case ki => exact rfl
  case hx => exact rfl
  case hn => omega
  · exact ⟨.nil, .head _, .tail _ (.head _)⟩
  · clear F N hr
    rintro I C D i t ys mC led₁ oI h tk E' hi ⟨hA, hc1, hc2⟩ hm F N
    refine wpAny_tests_nil ?_
    repeat walk_at "S"
    have he : ((k : Int) - 1 - (0 + (i : Int))).toNat = k - 1 - i := by omega
    with_reducible refine' powI (by decide) (by omega) (by omega) ?_; intro _ _
    rw [he]
    repeat walk_at "S"
    with_reducible refine' divI pow_ne (pow_log (by omega)) ?_; intro _ _
    repeat walk_at "S"
    with_reducible refine' modI (by decide) ?_; intro _ _
    repeat walk_at "S"
    rw [pow_cast, fdiv_nat, show (256 : Int) = ((256 : Nat) : Int) from rfl, fmod_nat]
    refine cEnd F N (.head _) (.tail _ (.head _)) (.tail _ (.tail _ (.head _))) fun led2 hk2 => ⟨?_, hk2 _ (by simp [hc1]) (by simp) (by simp) (by simp), hk2 _ (by simp [hc2]) (by simp) (by simp) (by simp)⟩
    have hg : ((List.range k).map fun j => ((n / 256 ^ (k - 1 - j) % 256 : Nat) : Int))[i]? = some ((n / 256 ^ (k - 1 - i) % 256 : Nat) : Int) := by simp [hi]
    rw [take_snoc hg]
    exact hA.snoc ⟨_, rfl⟩
  · clear F N hr
    rintro D ys led₁ h tk ⟨hA, _, _⟩ F N
    rw [List.take_of_length_le (by simp)] at hA
    repeat walk_at "S"
    refine call_bytes_ints (led_list N (.head _)) hA.ints ?_ (by rw [sizeLine_eq, hA.len]; simp; omega) hh fun h' t tk' st' => ?_
    · intro y hy
      obtain ⟨j, _, rfl⟩ := List.mem_map.mp hy
      exact ⟨by omega, by omega⟩
    rw [byteArr_octs]
    repeat (first | (with_reducible refine' Seal.ret ?K ?_; case K => with_reducible assumption) | with_reducible refine turnRet ?_)
    exact post _ _ _ (fun b o q => st' _ _ (F.keep _ _ q))
theorem beN_nil : beN [] = 0 := rfl
theorem beN_cons (c : UInt8) (bs : List UInt8) : beN (c :: bs) = c.toNat * 256 ^ bs.length + beN bs := by
  have key : ∀ (l : List UInt8) (a : Nat), l.foldl (fun a c => 256 * a + c.toNat) a = a * 256 ^ l.length + l.foldl (fun a c => 256 * a + c.toNat) 0 := by
    intro l
    induction l with
    | nil => intro a; simp
    | cons d r ih =>
      intro a
      rw [List.foldl_cons, List.foldl_cons, ih, ih (256 * 0 + d.toNat), List.length_cons, Nat.pow_succ, Nat.add_mul, Nat.add_mul]
      have : 256 * a * 256 ^ r.length = a * (256 ^ r.length * 256) := by
        rw [Nat.mul_comm 256 a, Nat.mul_assoc, Nat.mul_comm 256]
      omega
  unfold beN
  rw [List.foldl_cons, key]
  simp
theorem beN_sum (bs : List UInt8) : ((List.range bs.length).map fun j => ((bs.getD j 0).toNat * 256 ^ (bs.length - 1 - j) : Nat)).sum = beN bs := by
  induction bs with
  | nil => rfl
  | cons c r ih =>
    rw [beN_cons, List.length_cons, List.range_succ_eq_map, List.map_cons, List.sum_cons, List.map_map]
    congr 1
    · rw [← ih]
      congr 1
      apply List.map_congr_left
      intro j hj
      have := List.mem_range.mp hj
      show (List.getD (c :: r) (j + 1) 0).toNat * 256 ^ (r.length + 1 - 1 - (j + 1)) = _
      rw [List.getD_cons_succ]
      congr 2
      omega
theorem law_value_c
  {w : World} {mg mb : Str → Option Value} {me : ExcName → Option Value} {A : Around} {H : Heap} {G : Array GenState} {D : Drawn} {tk : Nat} {O : OsState} {h₀ : Heap} {Q E : Value → Shared → Prop}
  (X : (hd.heap_1 w.params).In h₀) (T : TopH mg mb me h₀) (st : h₀.StaysIn H) (hh : A.handled = none) (hdp : A.depth + 10 < recursionLimit) (hu : A.units + 60 < cLine)
  {b : Array UInt8} {tb : Tok} (hz : b.size < 2 ^ 10)
  (post : ∀ h' tk' t, H.StaysIn h' → Q (.int (beN b.toList : Int) t) ⟨h', G, D, tk', O⟩) :
  wpAny (model PR w) A (call (.ref 182) [.bytes b tb]) Q E ⟨H, G, D, tk, O⟩ := by
  with_reducible refine' enterCP X T st [(Str.ofString "octets", .bytes b tb)] (fun _ => none) (fun L => [(L + 1, .cel (some (.bytes b tb)))]) ?ho ?cd ?room ?bd ?ki ?nd ?m0 ?l0 ?co ?ge ?k ?_
  case ho => k_is
  case cd => k_is
  case room => omega
  case bd => exact rfl
  case ki => (repeat' first | exact trivial | refine ⟨.inl rfl, ?_⟩ | refine ⟨.inr ⟨rfl, rfl⟩, ?_⟩)
  case nd => decide
  case m0 => exact fun _ => rfl
  case l0 => exact fun _ => rfl
  case co => exact rfl
  case ge => exact rfl
  case k => exact rfl
  clear X T
  intro L h tk X T F N
  repeat walk_at "S"
  refine lenB (by omega) fun _ _ => ?_
  repeat walk_at "S"
  refine rangeR1 F N fun h tk r t1 t2 t3 F N hr => ?_
  with_reducible refine' compRange ?hh F N b.size hr (by omega) (by omega) (by omega) ?ce ?ki ?hx ?hn (fun i ys led => A2 IV ys (((List.range b.toList.length).map fun j => (((b.toList.getD j 0).toNat * 256 ^ (b.toList.length - 1 - j) : Nat) : Int)).take i) ∧ (L + 1, Res.cel (some (.bytes b tb))) ∈ led) ?_ ?_ ?_
  case hh => exact hh
  case ce => decide
  case ki => exact rfl
  case hx => exact rfl
  case hn => omega
  · exact ⟨.nil, .head _⟩
  · clear F N hr
    rintro I C D i t ys mC led₁ oI h tk E' hi ⟨hA, hc1⟩ hm F N
    refine wpAny_tests_nil ?_
    repeat walk_at "S"
    refine bItem (j := i) (by omega) hi (by omega) (fun _ _ => ?_) rfl
    repeat walk_at "S"
    refine lenB (by omega) fun _ _ => ?_
    repeat walk_at "S"
    have he : ((b.size : Int) - 1 - (0 + (i : Int))).toNat = b.size - 1 - i := by omega
    with_reducible refine' powI (by decide) (by omega) (by omega) ?_; intro _ _
    rw [he]
    repeat walk_at "S"
    have hc := UInt8.toNat_lt (b.toList.getD i 0)
    with_reducible refine' mulI (by omega) (by omega) ?_; intro _ _
    repeat walk_at "S"
    rw [pow_cast, ← Int.natCast_mul]
    refine cEnd F N (.head _) (.tail _ (.head _)) (.tail _ (.tail _ (.head _))) fun led2 hk2 => ⟨?_, hk2 _ (by simp [hc1]) (by simp) (by simp) (by simp)⟩
    have hg : ((List.range b.toList.length).map fun j => (((b.toList.getD j 0).toNat * 256 ^ (b.toList.length - 1 - j) : Nat) : Int))[i]? = some (((b.toList.getD i 0).toNat * 256 ^ (b.size - 1 - i) : Nat) : Int) := by simp [hi]
    rw [take_snoc hg]
    exact hA.snoc ⟨_, rfl⟩
  · clear F N hr
    rintro D ys led₁ h tk ⟨hA, _⟩ F N
    rw [List.take_of_length_le (by simp)] at hA
    repeat walk_at "S"
    refine sumR hh F N (led_list N (.head _)) hA fun h tk t F N => ?_
    have e : ((List.range b.toList.length).map fun j => (((b.toList.getD j 0).toNat * 256 ^ (b.toList.length - 1 - j) : Nat) : Int)).sum = (beN b.toList : Int) := by
      rw [← beN_sum]
      generalize List.range b.toList.length = rr
      induction rr with
      | nil => rfl
      | cons a r ih => simp only [List.map_cons, List.sum_cons, ih, Int.natCast_add]
    rw [e]
    repeat (first | (with_reducible refine' Seal.ret ?K ?_; case K => with_reducible assumption) | with_reducible refine turnRet ?_)
    exact post _ _ _ F.keep
set_option linter.unusedVariables false
def leastW (ns : List Nat) (low : Nat) : Nat := ns.foldl (fun a n => max a (wd n)) low
theorem leastW_le : ∀ (ns : List Nat) (low k : Nat), leastW ns low ≤ k ↔ low ≤ k ∧ ∀ n ∈ ns, wd n ≤ k
  | [], low, k => by simp [leastW]
  | n :: r, low, k => by
    show leastW r (max low (wd n)) ≤ k ↔ _
    rw [leastW_le r, Nat.max_le]
    simp only [List.mem_cons, forall_eq_or_imp]
    exact and_assoc
theorem law_least_c
  {w : World} {mg mb : Str → Option Value} {me : ExcName → Option Value} {A : Around} {H : Heap} {G : Array GenState} {D : Drawn} {tk : Nat} {O : OsState} {h₀ : Heap} {Q E : Value → Shared → Prop}
  (X : (hd.heap_1 w.params).In h₀) (T : TopH mg mb me h₀) (st : h₀.StaysIn H) (hh : A.handled = none) (hdp : A.depth + 10 < recursionLimit) (hu : A.units + 60 < cLine)
  {q : Addr} {qs : List Value} {ns : List Nat} {low : Nat} {tl : Tok} (hl : H.IsList q qs.toArray) (hA : A2 IV qs (ns.map fun (k : Nat) => (k : Int))) (hz : ns.length ≤ 1000) (hlow : low ≤ 100) (hb : leastW ns low < 1000)
  (post : ∀ h' tk' t, H.StaysIn h' → Q (.int (leastW ns low : Int) t) ⟨h', G, D, tk', O⟩) :
  wpAny (model PR w) A (call (.ref 187) [.ref q, .int (low : Int) tl]) Q E ⟨H, G, D, tk, O⟩ := by
  with_reducible refine' enterCP X T st [(Str.ofString "numbers", .ref q), (Str.ofString "lowest", .int (low : Int) tl)] (fun y => if y = Str.ofString "lowest" then some (.int (low : Int) tl) else if y = Str.ofString "numbers" then some (.ref q) else none) (fun L => [(L + 1, .cel none)]) ?ho ?cd ?room ?bd ?ki ?nd ?m0 ?l0 ?co ?ge ?k ?_
  case ho => k_is
  case cd => k_is
  case room => omega
  case bd => exact rfl
  case ki => (repeat' first | exact trivial | refine ⟨.inl rfl, ?_⟩ | refine ⟨.inr ⟨rfl, rfl⟩, ?_⟩)
  case nd => decide
  case m0 => exact fun _ => rfl
  case l0 => exact fun _ => rfl
  case co => exact rfl
  case ge => exact rfl
  case k => exact rfl
  clear X T
  intro L h tk X T F N
  repeat walk_at "S"
  with_reducible refine' stCM F N (List.Mem.head _) ?_ ?_ ?_ ?_
  · exact rfl
  · exact rfl
  · exact rfl
  clear F N; intro h led F N hcw hk
  try (with_reducible refine' Seal.next ?K ?_; case K => with_reducible assumption)
  clear hk
  walk_at "S"
  have hlow2 : low ≤ leastW ns low := ((leastW_le ns low _).mp (Nat.le_refl _)).1
  refine whileR PassesOwn.never F N (fun j m led => ∃ a t, m (Str.ofString "numbers") = some (.ref q) ∧ (L + 1, Res.cel (some (.int ((a : Nat) : Int) t))) ∈ led ∧ a + j = leastW ns low ∧ low ≤ a) (leastW ns low - low) ⟨low, tl, rfl, hcw, by omega, Nat.le_refl _⟩ ?_
  clear F N hcw
  rintro j m led h tk ⟨a, t, m1, hcw, haj, hla⟩ F N
  repeat walk_at "S"
  have hlF : ∀ {h m}, Fr H L h m → h.IsList q qs.toArray := fun F => hl.at fun o e => F.keep _ _ e
  have hqn := hA.len
  rw [List.length_map] at hqn
  with_reducible refine' compList ?hh F N (hlF F) ?ce ?ki ?hx ?hn (fun i ys led => (ys = [] ↔ ∀ n ∈ ns.take i, n < 256 ^ a) ∧ (L + 1, Res.cel (some (.int ((a : Nat) : Int) t))) ∈ led) ?_ ?_ ?_ ?_
  case hh => exact hh
  case ce => decide
  case ki => exact rfl
  case hx => exact rfl
  case hn => omega
  · exact ⟨⟨fun _ n hn => by simp at hn, fun _ => rfl⟩, hcw⟩
  · exact fun _ _ _ _ _ _ F => hlF F
  · clear F N
    rintro I C D i v ys mC led₁ oI h tk E' hv ⟨hY, hc1⟩ hm F N
    obtain ⟨n', hn1, tv, rfl⟩ := hA.get hv
    obtain ⟨n, hn, rfl⟩ : ∃ n, ns[i]? = some n ∧ ((n : Nat) : Int) = n' := by simpa using hn1
    refine wpAny_tests_one ?_
    repeat walk_at "S"
    with_reducible refine' powI (by decide) (by omega) (by omega) ?_; intro _ _
    rw [Int.toNat_natCast, pow_cast]
    repeat walk_at "S"
    refine iteB (fun hc => ?_) (fun hc => ?_)
    · repeat walk_at "S"
      refine cEnd F N (.head _) (.tail _ (.head _)) (.tail _ (.tail _ (.head _))) fun led2 hk2 => ⟨?_, hk2 _ (by simp [hc1]) (by simp) (by simp) (by simp)⟩
      rw [take_snoc hn]
      refine ⟨fun z => absurd z (by simp), fun z => ?_⟩
      have := z n (by simp)
      have hc' : ((256 ^ a : Nat) : Int) ≤ (n : Int) := hc
      exact absurd (Int.ofNat_le.mp hc') (Nat.not_le.mpr this)
    · repeat walk_at "S"
      refine cSkip F N (.head _) (.tail _ (.head _)) (.tail _ (.tail _ (.head _))) fun led2 hk2 => ⟨?_, hk2 _ (by simp [hc1]) (by simp) (by simp) (by simp)⟩
      rw [take_snoc hn, hY]
      have hc' : n < 256 ^ a := Nat.lt_of_not_le fun z => hc (Int.ofNat_le.mpr z)
      simp only [List.mem_append, List.mem_singleton]
      exact ⟨fun z y hy => hy.elim (z y) fun e => e ▸ hc', fun z y hy => z y (.inl hy)⟩
  · clear F N hcw
    rintro D ys led₁ h tk ⟨hY, hcw⟩ F N
    rw [hqn, List.take_length] at hY
    repeat walk_at "S"
    with_reducible refine newListR F N (by rw [sizeLine_eq]; exact Nat.le_of_ble_eq_true rfl) fun e h F N => ?_
    repeat (first | (with_reducible refine' Seal.ret ?K ?_; case K => with_reducible assumption) | with_reducible refine turnRet ?_)
    repeat walk_at "S"
    refine neNil (led_list N (l := D) (vs := ys) (.tail _ (.head _))) (led_list N (.head _)) (by show A.units + _ < _; omega) ?_
    repeat walk_at "S"
    have hkey : ys = [] ↔ leastW ns low ≤ a := by
      rw [hY, leastW_le]
      exact ⟨fun z => ⟨hla, fun n hn => (wd_le a n).mpr (z n hn)⟩, fun z n hn => (wd_le a n).mp (z.2 n hn)⟩
    refine iteB (fun hc => ?_) (fun hc => ?_)
    · repeat walk_at "S"
      with_reducible refine' stCM F N (List.Mem.tail _ (List.Mem.tail _ hcw)) ?_ ?_ ?_ ?_
      · exact rfl
      · exact rfl
      · exact rfl
      clear F N; intro h led2 F N hcw2 hk2
      try (with_reducible refine' Seal.next ?K ?_; case K => with_reducible assumption)
      repeat walk_at "S"
      have : ¬ leastW ns low ≤ a := fun z => hc (hkey.mpr z)
      rw [show ((a : Int) + 1) = ((a + 1 : Nat) : Int) from rfl] at hcw2
      exact wNext (k := j - 1) F N (by omega) ⟨a + 1, _, m1, hcw2, by omega, by omega⟩
    · repeat walk_at "S"
      have h1 : leastW ns low ≤ a := hkey.mp (by simpa using hc)
      have : a = leastW ns low := by omega
      subst this
      repeat (first | (with_reducible refine' Seal.ret ?K ?_; case K => with_reducible assumption) | with_reducible refine turnRet ?_)
      exact post _ _ _ F.keep
set_option linter.unusedVariables false
section
variable {w : World} {A : Around} {E : Value → Shared → Prop} {h h' : Heap} {G : Array GenState} {D : Drawn} {tk : Nat} {O : OsState} {g : Heap} {L l p c : Addr} {m : Str → Option Value} {led : Ls} {v x : Value} {vs : List Value} {t u : Tok}
theorem lSetM {k : Int} {j : Nat} {Q : Unit → Shared → Prop} (F : Fr g L h m) (N : Led w g L h led) (hm : (l, .lst vs) ∈ led) (hk : k = j) (hj : j < vs.length) (hz : vs.length < 2 ^ 60)
    (hq : ∀ h' led', Fr g L h' m → Led w g L h' led' → (l, .lst (vs.set j v)) ∈ led' → (∀ p ∈ led, p ≠ (l, .lst vs) → p ∈ led') → Q () ⟨h', G, D, tk, O⟩) :
    wpAny (model PR w) A (setItem (.ref l) (.int k t) v) Q E ⟨h, G, D, tk, O⟩ := by
  subst hk
  obtain ⟨n, ho⟩ : h.PlainList l vs.toArray := N.get hm
  refine ki_setAt (n := n) ho (by omega) (by omega) (by simpa using hj) ?_
  have q := PySem.IsL.update (n := n) ho fun xs => xs.setIfInBounds j v
  have e2 : (vs.toArray).setIfInBounds j v = (vs.set j v).toArray := by
    apply Array.ext'
    simp
  rw [e2] at q
  rw [Int.toNat_natCast]
  obtain ⟨led', F', N', a, b⟩ := updM (r' := .lst (vs.set j v)) F N hm (Heap.SameBut.update ..) ⟨_, q⟩
  exact hq _ _ F' N' a b
theorem mPop {pl : Sem Bool} {Q : Value × List Value → Shared → Prop} (N : Led w g L h led) (hm : (l, .lst vs) ∈ led)
    (hq : Q (.builtin "list.pop", [.ref l]) ⟨h, G, D, tk, O⟩) : wpAny (model PR w) A (getMethod (.ref l) (Str.ofString "pop") pl) Q E ⟨h, G, D, tk, O⟩ :=
  lmeth (N.get hm) PySem.F.slot_list_pop PySem.F.type_list_pop hq
theorem lPop0 {Q : Value → Shared → Prop} (F : Fr g L h m) (N : Led w g L h led) (hm : (l, .lst (x :: vs)) ∈ led) (hz : vs.length < 1000000)
    (hq : ∀ h' led', Fr g L h' m → Led w g L h' led' → (l, .lst vs) ∈ led' → (∀ p ∈ led, p ≠ (l, .lst (x :: vs)) → p ∈ led') → Q x ⟨h', G, D, tk, O⟩) :
    wpAny (model PR w) A (call (.builtin "list.pop") [.ref l, .int 0 t]) Q E ⟨h, G, D, tk, O⟩ := by
  obtain ⟨n, ho⟩ : h.PlainList l (x :: vs).toArray := N.get hm
  refine call_meets PySem.F.slot_list_pop ⟨_, ho, rfl⟩ PySem.F.entry_list_pop (PySem.F.args_list_pop_2 _ _)
    (MeetsSeq.list_pop_at l (x :: vs).toArray n 0 t 0 x (by decide) (by simp [seqIndex?]) (by simp) (by rw [sizeLine_eq]; simp; omega)) ⟨ho, ?_⟩
  have q := PySem.IsL.update (n := n) ho fun xs => xs.eraseIdxIfInBounds 0
  have e2 : ((x :: vs).toArray).eraseIdxIfInBounds 0 = vs.toArray := kl_erase [] vs x
  rw [e2] at q
  obtain ⟨led', F', N', a, b⟩ := updM (r' := .lst vs) F N hm (Heap.SameBut.update ..) ⟨_, q⟩
  exact hq _ _ F' N' a b
/-- the pen, in a heap -/
structure PenAt (w : World) (h : Heap) (p c : Addr) : Prop where
  ne : p ≠ c
  hp : 3 < p
  hc : 3 < c
  at' : ∃ cells ns cnt rest tc tr, h.PlainList p [.ref c, .int cnt tc, .int rest tr].toArray ∧ h.PlainList c cells.toArray ∧ A2 IV cells ns ∧ cells.length ≤ 63
def PenL (led : Ls) (p c : Addr) : Prop := ∃ cells ns cnt rest tc tr, (p, Res.lst [.ref c, .int cnt tc, .int rest tr]) ∈ led ∧ (c, Res.lst cells) ∈ led ∧ A2 IV cells ns ∧ cells.length ≤ 63
def But (p c : Addr) (h h' : Heap) : Prop := ∀ b o, b ≠ p → b ≠ c → h.get? b = some o → h'.get? b = some o
theorem PenL.sub {led' : Ls} (x : PenL led p c) (k : ∀ r vs, (r, Res.lst vs) ∈ led → (r, Res.lst vs) ∈ led') : PenL led' p c := by
  obtain ⟨cells, ns, cnt, rest, tc, tr, a, b, r⟩ := x
  exact ⟨cells, ns, cnt, rest, tc, tr, k _ _ a, k _ _ b, r⟩
theorem PenL.at (x : PenL led p c) (N : Led w g L h led) (hpc : p ≠ c) : PenAt w h p c := by
  obtain ⟨cells, ns, cnt, rest, tc, tr, a, b, r⟩ := x
  exact ⟨hpc, N.hi a, N.hi b, cells, ns, cnt, rest, tc, tr, N.get a, N.get b, r⟩
theorem PenL.none (x : PenL led p c) (N : Led w g L h led) : g.get? p = none ∧ g.get? c = none := by
  obtain ⟨cells, ns, cnt, rest, tc, tr, a, b, r⟩ := x
  exact ⟨(N.N _ a).2.2.2, (N.N _ b).2.2.2⟩
theorem penBack (x : PenL led p c) (F : Fr g L h m) (N : Led w g L h led) (hb : But p c h h') (hp : PenAt w h' p c) :
    ∃ led', Fr g L h' m ∧ Led w g L h' led' ∧ PenL led' p c ∧ ∀ q ∈ led, q.1 ≠ p → q.1 ≠ c → q ∈ led' := by
  obtain ⟨cells, ns, cnt, rest, tc, tr, a, b, r⟩ := x
  obtain ⟨ne, _, _, cells', ns', cnt', rest', tc', tr', a', b', r'⟩ := hp
  have na := N.N _ a
  have nb := N.N _ b
  obtain ⟨l1, P1, k1⟩ := permFront a
  obtain ⟨l2, P2, k2⟩ := permFront (k1 _ b (by simp [Ne.symm ne]))
  have N2 := N.perm (P1.trans (P2.cons _))
  have o1 := N2.off
  have o2 := (N2.subl (List.sublist_cons_self _ _)).off
  refine ⟨(p, .lst [.ref c, .int cnt' tc', .int rest' tr']) :: (c, .lst cells') :: l2, ⟨F.ns.at' fun o e => hb _ _ (Ne.symm na.2.2.1) (Ne.symm nb.2.2.1) e, fun q o e => hb q o (fun z => ?_) (fun z => ?_) (F.keep q o e), F.above⟩, ⟨fun q hq => ?_, ?_, N.B⟩,
    ⟨cells', ns', cnt', rest', tc', tr', .head _, .tail _ (.head _), r'⟩, fun q hq n1 n2 => ?_⟩
  · rw [z, na.2.2.2] at e; cases e
  · rw [z, nb.2.2.2] at e; cases e
  · rcases List.mem_cons.mp hq with rfl | hq
    · exact ⟨a', na.2⟩
    · rcases List.mem_cons.mp hq with rfl | hq
      · exact ⟨b', nb.2⟩
      · have z := N2.N q (.tail _ (.tail _ hq))
        exact ⟨at_of z.1 fun o e => hb _ _ (o1 q (.tail _ hq)) (o2 q hq) e, z.2⟩
  · have := N2.D
    exact this
  · exact .tail _ (.tail _ (k2 _ (k1 _ hq fun e => n1 (by rw [e])) fun e => n2 (by rw [e])))
end
set_option linter.unusedVariables false
theorem pen_new {w : World} {h₀ H : Heap} {p c : Addr} {a b : List Value} (ne : p ≠ c) (hp3 : 3 < p) (hc3 : 3 < c) (hp : h₀.get? p = none) (hc : h₀.get? c = none) (ha : H.PlainList p a.toArray) (hb : H.PlainList c b.toArray) : New w h₀ H [(p, .lst a), (c, .lst b)] :=
  ⟨fun q hq => by
    rcases List.mem_cons.mp hq with rfl | hq
    · exact ⟨ha, hp3, hp⟩
    · rw [List.mem_singleton.mp hq]; exact ⟨hb, hc3, hc⟩, by simp [keys, ne]⟩
theorem but_hide {H g h : Heap} {L : Addr} {m : Str → Option Value} {p c : Addr} (hg : g = hideAll H [p, c]) (F : Fr g L h m) : But p c H h := fun b o n1 n2 e => F.keep _ _ (by rw [hg]; exact hideAll_get _ e (by simp [n1, n2]))
theorem intI {n : Int} {t : Tok} {w : World} {A : Around} {E : Value → Shared → Prop} {s : Shared} {Q : Value → Shared → Prop} (hq : Q (.int n t) s) : wpAny (model PR w) A (call (.type "int") [.int n t]) Q E s := call_int_int hq
theorem draw_c
  {w : World} {mg mb : Str → Option Value} {me : ExcName → Option Value} {A : Around} {H : Heap} {G : Array GenState} {D : Drawn} {tk : Nat} {O : OsState} {h₀ : Heap} {Q E : Value → Shared → Prop}
  (X : (hd.heap_1 w.params).In h₀) (T : TopH mg mb me h₀) (st : h₀.StaysIn H) (hh : A.handled = none) (hdp : A.depth + 2 < recursionLimit) (hu : A.units + 30 < cLine)
  {p c : Addr} (hp : h₀.get? p = none) (hc : h₀.get? c = none) (hpen : PenAt w H p c) {many : Nat} {tm : Tok} (h0 : 0 < many) (hl : many < 2 ^ 100)
  (post : ∀ h' tk' r t, PenAt w h' p c → But p c H h' → r < many → Q (.int ((r : Nat) : Int) t) ⟨h', G, D, tk', O⟩) :
  wpAny (model PR w) A (call (.ref 151) [.ref p, .int (many : Int) tm]) Q E ⟨H, G, D, tk, O⟩ := by
  obtain ⟨ne, hp3, hc3, cells, ns, cnt, rest, tc, tr, ha, hb, hA, hz⟩ := hpen
  with_reducible refine' enterH X T st ([(p, .lst [.ref c, .int cnt tc, .int rest tr]), (c, .lst cells)]) (pen_new ne hp3 hc3 hp hc ha hb) [(Str.ofString "pen", .ref p), (Str.ofString "many", .int (many : Int) tm)] ?ho ?cd ?room ?bd ?lo ?ce ?co ?ge ?k ?_
  case ho => k_is
  case cd => k_is
  case room => omega
  case bd => exact BindsTo.of_eq rfl
  case lo => exact rfl
  case ce => decide
  case co => exact rfl
  case ge => exact rfl
  case k => exact rfl
  clear X T
  intro g L h tk hg X T F N
  have hlog : ((many : Int)).natAbs.log2 < 9000 := by
    rw [Int.natAbs_natCast]
    exact Nat.lt_trans ((Nat.log2_lt (by omega)).mpr hl) (by decide)
  have hm0 : (many : Int) ≠ 0 := by omega
  have fin : ∀ {h' : Heap} {m : Str → Option Value} {led : Ls} {cells ns cnt rest tc tr}, Fr g L h' m → Led w g L h' led → (p, Res.lst [.ref c, .int cnt tc, .int rest tr]) ∈ led → (c, Res.lst cells) ∈ led → A2 IV cells ns → cells.length ≤ 63 → PenAt w h' p c ∧ But p c H h' :=
    fun F N a b r z => ⟨⟨ne, hp3, hc3, _, _, _, _, _, _, N.get a, N.get b, r, z⟩, but_hide hg F⟩
  clear hg hb ha
  repeat walk_at "S"
  refine lItem (led_list N (.head _)) (by decide) (by decide) rfl ?_ rfl
  repeat walk_at "S"
  refine lSetM F N (.head _) (j := 1) rfl (by simp) (by simp) ?_
  clear F N
  intro h led F N mp hk
  have mc := hk _ (.tail _ (.head _)) (by simp [Ne.symm ne])
  clear hk
  repeat ((fail_if_success (with_reducible show wpAny _ _ (execs _ _) _ _ _)); walk_at "S")
  dsimp only [List.set] at mp
  refine joinLd w G D O F (fun led' => ∃ (cells : List Value) (ns : List Int) (rest : Int) (tc tr : Tok), (p, Res.lst [.ref c, .int (cnt + 1) tc, .int rest tr]) ∈ led' ∧ (c, Res.lst cells) ∈ led' ∧ A2 IV cells ns ∧ cells.length ≤ 63) ?_ ?_
  · intro Qs Ks
    repeat walk_at "S"
    refine lItem (led_list N mp) (by decide) (by decide) rfl ?_ rfl
    repeat walk_at "S"
    refine iteB (fun hc1 => ?_) (fun hc1 => ?_)
    · repeat walk_at "S"
      refine lItem (led_list N mp) (by decide) (by decide) rfl ?_ rfl
      repeat walk_at "S"
      with_reducible refine newListR F N (by rw [sizeLine_eq]; exact Nat.le_of_ble_eq_true rfl) fun e h F N => ?_
      repeat (first | (with_reducible refine' Seal.ret ?K ?_; case K => with_reducible assumption) | with_reducible refine turnRet ?_)
      repeat walk_at "S"
      refine neNil (led_list N (l := c) (vs := cells) (.tail _ mc)) (led_list N (.head _)) (by show A.units + _ < _; omega) ?_
      repeat walk_at "S"
      refine iteB (fun hc2 => ?_) (fun hc2 => ?_)
      · repeat walk_at "S"
        obtain ⟨y, r, rfl⟩ : ∃ y r, cells = y :: r := by
          cases cells with
          | nil => exact absurd rfl hc2
          | cons y r => exact ⟨y, r, rfl⟩
        obtain ⟨k, ks, rfl, tk0, rfl, hA2⟩ : ∃ k ks, ns = k :: ks ∧ ∃ t, y = .int k t ∧ A2 IV r ks := by
          cases hA with
          | cons a b => obtain ⟨t, rfl⟩ := a; exact ⟨_, _, rfl, t, rfl, b⟩
        refine lItem (led_list N (.tail _ mp)) (by decide) (by decide) rfl ?_ rfl
        repeat walk_at "S"
        refine mPop N (.tail _ mc) ?_
        repeat walk_at "S"
        have hz' : r.length ≤ 62 := by simp at hz; omega
        refine lPop0 F N (.tail _ mc) (by omega) fun h led F N mc hk => ?_
        replace mp := hk _ (.tail _ mp) (by simp [ne])
        clear hk hA hz
        repeat walk_at "S"
        refine lSetM F N mp (j := 2) rfl (by simp) (by simp) fun h led F N mp hk => ?_
        replace mc := hk _ mc (by simp [Ne.symm ne])
        dsimp only [List.set] at mp
        repeat walk_at "S"
        exact ⟨_, _, _, rfl, ⟨_, _, _, _, _, mp, mc, hA2, by omega⟩, F, N⟩
      · repeat walk_at "S"
        exact ⟨_, _, _, rfl, ⟨_, _, _, _, _, .tail _ mp, .tail _ mc, hA, hz⟩, F, N⟩
    · repeat walk_at "S"
      exact ⟨_, _, _, rfl, ⟨_, _, _, _, _, mp, mc, hA, hz⟩, F, N⟩
  clear F N mp mc hA hz
  rintro h tk led ⟨cells, ns, rest, tc, tr, mp, mc, hA, hz⟩ F N
  repeat walk_at "S"
  refine lItem (led_list N mp) (by decide) (by decide) rfl ?_ rfl
  repeat walk_at "S"
  refine intI ?_
  repeat walk_at "S"
  with_reducible refine' modI hm0 ?_; intro _ _
  with_reducible refine' stR F N ?_ ?_ ?_ ?_
  · exact rfl
  · exact rfl
  · exact rfl
  clear F N; intro h tk F N
  try (with_reducible refine' Seal.next ?K ?_; case K => with_reducible assumption)
  repeat walk_at "S"
  refine lItem (led_list N mp) (by decide) (by decide) rfl ?_ rfl
  repeat walk_at "S"
  refine intI ?_
  repeat walk_at "S"
  with_reducible refine' divI hm0 hlog ?_; intro _ _
  repeat walk_at "S"
  refine lSetM F N mp (j := 2) rfl (by simp) (by simp) fun h led F N mp hk => ?_
  replace mc := hk _ mc (by simp [Ne.symm ne])
  dsimp only [List.set] at mp
  clear hk
  repeat walk_at "S"
  refine lItem (led_list N mp) (by decide) (by decide) rfl ?_ rfl
  repeat walk_at "S"
  with_reducible refine' modI hm0 ?_; intro _ _
  obtain ⟨f1, f2⟩ := fin F N mp mc hA hz
  have e1 : ∀ x : Int, 0 ≤ x.fmod (many : Int) ∧ x.fmod (many : Int) < many := fun x => by
    rw [Int.fmod_eq_emod_of_nonneg _ (by omega)]
    exact ⟨Int.emod_nonneg _ hm0, Int.emod_lt_of_pos _ (by omega)⟩
  obtain ⟨e2, e3⟩ := e1 (Int.fmod rest many + (cnt + 1))
  obtain ⟨r, hr⟩ := Int.eq_ofNat_of_zero_le e2
  rw [hr] at e3 ⊢
  repeat (first | (with_reducible refine' Seal.ret ?K ?_; case K => with_reducible assumption) | with_reducible refine turnRet ?_)
  exact post _ _ _ _ f1 f2 (by omega)
set_option linter.unusedVariables false
theorem pen_led {p c : Addr} {cells : List Value} {ns : List Int} {cnt rest : Int} {tc tr : Tok} (hA : A2 IV cells ns) (hz : cells.length ≤ 63) : PenL [(p, .lst [.ref c, .int cnt tc, .int rest tr]), (c, .lst cells)] p c := ⟨_, _, _, _, _, _, .head _, .tail _ (.head _), hA, hz⟩
theorem PenL.fin {w : World} {H g h : Heap} {L p c : Addr} {m : Str → Option Value} {led : Ls} (P : PenL led p c) (ne : p ≠ c) (hg : g = hideAll H [p, c]) (F : Fr g L h m) (N : Led w g L h led) : PenAt w h p c ∧ But p c H h := ⟨P.at N ne, but_hide hg F⟩
theorem pick_c
  {w : World} {mg mb : Str → Option Value} {me : ExcName → Option Value} {A : Around} {H : Heap} {G : Array GenState} {D : Drawn} {tk : Nat} {O : OsState} {h₀ : Heap} {Q E : Value → Shared → Prop}
  (X : (hd.heap_1 w.params).In h₀) (T : TopH mg mb me h₀) (st : h₀.StaysIn H) (hh : A.handled = none) (hdp : A.depth + 5 < recursionLimit) (hu : A.units + 40 < cLine)
  {p c : Addr} (hp : h₀.get? p = none) (hc : h₀.get? c = none) (hpen : PenAt w H p c) {q : Addr} {vs : List Value} (hl : H.IsList q vs.toArray) (hqp : q ≠ p) (hqc : q ≠ c) (h1 : 0 < vs.length) (h2 : vs.length < 1000)
  (post : ∀ h' tk' v, PenAt w h' p c → But p c H h' → v ∈ vs → Q v ⟨h', G, D, tk', O⟩) :
  wpAny (model PR w) A (call (.ref 158) [.ref p, .ref q]) Q E ⟨H, G, D, tk, O⟩ := by
  obtain ⟨ne, hp3, hc3, cells, ns, cnt, rest, tc, tr, ha, hb, hA, hz⟩ := hpen
  with_reducible refine' enterH X T st ([(p, .lst [.ref c, .int cnt tc, .int rest tr]), (c, .lst cells)]) (pen_new ne hp3 hc3 hp hc ha hb) [(Str.ofString "pen", .ref p), (Str.ofString "some", .ref q)] ?ho ?cd ?room ?bd ?lo ?ce ?co ?ge ?k ?_
  case ho => k_is
  case cd => k_is
  case room => omega
  case bd => exact BindsTo.of_eq rfl
  case lo => exact rfl
  case ce => decide
  case co => exact rfl
  case ge => exact rfl
  case k => exact rfl
  clear X T
  intro g L h tk hg X T F N
  have P := pen_led (p := p) (c := c) (cnt := cnt) (rest := rest) (tc := tc) (tr := tr) hA hz
  have hlF : ∀ {h : Heap} {m}, Fr g L h m → h.IsList q vs.toArray := fun F => hl.at fun o e => F.keep _ _ (by rw [hg]; exact hideAll_get _ e (by simp [hqp, hqc, keys]))
  clear ha hb
  repeat walk_at "S"
  refine lenL (hlF F) (by omega) fun _ _ => ?_
  repeat walk_at "S"
  refine ⟨X.keeps F.keep, ?_⟩
  refine draw_c X T F.keep (by show A.handled = _; exact hh) (by show A.depth + _ + _ < _; omega) (by show A.units + 3 + _ < _; omega) (P.none N).1 (P.none N).2 (P.at N ne) h1 (by omega) fun h tk r t pa hb hr => ?_
  obtain ⟨led, F, N, P, hk⟩ := penBack P F N hb pa
  clear hb pa
  repeat walk_at "S"
  refine lItem (k := (r : Int)) (hlF F) (by omega) (by omega) (by rw [Int.toNat_natCast]; exact List.getElem?_eq_getElem hr) ?_ rfl
  obtain ⟨f1, f2⟩ := P.fin ne hg F N
  repeat (first | (with_reducible refine' Seal.ret ?K ?_; case K => with_reducible assumption) | with_reducible refine turnRet ?_)
  exact post _ _ _ f1 f2 (List.getElem_mem hr)
theorem PenL.consN {w : World} {g h : Heap} {L p c : Addr} {led : Ls} {x : Addr × Res} (P : PenL led p c) (N : Led w g L h (x :: led)) : PenL (x :: led) p c := P.sub fun _ _ hm => List.mem_cons_of_mem _ hm
theorem PenL.offN {w : World} {g h : Heap} {L p c a : Addr} {led : Ls} {r : Res} (P : PenL led p c) (N : Led w g L h ((a, r) :: led)) : a ≠ p ∧ a ≠ c := by
  obtain ⟨cells, ns, cnt, rest, tc, tr, x, y, _⟩ := P
  exact ⟨Ne.symm (N.off _ x), Ne.symm (N.off _ y)⟩
theorem number_c
  {w : World} {mg mb : Str → Option Value} {me : ExcName → Option Value} {A : Around} {H : Heap} {G : Array GenState} {D : Drawn} {tk : Nat} {O : OsState} {h₀ : Heap} {Q E : Value → Shared → Prop}
  (X : (hd.heap_1 w.params).In h₀) (T : TopH mg mb me h₀) (st : h₀.StaysIn H) (hh : A.handled = none) (hdp : A.depth + 9 < recursionLimit) (hu : A.units + 60 < cLine)
  {p c : Addr} (hp : h₀.get? p = none) (hc : h₀.get? c = none) (hpen : PenAt w H p c)
  (post : ∀ h' tk' r t, PenAt w h' p c → But p c H h' → r < 2 ^ 64 → Q (.int ((r : Nat) : Int) t) ⟨h', G, D, tk', O⟩) :
  wpAny (model PR w) A (call (.ref 165) [.ref p]) Q E ⟨H, G, D, tk, O⟩ := by
  obtain ⟨ne, hp3, hc3, cells, ns, cnt, rest, tc, tr, ha, hb, hA, hz⟩ := hpen
  with_reducible refine' enterH X T st ([(p, .lst [.ref c, .int cnt tc, .int rest tr]), (c, .lst cells)]) (pen_new ne hp3 hc3 hp hc ha hb) [(Str.ofString "pen", .ref p)] ?ho ?cd ?room ?bd ?lo ?ce ?co ?ge ?k ?_
  case ho => k_is
  case cd => k_is
  case room => omega
  case bd => exact BindsTo.of_eq rfl
  case lo => exact rfl
  case ce => decide
  case co => exact rfl
  case ge => exact rfl
  case k => exact rfl
  clear X T
  intro g L h tk hg X T F N
  have P := pen_led (p := p) (c := c) (cnt := cnt) (rest := rest) (tc := tc) (tr := tr) hA hz
  clear ha hb
  repeat walk_at "S"
  with_reducible refine newListR F N (by rw [sizeLine_eq]; exact Nat.le_of_ble_eq_true rfl) fun q h F N => ?_
  repeat (first | (with_reducible refine' Seal.ret ?K ?_; case K => with_reducible assumption) | with_reducible refine turnRet ?_)
  obtain ⟨n1, n2⟩ := P.offN N
  replace P := P.consN N
  repeat walk_at "S"
  refine ⟨X.keeps F.keep, ?_⟩
  refine pick_c X T F.keep (by show A.handled = _; exact hh) (by show A.depth + _ + _ < _; omega) (by show A.units + 3 + _ < _; omega) (P.none N).1 (P.none N).2 (P.at N ne) (led_list N (.head _)) n1 n2 (by simp) (by simp) fun h tk v pa hb hv => ?_
  obtain ⟨led, F, N, P, hk⟩ := penBack P F N hb pa
  clear hb pa
  obtain ⟨k, t0, rfl, hk8⟩ : ∃ (k : Nat) (t : Tok), v = .int (k : Int) t ∧ k ≤ 8 := by
    simp only [List.mem_cons, List.mem_nil_iff, or_false] at hv
    rcases hv with rfl | rfl | rfl | rfl | rfl
    · exact ⟨1, _, rfl, by omega⟩
    · exact ⟨0, _, rfl, by omega⟩
    · exact ⟨2, _, rfl, by omega⟩
    · exact ⟨3, _, rfl, by omega⟩
    · exact ⟨8, _, rfl, by omega⟩
  with_reducible refine' stR F N ?_ ?_ ?_ ?_
  · exact rfl
  · exact rfl
  · exact rfl
  clear F N; intro h tk F N
  try (with_reducible refine' Seal.next ?K ?_; case K => with_reducible assumption)
  repeat walk_at "S"
  refine iteB (fun hc1 => ?_) (fun hc1 => ?_)
  · repeat walk_at "S"
    obtain ⟨f1, f2⟩ := P.fin ne hg F N
    repeat (first | (with_reducible refine' Seal.ret ?K ?_; case K => with_reducible assumption) | with_reducible refine turnRet ?_)
    exact post _ _ 0 _ f1 f2 (by decide)
  · repeat walk_at "S"
    have hk1 : 1 ≤ k := by
      rcases Nat.eq_zero_or_pos k with z | z
      · exact absurd (by rw [z]; rfl) hc1
      · exact z
    have he : ((k : Int) - 1).toNat = k - 1 := by omega
    with_reducible refine' powI (by decide) (by omega) (by omega) ?_; intro _ _
    rw [he]
    repeat walk_at "S"
    with_reducible refine' powI (by decide) (by omega) (by omega) ?_; intro _ _
    rw [he, pow_cast]
    repeat walk_at "S"
    with_reducible refine' mulI (by decide) (by decide) ?_; intro _ _
    rw [show (255 : Int) * ((256 ^ (k - 1) : Nat) : Int) = ((255 * 256 ^ (k - 1) : Nat) : Int) from (Int.natCast_mul _ _).symm]
    repeat walk_at "S"
    have hpow : 256 ^ (k - 1) ≤ 256 ^ 7 := Nat.pow_le_pow_right (by decide) (by omega)
    have hpos : 0 < 256 ^ (k - 1) := Nat.pow_pos (by decide)
    have h7 : (256 : Nat) ^ 7 = 72057594037927936 := by decide
    refine ⟨X.keeps F.keep, ?_⟩
    refine draw_c X T F.keep (by show A.handled = _; exact hh) (by show A.depth + _ + _ < _; omega) (by show A.units + 3 + _ < _; omega) (P.none N).1 (P.none N).2 (P.at N ne) (by omega) (by omega) fun h tk r t pa hb hr => ?_
    obtain ⟨led, F, N, P, hk⟩ := penBack P F N hb pa
    clear hb pa
    repeat walk_at "S"
    obtain ⟨f1, f2⟩ := P.fin ne hg F N
    rw [← Int.natCast_add]
    repeat (first | (with_reducible refine' Seal.ret ?K ?_; case K => with_reducible assumption) | with_reducible refine turnRet ?_)
    exact post _ _ _ _ f1 f2 (by omega)
set_option linter.unusedVariables false
section
variable {w : World} {A : Around} {E : Value → Shared → Prop} {h h' : Heap} {G : Array GenState} {D : Drawn} {tk : Nat} {O : OsState} {g : Heap} {L t : Addr} {m : Str → Option Value} {led : Ls} {v x : Value} {vs : List Value} {env : Env}
theorem ext_stays (he : Heap.ExtBut h.objs.size h h') : h.StaysIn h' := fun b o e => he b o (Nat.ne_of_lt (Heap.lt_size e)) e
theorem Led.m0 {a : Addr × Res} {l : Ls} (_ : Led w g L h (a :: l)) : a ∈ a :: l := .head _
theorem Led.m1 {a b : Addr × Res} {l : Ls} (_ : Led w g L h (a :: b :: l)) : b ∈ a :: b :: l := .tail _ (.head _)
theorem Led.m2 {a b c : Addr × Res} {l : Ls} (_ : Led w g L h (a :: b :: c :: l)) : c ∈ a :: b :: c :: l := .tail _ (.tail _ (.head _))
theorem Led.m3 {a b c d : Addr × Res} {l : Ls} (_ : Led w g L h (a :: b :: c :: d :: l)) : d ∈ a :: b :: c :: d :: l := .tail _ (.tail _ (.tail _ (.head _)))
theorem Led.mt {a p : Addr × Res} {l : Ls} (_ : Led w g L h (a :: l)) (x : p ∈ l) : p ∈ a :: l := .tail _ x
theorem unpackR {n : Nat} {Q : List Value → Shared → Prop} (hh : A.handled = none) (F : Fr g L h m) (N : Led w g L h led) (ht : IsTup h t vs.toArray) (hn : n = vs.length)
    (hq : ∀ h', Fr g L h' m → Led w g L h' led → Q vs ⟨h', G, D, tk, O⟩) : wpAny (model PR w) A (unpackItems (.ref t) n none) Q E ⟨h, G, D, tk, O⟩ := by
  subst hn
  have := unpackItems_tuple (prog := PR) (w := w) (E := E) (s := ⟨h, G, D, tk, O⟩) (Q := Q) hh ht fun h' he => by simpa using hq h' (fr_stays F (ext_stays he)) (N.stays (ext_stays he))
  simpa using this
theorem asgT {elts : List Expr} {k : Nat} {pos : Pos} {Q : Unit → Shared → Prop} (hh : A.handled = none) (F : Fr g L h m) (N : Led w g L h led) (ht : IsTup h t vs.toArray) (hn : (assignEach elts env).length = vs.length) (hs : (assignEach elts env).findIdx? (·.1) = none)
    (hq : ∀ h', Fr g L h' m → Led w g L h' led → wpAny (model PR w) A (assignInOrder ((assignEach elts env).map (·.2)) vs) Q E ⟨h', G, D, tk, O⟩) : wpAny (model PR w) A (assign (.Tuple elts k pos) env (.ref t)) Q E ⟨h, G, D, tk, O⟩ :=
  assign_Tuple_tuple hh ht (by simpa using hn) hs fun h' he => by simpa using hq h' (fr_stays F (ext_stays he)) (N.stays (ext_stays he))
theorem addL {l b : Addr} {us : List Value} {Q : Value → Shared → Prop} (F : Fr g L h m) (N : Led w g L h led) (hl : h.IsList l vs.toArray) (hb : h.IsList b us.toArray) (hz : vs.length + us.length ≤ 16777216)
    (hq : ∀ a h', Fr g L h' m → Led w g L h' ((a, .lst (vs ++ us)) :: led) → Q (.ref a) ⟨h', G, D, tk, O⟩) : wpAny (model PR w) A (binaryOp .Add (.ref l) (.ref b)) Q E ⟨h, G, D, tk, O⟩ := by
  obtain ⟨nw, NW, back⟩ := N.toNews
  refine add_lists F NW hl hb (fun h' F' N' => hq _ _ F' ?_) (by rw [sizeLine_eq]; exact hz)
  have hB := (N' _ (.head _))
  have N1 : Led w g L h' led := N.backNews back fun q hq => N' q (.tail _ hq)
  refine ⟨fun p hp => ?_, ?_, N.B⟩
  · rcases List.mem_cons.mp hp with rfl | hp
    · exact ⟨⟨0, hB.1⟩, N.gt F, hB.2⟩
    · exact N1.N p hp
  · rw [keys_cons, List.nodup_cons]
    refine ⟨fun z => ?_, N.D⟩
    obtain ⟨p, hp, e⟩ := List.mem_map.mp z
    exact absurd e (Nat.ne_of_lt (N.size p hp))
theorem asgL {l : Addr} {elts : List Expr} {k : Nat} {pos : Pos} {Q : Unit → Shared → Prop} (hh : A.handled = none) (F : Fr g L h m) (N : Led w g L h led) (hl : h.IsList l vs.toArray) (hn : (assignEach elts env).length = vs.length) (hs : (assignEach elts env).findIdx? (·.1) = none)
    (hq : ∀ h', Fr g L h' m → Led w g L h' led → wpAny (model PR w) A (assignInOrder ((assignEach elts env).map (·.2)) vs) Q E ⟨h', G, D, tk, O⟩) : wpAny (model PR w) A (assign (.Tuple elts k pos) env (.ref l)) Q E ⟨h, G, D, tk, O⟩ := by
  rw [PyProof.Rows.assign_Tuple]
  refine wpAny_bind (wpAny_standAt ?_)
  unfold unpack
  rw [hn, hs]
  refine wpAny_bind (wpAny_holding ?_)
  have := kun_itemsOf (prog := PR) (w := w) (E := E) (s := ⟨h, G, D, tk, O⟩) (Q := fun items s' => wpAny (model PR w) A (assignInOrder ((assignEach elts env).map (·.2)) items) Q E s') hh hl fun h' he => by simpa using hq h' (fr_stays F (ext_stays he)) (N.stays (ext_stays he))
  simpa using this
theorem inL {n : Int} {t : Tok} {l : Addr} {ns : List Int} {Q : Value → Shared → Prop} (hl : h.IsList l vs.toArray) (hA : A2 IV vs ns) (hq : Q (.bool (decide (n ∈ ns))) ⟨h, G, D, tk, O⟩) :
    wpAny (model PR w) A (compareOp .In (.int n t) (.ref l)) Q E ⟨h, G, D, tk, O⟩ := by
  refine SeqInW.in_listW (fun y => match y with | .int k _ => k == n | _ => false) (fun y hy => ?_) hl ?_
  · obtain ⟨i, hi⟩ := List.mem_iff_getElem?.mp (by simpa using hy : y ∈ vs)
    obtain ⟨k, _, u, rfl⟩ := hA.get hi
    exact MeetsSeq.EqGives.int k n u t
  · have e : ∀ {vs : List Value} {ns : List Int}, A2 IV vs ns → (vs.any fun y => match y with | .int k _ => k == n | _ => false) = decide (n ∈ ns) := by
      intro vs ns x
      induction x with
      | nil => rfl
      | @cons a b l m r _ ih =>
        obtain ⟨u, rfl⟩ := r
        rw [List.any_cons, ih]
        by_cases z : b = n
        · simp [z]
        · simp [z, Ne.symm z]
    rw [List.any_toArray, e hA]; exact hq
end
local macro_rules | `(tactic| walk_at "S") => `(tactic| first
  | ((with_reducible show wpAny _ _ (assignInOrder _ _) _ _ _); first | with_reducible refine assignInOrder_cons ?_ | with_reducible refine assignInOrder_nil ?_)
  | with_reducible refine bindName_ ?_
  | ((with_reducible show wpAny _ _ (assign (Expr.Name _ _) _ _) _ _ _); with_reducible refine PyProof.Rows.assign_Name ?_))
set_option linter.unusedVariables false
def TupR (l : Ls) (v : Value) (e : E3) : Prop := ∃ a tw t1 t2, v = .ref a ∧ (a, Res.tup [.str (wayS e.1) tw, .int e.2.1 t1, .int e.2.2 t2]) ∈ l
abbrev KT (l : Ls) (p : Int × Value) (q : Int × E3) : Prop := p.1 = q.1 ∧ TupR l p.2 q.2
structure TabOk (tab : List (Int × E3)) : Prop where
  asc : (tab.map (·.1)).Pairwise (· < ·)
  ok : ∀ p ∈ tab, 0 ≤ p.1 ∧ p.1 < 2 ^ 20 ∧ p.2.1 < 3 ∧ 0 ≤ p.2.2.1 ∧ p.2.2.1 < 2 ^ 64 ∧ 0 ≤ p.2.2.2 ∧ p.2.2.2 < 2 ^ 64
theorem TabOk.snoc {tab : List (Int × E3)} {n : Int} {e : E3} (x : TabOk tab) (h : ∀ p ∈ tab, p.1 < n) (ho : 0 ≤ n ∧ n < 2 ^ 20 ∧ e.1 < 3 ∧ 0 ≤ e.2.1 ∧ e.2.1 < 2 ^ 64 ∧ 0 ≤ e.2.2 ∧ e.2.2 < 2 ^ 64) : TabOk (tab ++ [(n, e)]) := by
  refine ⟨?_, fun p hp => ?_⟩
  · rw [List.map_append, List.pairwise_append]
    refine ⟨x.asc, by simp, fun a ha b hb => ?_⟩
    obtain ⟨p, hp, rfl⟩ := List.mem_map.mp ha
    simp at hb
    subst hb
    exact h p hp
  · rcases List.mem_append.mp hp with q | q
    · exact x.ok p q
    · rw [List.mem_singleton.mp q]; exact ho
theorem newHide {w : World} {H g h : Heap} {L p c : Addr} {led : Ls} (hg : g = hideAll H [p, c]) (N : Led w g L h led) (P : PenL led p c) (hpc : p ≠ c) : ∃ l, New w H h l ∧ ∀ q ∈ led, q.1 ≠ p → q.1 ≠ c → q ∈ l := by
  obtain ⟨cells, ns, cnt, rest, tc, tr, a, b, _⟩ := P
  obtain ⟨l1, P1, k1⟩ := permFront a
  obtain ⟨l2, P2, k2⟩ := permFront (k1 _ b (by simp [Ne.symm hpc]))
  have N2 := N.perm (P1.trans (P2.cons _))
  have o1 := N2.off
  have o2 := (N2.subl (List.sublist_cons_self _ _)).off
  refine ⟨l2, ⟨fun q hq => ?_, ?_⟩, fun q hq n1 n2 => k2 _ (k1 _ hq fun e => n1 (by rw [e])) fun e => n2 (by rw [e])⟩
  · have z := N2.N q (.tail _ (.tail _ hq))
    refine ⟨z.1, z.2.1, ?_⟩
    cases e : H.get? q.1 with
    | none => rfl
    | some o =>
      have : g.get? q.1 = some o := by rw [hg]; exact hideAll_get _ e (by simp [o1 q (.tail _ hq), o2 q hq])
      rw [z.2.2.2] at this; cases this
  · have := N2.D
    rw [keys_cons, keys_cons, List.nodup_cons, List.nodup_cons] at this
    exact this.2.2
theorem New.front {w : World} {H h : Heap} {l : Ls} {p0 : Addr × Res} (x : New w H h l) (hm : p0 ∈ l) : ∃ l', New w H h (p0 :: l') ∧ ∀ q ∈ l, q ≠ p0 → q ∈ l' := by
  obtain ⟨l', P, k⟩ := permFront hm
  exact ⟨l', ⟨fun q hq => x.N q (P.mem_iff.mpr hq), (P.map _).nodup_iff.mp x.D⟩, k⟩
theorem A2.fsts {α β γ : Type} {R : α × β → α × γ → Prop} {l : List (α × β)} {m : List (α × γ)} (x : A2 R l m) (h : ∀ a b, R a b → a.1 = b.1) : l.map (·.1) = m.map (·.1) := by
  induction x with
  | nil => rfl
  | cons r _ ih => simp only [List.map_cons, ih, h _ _ r]
def GoodWays (vs : List Value) : Prop := 0 < vs.length ∧ vs.length ≤ 3 ∧ ∀ v ∈ vs, ∃ (k : Nat) (t : Tok), v = .str (wayS k) t ∧ k < 3
inductive TInv (p c d wy : Addr) (wvs : List Value) (m : Str → Option Value) (led : Ls) (hi : Nat) (lo len : Nat) : Prop
  | mk (kvs : List (Int × Value)) (tab : List (Int × E3)) (n : Nat) (tn : Tok)
    (x1 : m (Str.ofString "pen") = some (.ref p))
    (x2 : m (Str.ofString "table") = some (.ref d))
    (x3 : m (Str.ofString "number") = some (.int ((n : Nat) : Int) tn))
    (x4 : m (Str.ofString "ways") = some (.ref wy))
    (x5 : PenL led p c)
    (x6 : (d, Res.dct kvs) ∈ led)
    (x7 : (wy, Res.lst wvs) ∈ led)
    (x8 : A2 (KT led) kvs tab)
    (x9 : TabOk tab)
    (x10 : (∀ q ∈ tab, q.1 < (n : Int)))
    (x11 : n ≤ hi)
    (x12 : lo ≤ tab.length)
    (x13 : tab.length ≤ len) : TInv p c d wy wvs m led hi lo len
structure KInv (d wy I I' : Addr) (oI oI' : Obj) (kvs : List (Int × Value)) (wvs : List Value) (tab : List (Int × E3)) (led : Ls) : Prop where
  md : (d, Res.dct kvs) ∈ led
  mw : (wy, Res.lst wvs) ∈ led
  mI : (I, Res.raw oI) ∈ led
  mI' : (I', Res.raw oI') ∈ led
  hA : A2 (KT led) kvs tab
section
variable {d wy I I' p c : Addr} {oI oI' : Obj} {kvs : List (Int × Value)} {wvs : List Value} {tab : List (Int × E3)} {led led' : Ls} {w : World} {g h : Heap} {L : Addr}
theorem KInv.sub (K : KInv d wy I I' oI oI' kvs wvs tab led) (k : ∀ q ∈ led, q ∈ led') : KInv d wy I I' oI oI' kvs wvs tab led' :=
  ⟨k _ K.md, k _ K.mw, k _ K.mI, k _ K.mI', K.hA.mono fun _ _ ⟨z1, a, tw, u1, u2, z2, z3⟩ => ⟨z1, a, tw, u1, u2, z2, k _ z3⟩⟩
theorem KInv.cons {x : Addr × Res} (K : KInv d wy I I' oI oI' kvs wvs tab led) (_ : Led w g L h (x :: led)) : KInv d wy I I' oI oI' kvs wvs tab (x :: led) := K.sub fun _ hq => .tail _ hq
theorem keepT (N : Led w g L h led) (P : PenL led p c) (nw : wy ≠ p ∧ wy ≠ c) (hk : ∀ q ∈ led, q.1 ≠ p → q.1 ≠ c → q ∈ led') (K : KInv d wy I I' oI oI' kvs wvs tab led) : KInv d wy I I' oI oI' kvs wvs tab led' := by
  obtain ⟨_, _, _, _, _, _, a, b, _⟩ := P
  have key : ∀ {q : Addr × Res}, q ∈ led → (∀ vs, q.2 ≠ .lst vs) → q ∈ led' := fun hq hn => hk _ hq (N.ne hq a (hn _)) (N.ne hq b (hn _))
  exact ⟨key K.md (by simp), hk _ K.mw nw.1 nw.2, key K.mI (by simp), key K.mI' (by simp), K.hA.mono fun _ _ ⟨z1, a, tw, u1, u2, z2, z3⟩ => ⟨z1, a, tw, u1, u2, z2, key z3 (by simp)⟩⟩
end
theorem table_c
  {w : World} {mg mb : Str → Option Value} {me : ExcName → Option Value} {A : Around} {H : Heap} {G : Array GenState} {D : Drawn} {tk : Nat} {O : OsState} {h₀ : Heap} {Q E : Value → Shared → Prop}
  (X : (hd.heap_1 w.params).In h₀) (T : TopH mg mb me h₀) (st : h₀.StaysIn H) (hh : A.handled = none) (hdp : A.depth + 20 < recursionLimit) (hu : A.units + 200 < cLine)
  {p c : Addr} (hp : h₀.get? p = none) (hc : h₀.get? c = none) (hpen : PenAt w H p c)
  (post : ∀ h' tk' d kvs tab l, PenAt w h' p c → But p c H h' → New w H h' ((d, .dct kvs) :: l) → A2 (KT l) kvs tab → TabOk tab → 1 ≤ tab.length → tab.length ≤ 9 → Q (.ref d) ⟨h', G, D, tk', O⟩) :
  wpAny (model PR w) A (call (.ref 172) [.ref p]) Q E ⟨H, G, D, tk, O⟩ := by
  obtain ⟨ne, hp3, hc3, cells, ns, cnt, rest, tc, tr, ha, hb, hA, hz⟩ := hpen
  with_reducible refine' enterH X T st ([(p, .lst [.ref c, .int cnt tc, .int rest tr]), (c, .lst cells)]) (pen_new ne hp3 hc3 hp hc ha hb) [(Str.ofString "pen", .ref p)] ?ho ?cd ?room ?bd ?lo ?ce ?co ?ge ?k ?_
  case ho => k_is
  case cd => k_is
  case room => omega
  case bd => exact BindsTo.of_eq rfl
  case lo => exact rfl
  case ce => decide
  case co => exact rfl
  case ge => exact rfl
  case k => exact rfl
  clear X T
  intro g L h tk hg X T F N
  have P := pen_led (p := p) (c := c) (cnt := cnt) (rest := rest) (tc := tc) (tr := tr) hA hz
  clear ha hb hA hz
  repeat walk_at "S"
  with_reducible refine' Assign_Tuple_swapped (names := [Str.ofString "table", Str.ofString "number"]) ?_ ?_ ?_
  rotate_left
  · exact rfl
  · exact rfl
  repeat walk_at "S"
  refine newDictR F N fun d h F N => ?_
  have nd : d ≠ p ∧ d ≠ c := P.offN N
  replace P := P.consN N
  repeat walk_at "S"
  refine ⟨X.keeps F.keep, ?_⟩
  refine draw_c X T F.keep (by show A.handled = _; exact hh) (by show A.depth + _ + _ < _; omega) (by show A.units + 3 + _ < _; omega) (P.none N).1 (P.none N).2 (P.at N ne) (many := 3) (by decide) (by decide) fun h tk r t pa hb hr => ?_
  obtain ⟨led, F, N, P, hk⟩ := penBack P F N hb pa
  clear hb pa
  have md := hk _ (.head _) nd.1 nd.2
  repeat walk_at "S"
  with_reducible refine newTupleR F N (by rw [sizeLine_eq]; exact Nat.le_of_ble_eq_true rfl) fun t0 h F N => ?_
  repeat (first | (with_reducible refine' Seal.ret ?K ?_; case K => with_reducible assumption) | with_reducible refine turnRet ?_)
  replace P := P.consN N
  refine unpackR hh F N (N.get (r := .tup _) (.head _)) rfl fun h F N => ?_
  show wpAny _ _ (assignInOrder [_, _] [_, _]) _ _ _
  repeat walk_at "S"
  with_reducible refine' stR F N ?_ ?_ ?_ ?_
  · exact rfl
  · exact rfl
  · exact rfl
  clear F N; intro h tk F N
  try (with_reducible refine' Seal.next ?K ?_; case K => with_reducible assumption)
  repeat walk_at "S"
  with_reducible refine' stR F N ?_ ?_ ?_ ?_
  · exact rfl
  · exact rfl
  · exact rfl
  clear F N; intro h tk F N
  try (with_reducible refine' Seal.next ?K ?_; case K => with_reducible assumption)
  replace md := List.mem_cons_of_mem (t0, Res.tup [.ref d, .int (r : Int) t]) md
  clear hk
  repeat walk_at "S"
  with_reducible refine newListR F N (by rw [sizeLine_eq]; exact Nat.le_of_ble_eq_true rfl) fun a1 h F N => ?_
  repeat (first | (with_reducible refine' Seal.ret ?K ?_; case K => with_reducible assumption) | with_reducible refine turnRet ?_)
  have nA1 := P.offN N
  replace P := P.consN N
  repeat walk_at "S"
  with_reducible refine newListR F N (by rw [sizeLine_eq]; exact Nat.le_of_ble_eq_true rfl) fun a2 h F N => ?_
  repeat (first | (with_reducible refine' Seal.ret ?K ?_; case K => with_reducible assumption) | with_reducible refine turnRet ?_)
  have nA2 := P.offN N
  replace P := P.consN N
  repeat walk_at "S"
  with_reducible refine newListR F N (by rw [sizeLine_eq]; exact Nat.le_of_ble_eq_true rfl) fun a3 h F N => ?_
  repeat (first | (with_reducible refine' Seal.ret ?K ?_; case K => with_reducible assumption) | with_reducible refine turnRet ?_)
  have nA3 := P.offN N
  replace P := P.consN N
  repeat walk_at "S"
  with_reducible refine newListR F N (by rw [sizeLine_eq]; exact Nat.le_of_ble_eq_true rfl) fun aq h F N => ?_
  repeat (first | (with_reducible refine' Seal.ret ?K ?_; case K => with_reducible assumption) | with_reducible refine turnRet ?_)
  have nAq := P.offN N
  replace P := P.consN N
  repeat walk_at "S"
  have md4 := N.mt (List.mem_cons_of_mem _ (List.mem_cons_of_mem _ (List.mem_cons_of_mem _ md)))
  have q1 := N.m3
  have q2 := N.m2
  have q3 := N.m1
  clear md
  refine ⟨X.keeps F.keep, ?_⟩
  refine pick_c X T F.keep (by show A.handled = _; exact hh) (by show A.depth + _ + _ < _; omega) (by show A.units + 3 + _ < _; omega) (P.none N).1 (P.none N).2 (P.at N ne) (led_list N (.head _)) nAq.1 nAq.2 (by simp) (by simp) fun h tk v pa hb hv => ?_
  obtain ⟨led, F, N, P, hk⟩ := penBack P F N hb pa
  clear hb pa
  have md := hk _ md4 nd.1 nd.2
  replace q1 := hk _ q1 nA1.1 nA1.2
  replace q2 := hk _ q2 nA2.1 nA2.2
  replace q3 := hk _ q3 nA3.1 nA3.2
  clear md4 hk
  obtain ⟨wy, wvs, rfl, mw, gw, nw⟩ : ∃ wy wvs, v = .ref wy ∧ (wy, Res.lst wvs) ∈ led ∧ GoodWays wvs ∧ wy ≠ p ∧ wy ≠ c := by
    simp only [List.mem_cons, List.mem_nil_iff, or_false] at hv
    rcases hv with rfl | rfl | rfl
    · refine ⟨a1, _, rfl, q1, ⟨by simp, by simp, fun v hv => ?_⟩, nA1⟩
      simp only [List.mem_cons, List.mem_nil_iff, or_false] at hv
      subst hv
      exact ⟨1, _, rfl, by decide⟩
    · refine ⟨a2, _, rfl, q2, ⟨by simp, by simp, fun v hv => ?_⟩, nA2⟩
      simp only [List.mem_cons, List.mem_nil_iff, or_false] at hv
      rcases hv with rfl | rfl | rfl
      · exact ⟨1, _, rfl, by decide⟩
      · exact ⟨2, _, rfl, by decide⟩
      · exact ⟨0, _, rfl, by decide⟩
    · refine ⟨a3, _, rfl, q3, ⟨by simp, by simp, fun v hv => ?_⟩, nA3⟩
      simp only [List.mem_cons, List.mem_nil_iff, or_false] at hv
      rcases hv with rfl | rfl
      · exact ⟨1, _, rfl, by decide⟩
      · exact ⟨0, _, rfl, by decide⟩
  clear hv q1 q2 q3
  with_reducible refine' stR F N ?_ ?_ ?_ ?_
  · exact rfl
  · exact rfl
  · exact rfl
  clear F N; intro h tk F N
  try (with_reducible refine' Seal.next ?K ?_; case K => with_reducible assumption)
  repeat walk_at "S"
  refine ⟨X.keeps F.keep, ?_⟩
  refine draw_c X T F.keep (by show A.handled = _; exact hh) (by show A.depth + _ + _ < _; omega) (by show A.units + 3 + _ < _; omega) (P.none N).1 (P.none N).2 (P.at N ne) (many := 3) (by decide) (by decide) fun h tk x u pa hb hx => ?_
  obtain ⟨led, F, N, P, hk⟩ := penBack P F N hb pa
  clear hb pa
  replace md := hk _ md nd.1 nd.2
  replace mw := hk _ mw nw.1 nw.2
  clear hk
  repeat walk_at "S"
  refine rangeR1 F N fun h tk rg t1 t2 t3 F N hrg => ?_
  with_reducible refine' forRange1 ?_ ?_ ?_ ?_ ?_ F N (1 + x) hrg (by omega) (by omega) (by omega) (fun i m led => TInv p c d wy wvs m led (2 + 100 * i) i (3 * i)) ?_ ?_ ?_
  · exact hh
  · exact rfl
  · exact rfl
  · first | exact PassesOwn.never | exact passE1 (Around.frames_deeper hfr) rfl
  · exact rfl
  · exact ⟨[], [], r, _, rfl, rfl, rfl, rfl, P, md, mw, .nil, ⟨by simp, fun _ hq => nomatch hq⟩, (fun _ hq => nomatch hq), by omega, Nat.zero_le _, Nat.zero_le _⟩
  · clear F N hrg P md mw
    rintro I i t m₁ led₁ oI h tk hi ⟨kvs, tab, n, tn, m1, m2, m3, m4, P, md, mw, hA, hok, hlt, hn, hlo, hlen⟩ F N
    have K : KInv d wy I I oI oI kvs wvs tab _ := ⟨N.mt md, N.mt mw, N.m0, N.m0, hA.mono fun _ _ ⟨z1, a, tw, u1, u2, z2, z3⟩ => ⟨z1, a, tw, u1, u2, z2, N.mt z3⟩⟩
    replace P := P.consN N
    clear md mw hA
    repeat walk_at "S"
    have kt := fun led' hk => keepT (led' := led') N P nw hk K
    refine ⟨X.keeps F.keep, ?_⟩
    refine draw_c X T F.keep (by show A.handled = _; exact hh) (by show A.depth + _ + _ < _; omega) (by show A.units + 3 + _ < _; omega) (P.none N).1 (P.none N).2 (P.at N ne) (many := 3) (by decide) (by decide) fun h tk y u pa hb hy => ?_
    obtain ⟨led, F, N, P, hk⟩ := penBack P F N hb pa
    clear hb pa
    replace K := kt _ hk
    clear kt hk
    repeat walk_at "S"
    refine rangeR1 F N fun h tk rg t1 t2 t3 F N hrg => ?_
    with_reducible refine' forRange1 ?_ ?_ ?_ ?_ ?_ F N (1 + y) hrg (by omega) (by omega) (by omega) (fun j m led => TInv p c d wy wvs m led (2 + 100 * i + j) (i + j) (3 * i + j) ∧ (I, Res.raw oI) ∈ led) ?_ ?_ ?_
    · exact hh
    · exact rfl
    · exact rfl
    · first | exact PassesOwn.never | exact passE1 (Around.frames_deeper hfr) rfl
    · exact rfl
    · exact ⟨⟨kvs, tab, n, tn, m1, m2, m3, m4, P, K.md, K.mw, K.hA, hok, hlt, by omega, by omega, by omega⟩, K.mI⟩
    · clear F N hrg P K hok hlt hn hlo hlen m1 m2 m3 m4
      rintro I' j t' m₂ led₂ oI' h tk hj ⟨⟨kvs, tab, n, tn, m1, m2, m3, m4, P, md, mw, hA, hok, hlt, hn, hlo, hlen⟩, mI⟩ F N
      have hII := N.off _ mI
      have K : KInv d wy I I' oI oI' kvs wvs tab _ := ⟨N.mt md, N.mt mw, N.mt mI, N.m0, hA.mono fun _ _ ⟨z1, a, tw, u1, u2, z2, z3⟩ => ⟨z1, a, tw, u1, u2, z2, N.mt z3⟩⟩
      replace P := P.consN N
      clear md mw hA mI
      repeat walk_at "S"
      have kt := fun led' hk => keepT (led' := led') N P nw hk K
      refine ⟨X.keeps F.keep, ?_⟩
      refine pick_c X T F.keep (by show A.handled = _; exact hh) (by show A.depth + _ + _ < _; omega) (by show A.units + 3 + _ < _; omega) (P.none N).1 (P.none N).2 (P.at N ne) (led_list N K.mw) nw.1 nw.2 gw.1 (by have := gw.2.1; omega) fun h tk v pa hb hv => ?_
      obtain ⟨led, F, N, P, hk⟩ := penBack P F N hb pa
      clear hb pa
      replace K := kt _ hk
      clear kt hk
      obtain ⟨k, tw, rfl, hk3⟩ := gw.2.2 v hv
      repeat walk_at "S"
      have kt := fun led' hk => keepT (led' := led') N P nw hk K
      refine ⟨X.keeps F.keep, ?_⟩
      refine number_c X T F.keep (by show A.handled = _; exact hh) (by show A.depth + _ + _ < _; omega) (by show A.units + 3 + _ < _; omega) (P.none N).1 (P.none N).2 (P.at N ne)  fun h tk one u1 pa hb ho => ?_
      obtain ⟨led, F, N, P, hk⟩ := penBack P F N hb pa
      clear hb pa
      replace K := kt _ hk
      clear kt hk
      repeat walk_at "S"
      have kt := fun led' hk => keepT (led' := led') N P nw hk K
      refine ⟨X.keeps F.keep, ?_⟩
      refine number_c X T F.keep (by show A.handled = _; exact hh) (by show A.depth + _ + _ < _; omega) (by show A.units + 3 + _ < _; omega) (P.none N).1 (P.none N).2 (P.at N ne)  fun h tk z u2 pa hb hz2 => ?_
      obtain ⟨led, F, N, P, hk⟩ := penBack P F N hb pa
      clear hb pa
      replace K := kt _ hk
      clear kt hk
      repeat walk_at "S"
      with_reducible refine newListR F N (by rw [sizeLine_eq]; exact Nat.le_of_ble_eq_true rfl) fun lq h F N => ?_
      repeat (first | (with_reducible refine' Seal.ret ?K ?_; case K => with_reducible assumption) | with_reducible refine turnRet ?_)
      have nq := P.offN N
      replace P := P.consN N
      replace K := K.cons N
      repeat walk_at "S"
      have kt := fun led' hk => keepT (led' := led') N P nw hk K
      refine ⟨X.keeps F.keep, ?_⟩
      refine pick_c X T F.keep (by show A.handled = _; exact hh) (by show A.depth + _ + _ < _; omega) (by show A.units + 3 + _ < _; omega) (P.none N).1 (P.none N).2 (P.at N ne) (led_list N N.m0) nq.1 nq.2 (by simp) (by simp) fun h tk v pa hb hv2 => ?_
      obtain ⟨led, F, N, P, hk⟩ := penBack P F N hb pa
      clear hb pa
      replace K := kt _ hk
      clear kt hk
      obtain ⟨two, u3, rfl, ht⟩ : ∃ (two : Nat) (t : Tok), v = .int (two : Int) t ∧ two < 2 ^ 64 := by
        simp only [List.mem_cons, List.mem_nil_iff, or_false] at hv2
        rcases hv2 with rfl | rfl | rfl
        · exact ⟨0, _, rfl, by decide⟩
        · exact ⟨1, _, rfl, by decide⟩
        · exact ⟨z, _, rfl, hz2⟩
      clear hv hv2
      repeat walk_at "S"
      with_reducible refine newTupleR F N (by rw [sizeLine_eq]; exact Nat.le_of_ble_eq_true rfl) fun tp h F N => ?_
      repeat (first | (with_reducible refine' Seal.ret ?K ?_; case K => with_reducible assumption) | with_reducible refine turnRet ?_)
      replace P := P.consN N
      replace K := K.cons N
      repeat walk_at "S"
      have mtp := N.m0
      have hnew : (n : Int) ∉ kvs.map (·.1) := by
        have e : kvs.map (·.1) = tab.map (·.1) := K.hA.fsts fun _ _ z => z.1
        rw [e]
        intro z
        obtain ⟨q, hq, e⟩ := List.mem_map.mp z
        have := hlt q hq
        omega
      refine dSetM F N K.md (by rw [K.hA.len]; omega) fun h tk led3 F N md3 hk3' => ?_
      rw [stored_new hnew] at md3
      repeat walk_at "S"
      with_reducible refine' stR F N ?_ ?_ ?_ ?_
      · exact rfl
      · exact rfl
      · exact rfl
      clear F N; intro h tk F N
      try (with_reducible refine' Seal.next ?K ?_; case K => with_reducible assumption)
      repeat walk_at "S"
      refine turnM F N (hk3' _ K.mI' (by simp)) fun led4 hk4 => ⟨⟨_, tab ++ [((n : Int), ((k, (one : Int), (two : Int)) : E3))], n + 1, _, m1, m2, rfl, m4, ?_, hk4 _ md3 (by simp), hk4 _ (hk3' _ K.mw (by simp)) (by simp), ?_, hok.snoc hlt ⟨by omega, by omega, hk3, by show (0 : Int) ≤ one; omega, by show (one : Int) < _; omega, by show (0 : Int) ≤ two; omega, by show (two : Int) < _; omega⟩, fun q hq => ?_, by omega, by simp; omega, by simp; omega⟩, hk4 _ (hk3' _ K.mI (by simp)) ?_⟩
      · exact P.sub fun _ _ hm => hk4 _ (hk3' _ hm (by simp)) (by simp)
      · refine (K.hA.mono fun _ _ ⟨z1, a, tw, u1, u2, z2, z3⟩ => ⟨z1, a, tw, u1, u2, z2, hk4 _ (hk3' _ z3 (by simp)) (by simp)⟩).snoc ⟨rfl, tp, _, _, _, rfl, hk4 _ (hk3' _ mtp (by simp)) (by simp)⟩
      · rcases List.mem_append.mp hq with hq | hq
        · have := hlt q hq; omega
        · rw [List.mem_singleton.mp hq]; dsimp only; omega
      · simpa using fun q => absurd q hII
    · clear F N hrg P K hok hlt hn hlo hlen m1 m2 m3 m4
      rintro m₂ led₂ h tk ⟨⟨kvs, tab, n, tn, m1, m2, m3, m4, P, md, mw, hA, hok, hlt, hn, hlo, hlen⟩, mI⟩ F N
      try dsimp only
      have K : KInv d wy I I oI oI kvs wvs tab _ := ⟨md, mw, mI, mI, hA⟩
      clear md mw hA mI
      repeat walk_at "S"
      have kt := fun led' hk => keepT (led' := led') N P nw hk K
      refine ⟨X.keeps F.keep, ?_⟩
      refine draw_c X T F.keep (by show A.handled = _; exact hh) (by show A.depth + _ + _ < _; omega) (by show A.units + 3 + _ < _; omega) (P.none N).1 (P.none N).2 (P.at N ne) (many := 90) (by decide) (by decide) fun h tk y2 u pa hb hy2 => ?_
      obtain ⟨led, F, N, P, hk⟩ := penBack P F N hb pa
      clear hb pa
      replace K := kt _ hk
      clear kt hk
      repeat walk_at "S"
      with_reducible refine' stR F N ?_ ?_ ?_ ?_
      · exact rfl
      · exact rfl
      · exact rfl
      clear F N; intro h tk F N
      try (with_reducible refine' Seal.next ?K ?_; case K => with_reducible assumption)
      repeat walk_at "S"
      refine turnM F N K.mI fun led4 hk4 => ⟨kvs, tab, n + 1 + y2, _, m1, m2, vI (by omega), m4, P.sub fun _ _ hm => hk4 _ hm (by simp), hk4 _ K.md (by simp), hk4 _ K.mw (by simp), K.hA.mono fun _ _ ⟨z1, a, tw, u1, u2, z2, z3⟩ => ⟨z1, a, tw, u1, u2, z2, hk4 _ z3 (by simp)⟩, hok, fun q hq => ?_, by omega, by omega, by omega⟩
      have := hlt q hq
      omega
  · clear F N hrg P md mw
    rintro m₁ led₁ h tk ⟨kvs, tab, n, tn, m1, m2, m3, m4, P, md, mw, hA, hok, hlt, hn, hlo, hlen⟩ F N
    try dsimp only
    repeat walk_at "S"
    obtain ⟨l1, N1, k1⟩ := newHide hg N P ne
    obtain ⟨l2, N2, k2⟩ := N1.front (k1 _ md nd.1 nd.2)
    obtain ⟨f1, f2⟩ := P.fin ne hg F N
    repeat (first | (with_reducible refine' Seal.ret ?K ?_; case K => with_reducible assumption) | with_reducible refine turnRet ?_)
    refine post _ _ _ _ _ _ f1 f2 N2 (hA.mono fun q e ⟨z1, a, tw, u1, u2, z2, z3⟩ => ⟨z1, a, tw, u1, u2, z2, k2 _ (k1 _ z3 ?_ ?_) (by simp)⟩) hok (by omega) (by omega)
    · obtain ⟨_, _, _, _, _, _, a1, _⟩ := P
      exact N.ne z3 a1 (by simp)
    · obtain ⟨_, _, _, _, _, _, _, a1, _⟩ := P
      exact N.ne z3 a1 (by simp)
set_option linter.unusedVariables false
theorem slice_to63 (vs : List Value) (h : vs.length ≤ 63) : (slicePick vs.toArray none (some 63) none).toList = vs := by
  have e : sliceBounds none (some (63 : Int)) none vs.toArray.size = (((0 : Nat) : Int), (vs.length : Int), 1) := by
    simp [sliceBounds]
    omega
  unfold slicePick
  rw [e]
  simp only [sliceRange_one, pick_run]
  simp
theorem New.subl {w : World} {g h : Heap} {l l' : Ls} (x : New w g h l) (k : l'.Sublist l) : New w g h l' := ⟨fun p hp => x.N p (k.subset hp), (k.map _).nodup x.D⟩
theorem pen_c
  {w : World} {mg mb : Str → Option Value} {me : ExcName → Option Value} {A : Around} {H : Heap} {G : Array GenState} {D : Drawn} {tk : Nat} {O : OsState} {h₀ : Heap} {Q E : Value → Shared → Prop}
  (X : (hd.heap_1 w.params).In h₀) (T : TopH mg mb me h₀) (st : h₀.StaysIn H) (hh : A.handled = none) (hdp : A.depth + 10 < recursionLimit) (hu : A.units + 60 < cLine)
  {q : Addr} {vs : List Value} {ns : List Int} (hl : H.IsList q vs.toArray) (hA : A2 IV vs ns) (hz : vs.length ≤ 63)
  (post : ∀ h' tk' p c t1 t2 cells ks, H.StaysIn h' → New w H h' [(p, .lst [.ref c, .int 0 t1, .int 0 t2]), (c, .lst cells)] → A2 IV cells ks → cells.length ≤ 63 → Q (.ref p) ⟨h', G, D, tk', O⟩) :
  wpAny (model PR w) A (call (.ref 144) [.ref q]) Q E ⟨H, G, D, tk, O⟩ := by
  with_reducible refine' enterP X T st [(Str.ofString "script", .ref q)] ?ho ?cd ?room ?bd ?lo ?ce ?co ?ge ?k ?_
  case ho => k_is
  case cd => k_is
  case room => omega
  case bd => exact BindsTo.of_eq rfl
  case lo => exact rfl
  case ce => decide
  case co => exact rfl
  case ge => exact rfl
  case k => exact rfl
  clear X T
  intro L h tk X T F N
  repeat walk_at "S"
  refine sliceP F N (hl.at fun o e => F.keep _ _ e) .none (.int _ _) .none (by simp) (by omega) (fun r h F N => ?_) rfl
  rw [slice_to63 vs hz] at N
  repeat walk_at "S"
  with_reducible refine' compList ?hh F N (led_list N N.m0) ?ce ?ki ?hx ?hn (fun i ys led => (r, Res.lst vs) ∈ led ∧ ys.length = i ∧ ∃ ks, A2 IV ys ks) ?_ ?_ ?_ ?_
  case hh => exact hh
  case ce => decide
  case ki => exact rfl
  case hx => exact rfl
  case hn => omega
  · exact ⟨.head _, rfl, [], .nil⟩
  · exact fun _ _ _ _ ⟨hm, _⟩ N _ => led_list N hm
  · clear F N
    rintro I C D i v ys mC led₁ oI h tk E' hv ⟨hm, hyl, ks, hY⟩ hm2 F N
    obtain ⟨n, _, t, rfl⟩ := hA.get hv
    refine wpAny_tests_nil ?_
    repeat walk_at "S"
    refine intI ?_
    repeat walk_at "S"
    refine call_abs_int fun _ _ => ?_
    repeat walk_at "S"
    with_reducible refine' mulI (by decide) (by decide) ?_; intro _ _
    repeat walk_at "S"
    refine call_int_bool ?_
    repeat walk_at "S"
    refine cEnd F N (.head _) (.tail _ (.head _)) (.tail _ (.tail _ (.head _))) fun led2 hk2 => ⟨hk2 _ (by simp [hm]) (by simp) (by simp) ?_, by simp [hyl], _, hY.snoc ⟨_, rfl⟩⟩
    have hrD : r ≠ D := ((N.subl (List.sublist_cons_self _ _)).subl (List.sublist_cons_self _ _)).off _ hm
    simp [hrD]
  · clear F N
    rintro D ys led₁ h tk ⟨_, hyl, ks, hY⟩ F N
    repeat walk_at "S"
    with_reducible refine newListR F N (by rw [sizeLine_eq]; exact Nat.le_of_ble_eq_true rfl) fun p h F N => ?_
    repeat (first | (with_reducible refine' Seal.ret ?K ?_; case K => with_reducible assumption) | with_reducible refine turnRet ?_)
    repeat (first | (with_reducible refine' Seal.ret ?K ?_; case K => with_reducible assumption) | with_reducible refine turnRet ?_)
    exact post _ _ _ _ _ _ _ _ F.keep (N.new.subl (.cons_cons _ (.cons_cons _ (List.nil_sublist _)))) hY (by omega)
set_option linter.unusedVariables false
/-- what heard and given tell -/
def Outc (l : Ls) (R : Except Nat S3) (r0 r1 : Value) : Prop :=
  match R with
  | .error k => r0 = .none ∧ ∃ t, r1 = .int (k : Int) t
  | .ok s => ∃ d kvs t, r0 = .ref d ∧ (d, Res.dct kvs) ∈ l ∧ A2 (KT l) kvs s.2.2 ∧ r1 = .int 0 t
inductive GInv (b : Array UInt8) (tb : Tok) (u : Value) (dT : Addr) (w0 w1 w2 : Nat) (m : Str → Option Value) (led : Ls) (s : S3) : Prop
  | mk (kT : List (Int × Value)) (kq : Addr) (kn : List Value) (t0 : Tok) (t1 : Tok) (t2 : Tok) (ts : Tok) (ta : Tok)
    (x1 : m (Str.ofString "octets") = some (.bytes b tb))
    (x2 : m (Str.ofString "runs") = some u)
    (x3 : m (Str.ofString "table") = some (.ref dT))
    (x4 : m (Str.ofString "known") = some (.ref kq))
    (x5 : m (Str.ofString "first") = some (.int (w0 : Int) t0))
    (x6 : m (Str.ofString "second") = some (.int (w1 : Int) t1))
    (x7 : m (Str.ofString "third") = some (.int (w2 : Int) t2))
    (x8 : m (Str.ofString "size") = some (.int ((w0 + w1 + w2 : Nat) : Int) ts))
    (x9 : m (Str.ofString "at") = some (.int (s.1 : Int) ta))
    (x10 : (dT, Res.dct kT) ∈ led)
    (x11 : (kq, Res.lst kn) ∈ led)
    (x12 : A2 IV kn s.2.1)
    (x13 : A2 (KT led) kT s.2.2)
    (x14 : (∀ q ∈ s.2.2, q.1 ∈ s.2.1))
    (x15 : s.2.2.length ≤ s.2.1.length) : GInv b tb u dT w0 w1 w2 m led s
theorem GInv.sub {b : Array UInt8} {tb : Tok} {u : Value} {dT : Addr} {w0 w1 w2 : Nat} {m : Str → Option Value} {led led' : Ls} {s : S3} (x : GInv b tb u dT w0 w1 w2 m led s) (k : ∀ q ∈ led, (∀ o, q.2 ≠ .raw o) → q ∈ led') : GInv b tb u dT w0 w1 w2 m led' s := by
  obtain ⟨kT, kq, kn, t0, t1, t2, ts, ta, h1, h2, h3, h4, h5, h6, h7, h8, h9, a, c, d, e, f, f2⟩ := x
  exact ⟨kT, kq, kn, t0, t1, t2, ts, ta, h1, h2, h3, h4, h5, h6, h7, h8, h9, k _ a (by simp), k _ c (by simp), d, e.mono fun _ _ ⟨z1, a, tw, u1, u2, z2, z3⟩ => ⟨z1, a, tw, u1, u2, z2, k _ z3 (by simp)⟩, f, f2⟩
theorem way_item {ta tb tc : Tok} {y : Nat} (h : y < 3) : ([.str (Str.ofString "free") ta, .str (Str.ofString "used") tb, .str (Str.ofString "packed") tc] : List Value)[((y : Nat) : Int).toNat]? = some (.str (wayS y) (match y with | 0 => ta | 1 => tb | _ => tc)) := by
  rw [Int.toNat_natCast]
  match y, h with
  | 0, _ => rfl
  | 1, _ => rfl
  | 2, _ => rfl
theorem given_c
  {w : World} {mg mb : Str → Option Value} {me : ExcName → Option Value} {A : Around} {H : Heap} {G : Array GenState} {D : Drawn} {tk : Nat} {O : OsState} {h₀ : Heap} {Q E : Value → Shared → Prop}
  (X : (hd.heap_1 w.params).In h₀) (T : TopH mg mb me h₀) (st : h₀.StaysIn H) (hh : A.handled = none) (hdp : A.depth + 20 < recursionLimit) (hu : A.units + 200 < cLine)
  {b : Array UInt8} {tb : Tok} {x : Addr} {xs : List Value} {u : Value} {w0 w1 w2 : Nat} {ps : List (Nat × Nat)} (hx : H.IsList x xs.toArray) (hxa : A2 IV xs [(w0 : Int), (w1 : Int), (w2 : Int)]) (hu' : Nums H u (flat ps)) (hw : w0 + w1 + w2 < 2 ^ 10) (hz : b.size < 2 ^ 10)
  (hps : ps.length < 2 ^ 10) (hp : ∀ p ∈ ps, p.1 + p.2 < 2 ^ 10)
  (post : ∀ h' tk' a l r0 r1, H.StaysIn h' → New w H h' ((a, .tup [r0, r1]) :: l) → Outc l (given b.toList w0 w1 w2 ps) r0 r1 → Q (.ref a) ⟨h', G, D, tk', O⟩) :
  wpAny (model PR w) A (call (.ref 194) [.bytes b tb, .ref x, u]) Q E ⟨H, G, D, tk, O⟩ := by
  generalize hR : given b.toList w0 w1 w2 ps = R at post
  with_reducible refine' enterP X T st [(Str.ofString "octets", .bytes b tb), (Str.ofString "widths", .ref x), (Str.ofString "runs", u)] ?ho ?cd ?room ?bd ?lo ?ce ?co ?ge ?k ?_
  case ho => k_is
  case cd => k_is
  case room => omega
  case bd => exact BindsTo.of_eq rfl
  case lo => exact rfl
  case ce => decide
  case co => exact rfl
  case ge => exact rfl
  case k => exact rfl
  clear X T
  intro L h tk X T F N
  repeat walk_at "S"
  refine Assign_Tuple ?_ rfl rfl
  repeat walk_at "S"
  refine asgL hh F N (hx.at fun o e => F.keep _ _ e) (by rw [hxa.len]; rfl) rfl fun h F N => ?_
  obtain ⟨t0, t1, t2, rfl⟩ : ∃ t0 t1 t2, xs = [.int (w0 : Int) t0, .int (w1 : Int) t1, .int (w2 : Int) t2] := by
    cases hxa with
    | cons a r =>
      cases r with
      | cons a2 r =>
        cases r with
        | cons a3 r =>
          cases r
          obtain ⟨t0, rfl⟩ := a
          obtain ⟨t1, rfl⟩ := a2
          obtain ⟨t2, rfl⟩ := a3
          exact ⟨_, _, _, rfl⟩
  show wpAny _ _ (assignInOrder [_, _, _] [_, _, _]) _ _ _
  repeat walk_at "S"
  with_reducible refine' stR F N ?_ ?_ ?_ ?_
  · exact rfl
  · exact rfl
  · exact rfl
  clear F N; intro h tk F N
  try (with_reducible refine' Seal.next ?K ?_; case K => with_reducible assumption)
  repeat walk_at "S"
  with_reducible refine' stR F N ?_ ?_ ?_ ?_
  · exact rfl
  · exact rfl
  · exact rfl
  clear F N; intro h tk F N
  try (with_reducible refine' Seal.next ?K ?_; case K => with_reducible assumption)
  repeat walk_at "S"
  with_reducible refine' stR F N ?_ ?_ ?_ ?_
  · exact rfl
  · exact rfl
  · exact rfl
  clear F N; intro h tk F N
  try (with_reducible refine' Seal.next ?K ?_; case K => with_reducible assumption)
  repeat walk_at "S"
  refine Assign_Tuple ?_ rfl rfl
  repeat walk_at "S"
  refine newDictR F N fun dT h F N => ?_
  repeat walk_at "S"
  with_reducible refine newListR F N (by rw [sizeLine_eq]; exact Nat.le_of_ble_eq_true rfl) fun kq h F N => ?_
  repeat (first | (with_reducible refine' Seal.ret ?K ?_; case K => with_reducible assumption) | with_reducible refine turnRet ?_)
  repeat walk_at "S"
  with_reducible refine newTupleR F N (by rw [sizeLine_eq]; exact Nat.le_of_ble_eq_true rfl) fun tp h F N => ?_
  repeat (first | (with_reducible refine' Seal.ret ?K ?_; case K => with_reducible assumption) | with_reducible refine turnRet ?_)
  have hret : ∀ {h' : Heap} {m : Str → Option Value} {led : Ls} {a : Addr} {k : Nat} {t tk'}, Fr H L h' m → Led w H L h' ((a, Res.tup [.none, .int (k : Int) t]) :: led) → R = .error k → Q (.ref a) ⟨h', G, D, tk', O⟩ := fun F N e =>
    post _ _ _ _ _ _ F.keep (Led.new N) (by rw [e]; exact ⟨rfl, _, rfl⟩)
  refine asgT hh F N (N.get (r := .tup _) N.m0) rfl rfl fun h F N => ?_
  show wpAny _ _ (assignInOrder [_, _, _, _] [_, _, _, _]) _ _ _
  repeat walk_at "S"
  with_reducible refine' stR F N ?_ ?_ ?_ ?_
  · exact rfl
  · exact rfl
  · exact rfl
  clear F N; intro h tk F N
  try (with_reducible refine' Seal.next ?K ?_; case K => with_reducible assumption)
  repeat walk_at "S"
  with_reducible refine' stR F N ?_ ?_ ?_ ?_
  · exact rfl
  · exact rfl
  · exact rfl
  clear F N; intro h tk F N
  try (with_reducible refine' Seal.next ?K ?_; case K => with_reducible assumption)
  repeat walk_at "S"
  with_reducible refine' stR F N ?_ ?_ ?_ ?_
  · exact rfl
  · exact rfl
  · exact rfl
  clear F N; intro h tk F N
  try (with_reducible refine' Seal.next ?K ?_; case K => with_reducible assumption)
  repeat walk_at "S"
  with_reducible refine' stR F N ?_ ?_ ?_ ?_
  · exact rfl
  · exact rfl
  · exact rfl
  clear F N; intro h tk F N
  try (with_reducible refine' Seal.next ?K ?_; case K => with_reducible assumption)
  repeat walk_at "S"
  refine nLen (hu'.keeps F.keep) (by rw [flat_len]; omega) fun _ _ => ?_
  rw [flat_len]
  repeat walk_at "S"
  with_reducible refine' divI (by decide) (by decide) ?_; intro _ _
  repeat walk_at "S"
  refine rangeR1 F N fun h tk rg t3 t4 t5 F N hr => ?_
  have hb2 : ((2 * ps.length : Nat) : Int).fdiv 2 = 0 + (ps.length : Int) := by
    rw [show (2 : Int) = ((2 : Nat) : Int) from rfl, fdiv_nat]; omega
  with_reducible refine' forRange1 ?_ ?_ ?_ ?_ ?_ F N ps.length hr hb2 (by omega) (by omega) (fun i m led => ∃ s, R = goRuns b.toList w0 w1 w2 (ps.drop i) s ∧ GInv b tb u dT w0 w1 w2 m led s ∧ s.1 ≤ b.size ∧ s.2.1.length ≤ i * 1024) ?_ ?_ ?_
  · exact hh
  · exact rfl
  · exact rfl
  · first | exact PassesOwn.never | exact passE1 (Around.frames_deeper hfr) rfl
  · exact rfl
  · exact ⟨(0, [], []), hR.symm, ⟨[], kq, [], _, _, _, _, _, rfl, rfl, rfl, rfl, rfl, rfl, rfl, vI (by simp), vI (by rfl), N.m2, N.m1, .nil, .nil, (fun _ hq => nomatch hq), Nat.le_refl _⟩, Nat.zero_le _, Nat.zero_le _⟩
  · clear F N hr hb2
    rintro I i t m₁ led₁ oI h tk hi ⟨⟨p, kn, tab⟩, hRi, G0, hpz, hkl⟩ F N
    obtain ⟨kT, kq', knv, u0, u1, u2, ts, ta, m1, m2, m3, m4, m5, m6, m7, m8, m9, _⟩ := id G0
    obtain ⟨⟨n0, c⟩, hq⟩ : ∃ q, ps[i]? = some q := ⟨ps[i], by simp [hi]⟩
    have hdrop : ps.drop i = (n0, c) :: ps.drop (i + 1) := by
      rw [List.drop_eq_getElem_cons hi]
      congr 1
      have := List.getElem?_eq_getElem hi
      rw [hq] at this; exact (Option.some.inj this).symm
    have hb := hp _ (List.mem_of_getElem? hq)
    obtain ⟨g1, g2⟩ := flat_get hq
    rw [hdrop] at hRi
    dsimp only at hb g1 g2 m9 hpz hkl
    have G1 : GInv b tb u dT w0 w1 w2 m₁ ((I, Res.raw oI) :: led₁) (p, kn, tab) := G0.sub fun q hq _ => .tail _ hq
    have mI := N.m0
    clear G0
    unfold goRuns at hRi
    dsimp only at hRi
    have hcond : (p + (w0 + w1 + w2) * c > b.toList.length ∨ (w0 + w1 + w2 = 0 ∧ c > 0)) ↔ (c > 0 ∧ (w0 + w1 + w2 = 0 ∨ (w0 + w1 + w2 ≠ 0 ∧ c > (b.size - p) / (w0 + w1 + w2)))) := by
      rw [Array.length_toList]
      rcases Nat.eq_zero_or_pos c with z | z
      · subst z; simp; omega
      · rcases Nat.eq_zero_or_pos (w0 + w1 + w2) with z2 | z2
        · rw [z2]; simp [z]
        · have := Nat.div_lt_iff_lt_mul (x := b.size - p) (y := c) z2
          rw [Nat.mul_comm] at this
          constructor
          · rintro (q | q)
            · exact ⟨z, .inr ⟨by omega, this.mpr (by omega)⟩⟩
            · omega
          · rintro ⟨_, q | ⟨_, q⟩⟩
            · omega
            · exact .inl (by have := this.mp q; omega)
    have hfail : (c > 0 ∧ (w0 + w1 + w2 = 0 ∨ (w0 + w1 + w2 ≠ 0 ∧ c > (b.size - p) / (w0 + w1 + w2)))) → R = .error p := fun z => by rw [hRi, if_pos (hcond.mpr z)]
    have hpass : ¬ (c > 0 ∧ (w0 + w1 + w2 = 0 ∨ (w0 + w1 + w2 ≠ 0 ∧ c > (b.size - p) / (w0 + w1 + w2)))) → R = _ := fun z => by rw [hRi, if_neg (fun q => z (hcond.mp q))]
    clear hRi
    repeat walk_at "S"
    with_reducible refine' Assign_Tuple_swapped (names := [Str.ofString "begun", Str.ofString "many"]) ?_ ?_ ?_
    rotate_left
    · exact rfl
    · exact rfl
    repeat walk_at "S"
    with_reducible refine' mulI (by decide) (by decide) ?_; intro _ _
    refine nItemJ (j := 2 * i) (hu'.keeps F.keep) g1 (by omega) (by omega) (fun _ => ?_) (fun _ => rfl)
    repeat walk_at "S"
    with_reducible refine' mulI (by decide) (by decide) ?_; intro _ _
    repeat walk_at "S"
    refine nItemJ (j := 2 * i + 1) (hu'.keeps F.keep) g2 (by omega) (by omega) (fun _ => ?_) (fun _ => rfl)
    repeat walk_at "S"
    with_reducible refine newTupleR F N (by rw [sizeLine_eq]; exact Nat.le_of_ble_eq_true rfl) fun tp2 h F N => ?_
    repeat (first | (with_reducible refine' Seal.ret ?K ?_; case K => with_reducible assumption) | with_reducible refine turnRet ?_)
    replace G1 : GInv b tb u dT w0 w1 w2 m₁ _ (p, kn, tab) := G1.sub fun q hq _ => N.mt hq
    replace mI := N.mt mI
    refine unpackR hh F N (N.get (r := .tup _) (N.m0)) rfl fun h F N => ?_
    show wpAny _ _ (assignInOrder [_, _] [_, _]) _ _ _
    repeat walk_at "S"
    with_reducible refine' stR F N ?_ ?_ ?_ ?_
    · exact rfl
    · exact rfl
    · exact rfl
    clear F N; intro h tk F N
    try (with_reducible refine' Seal.next ?K ?_; case K => with_reducible assumption)
    repeat walk_at "S"
    with_reducible refine' stR F N ?_ ?_ ?_ ?_
    · exact rfl
    · exact rfl
    · exact rfl
    clear F N; intro h tk F N
    try (with_reducible refine' Seal.next ?K ?_; case K => with_reducible assumption)
    repeat ((fail_if_success (with_reducible show wpAny _ _ (execs _ _) _ _ _)); walk_at "S")
    refine joinK h G D O (¬ (c > 0 ∧ (w0 + w1 + w2 = 0 ∨ (w0 + w1 + w2 ≠ 0 ∧ c > (b.size - p) / (w0 + w1 + w2))))) ?_ ?_
    · intro Qs Ks
      repeat walk_at "S"
      refine iteB (fun hc1 => ?_) (fun hc1 => ?_)
      · repeat walk_at "S"
        refine iteB (fun hc2 => ?_) (fun hc2 => ?_)
        · repeat walk_at "S"
          with_reducible refine newTupleR F N (by rw [sizeLine_eq]; exact Nat.le_of_ble_eq_true rfl) fun r h F N => ?_
          repeat (first | (with_reducible refine' Seal.ret ?K ?_; case K => with_reducible assumption) | with_reducible refine turnRet ?_)
          repeat (first | (with_reducible refine' Seal.ret ?K ?_; case K => with_reducible assumption) | with_reducible refine turnRet ?_)
          exact hret F N (hfail ⟨by omega, .inl (by omega)⟩)
        repeat walk_at "S"
        refine lenB (by omega) fun _ _ => ?_
        repeat walk_at "S"
        have hzn : w0 + w1 + w2 ≠ 0 := fun q => hc2 (by rw [q]; rfl)
        have hlog : (((w0 + w1 + w2 : Nat) : Int)).natAbs.log2 < 9000 := by
          rw [Int.natAbs_natCast]
          exact Nat.lt_trans ((Nat.log2_lt hzn).mpr hw) (by decide)
        with_reducible refine' divI (by omega) hlog ?_; intro _ _
        rw [show (b.size : Int) - (p : Int) = ((b.size - p : Nat) : Int) by omega, fdiv_nat]
        repeat walk_at "S"
        refine iteB (fun hc3 => ?_) (fun hc3 => ?_)
        · repeat walk_at "S"
          with_reducible refine newTupleR F N (by rw [sizeLine_eq]; exact Nat.le_of_ble_eq_true rfl) fun r h F N => ?_
          repeat (first | (with_reducible refine' Seal.ret ?K ?_; case K => with_reducible assumption) | with_reducible refine turnRet ?_)
          repeat (first | (with_reducible refine' Seal.ret ?K ?_; case K => with_reducible assumption) | with_reducible refine turnRet ?_)
          exact hret F N (hfail ⟨by omega, .inr ⟨hzn, by omega⟩⟩)
        repeat walk_at "S"
        refine ⟨_, rfl, fun z => ?_⟩
        rcases z.2 with q | ⟨_, q⟩
        · exact hzn q
        · omega
      · repeat walk_at "S"
        exact ⟨_, rfl, fun z => by omega⟩
    intro tk hno
    have hRi := hpass hno
    have hfit : p + (w0 + w1 + w2) * c ≤ b.size := by
      rcases Nat.lt_or_ge b.size (p + (w0 + w1 + w2) * c) with q | q
      · exact absurd (hcond.mp (.inl (by rw [Array.length_toList]; omega))) hno
      · exact q
    clear hno hfail hpass hcond
    repeat walk_at "S"
    refine rangeR2 F N fun h tk rg t3 t4 t5 F N hr => ?_
    with_reducible refine' forRange1 ?_ ?_ ?_ ?_ ?_ F N c hr (by omega) (by omega) (by omega) (fun j m led => ∃ s, R = (match goRun b.toList w0 w1 w2 (c - j) ((n0 : Int) + j) s with | .error e => .error e | .ok s' => goRuns b.toList w0 w1 w2 (ps.drop (i + 1)) s') ∧ GInv b tb u dT w0 w1 w2 m led s ∧ (I, Res.raw oI) ∈ led ∧ s.1 + (w0 + w1 + w2) * (c - j) ≤ b.size ∧ s.2.1.length ≤ i * 1024 + j) ?_ ?_ ?_
    · exact hh
    · exact rfl
    · exact rfl
    · first | exact PassesOwn.never | exact passE1 (Around.frames_deeper hfr) rfl
    · exact rfl
    · exact ⟨(p, kn, tab), (by rw [Nat.sub_zero, Int.natCast_zero, Int.add_zero]; exact hRi), (by obtain ⟨_, _, _, _, _, _, _, _, h1, h2, h3, h4, h5, h6, h7, h8, h9, a, c, d, e, f, f2⟩ := G1; exact ⟨_, _, _, _, _, _, _, _, h1, h2, h3, h4, h5, h6, h7, h8, h9, a, c, d, e, f, f2⟩), mI, hfit, hkl⟩
    · clear F N hr hRi hfit G1 mI hkl m1 m2 m3 m4 m5 m6 m7 m8 m9 hdrop
      rintro I' j t' m₂ led₂ oI' h tk hj ⟨⟨p, kn, tab⟩, hRi, G0, mI, hfit, hkl⟩ F N
      have G1 : GInv b tb u dT w0 w1 w2 m₂ ((I', Res.raw oI') :: led₂) (p, kn, tab) := G0.sub fun q hq _ => .tail _ hq
      have mI' := N.m0
      have hII := N.off _ mI
      replace mI := N.mt mI
      clear G0
      obtain ⟨kT, kq', knv, u0, u1, u2, ts, ta, m1, m2, m3, m4, m5, m6, m7, m8, m9, mT, mk, hK, hA, hsub, htl⟩ := id G1
      dsimp only at m9 hK hA hsub htl hfit hkl
      repeat walk_at "S"
      refine inL (led_list N mk) hK ?_
      repeat walk_at "S"
      obtain ⟨k, hk⟩ : ∃ k, c - j = k + 1 := ⟨c - j - 1, by omega⟩
      rw [hk] at hRi hfit
      unfold goRun at hRi
      refine iteB (fun hc4 => ?_) (fun hc4 => ?_)
      · rw [if_pos hc4] at hRi
        repeat walk_at "S"
        with_reducible refine newTupleR F N (by rw [sizeLine_eq]; exact Nat.le_of_ble_eq_true rfl) fun r h F N => ?_
        repeat (first | (with_reducible refine' Seal.ret ?K ?_; case K => with_reducible assumption) | with_reducible refine turnRet ?_)
        repeat (first | (with_reducible refine' Seal.ret ?K ?_; case K => with_reducible assumption) | with_reducible refine turnRet ?_)
        exact hret F N hRi
      rw [if_neg hc4] at hRi
      dsimp only at hRi
      rw [Nat.mul_succ] at hfit
      repeat walk_at "S"
      refine sliceB F N (.int _ _) (.int _ _) (by intro i q; cases q; omega) (by intro i q; cases q; omega) (by omega) (fun h t tk F N => ?_) rfl (fun _ => rfl)
      have hcut : (cutB b (some (p : Int)) (some ((p : Int) + (w0 + w1 + w2 : Nat)))) = (b.toList.drop p).take (w0 + w1 + w2) := by
        rw [cutB_some]
      rw [hcut]
      obtain ⟨row, hrow⟩ : ∃ row : Array UInt8, row = ((b.toList.drop p).take (w0 + w1 + w2)).toArray := ⟨_, rfl⟩
      have hrl : row.size ≤ b.size := by
        rw [hrow, List.size_toArray, List.length_take, List.length_drop, Array.length_toList]; omega
      have hrE : rowAt b.toList w0 w1 w2 p = rowE row.toList w0 w1 := by rw [hrow]; rfl
      rw [← hrow]
      clear hcut hrow
      repeat walk_at "S"
      with_reducible refine' stR F N ?_ ?_ ?_ ?_
      · exact rfl
      · exact rfl
      · exact rfl
      clear F N; intro h tk F N
      try (with_reducible refine' Seal.next ?K ?_; case K => with_reducible assumption)
      refine joinSt G D O F N (Str.ofString "way") (fun v => ∃ (y : Nat) (t : Tok), v = .int (y : Int) t ∧ (if 0 < w0 then beN (row.toList.take w0) else 1) = y) ?_ ?_
      · intro Qs Ks
        repeat walk_at "S"
        refine iteB (fun hc5 => ?_) (fun hc5 => ?_)
        · repeat walk_at "S"
          refine sliceB F N .none (.int _ _) (by intro i q; cases q) (by intro i q; cases q; omega) (by omega) (fun h t tk F N => ?_) rfl (fun _ => rfl)
          repeat walk_at "S"
          have hsz : (cutB row none (some (w0 : Int))).toArray.size ≤ row.size := by
            unfold cutB; rw [List.size_toArray, List.length_take, List.length_drop, Array.length_toList]; omega
          refine ⟨X.keeps F.keep, ?_⟩
          refine law_value_c X T F.keep (by show A.handled = _; exact hh) (by show A.depth + _ + _ < _; omega) (by show A.units + 3 + _ < _; omega) (by omega) fun h tk t st' => ?_
          replace F := fr_stays F st'
          replace N := N.stays st'
          clear st'
          repeat walk_at "S"
          with_reducible refine' stR F N ?_ ?_ ?_ ?_
          · exact rfl
          · exact rfl
          · exact rfl
          clear F N; intro h tk F N
          try (with_reducible refine' Seal.next ?K ?_; case K => with_reducible assumption)
          exact ⟨_, _, _, rfl, ⟨_, _, rfl, by rw [if_pos (by omega)]; simp [cutB]⟩, F, N⟩
        · repeat walk_at "S"
          with_reducible refine' stR F N ?_ ?_ ?_ ?_
          · exact rfl
          · exact rfl
          · exact rfl
          clear F N; intro h tk F N
          try (with_reducible refine' Seal.next ?K ?_; case K => with_reducible assumption)
          exact ⟨_, _, _, rfl, ⟨1, _, rfl, by rw [if_neg (by omega)]⟩, F, N⟩
      clear F N
      rintro h tk _ ⟨y, ty, rfl, hw'⟩ F N
      refine joinLd w G D O F (fun led3 => ∃ (kT' : List (Int × Value)) (tab' : List (Int × E3)), put tab ((n0 : Int) + j) (rowAt b.toList w0 w1 w2 p) = tab' ∧ (dT, Res.dct kT') ∈ led3 ∧ (kq', Res.lst knv) ∈ led3 ∧ A2 (KT led3) kT' tab' ∧ (∀ q ∈ tab', q.1 ∈ kn ++ [(n0 : Int) + j]) ∧ tab'.length ≤ kn.length + 1 ∧ (I, Res.raw oI) ∈ led3 ∧ (I', Res.raw oI') ∈ led3) ?_ ?_
      · intro Qs Ks
        repeat walk_at "S"
        refine iteB (fun hc6 => ?_) (fun hc6 => ?_)
        · have hy3 : y < 3 := by omega
          have hrow : rowAt b.toList w0 w1 w2 p = some (y, (beN ((row.toList.drop w0).take w1) : Int), (beN (row.toList.drop (w0 + w1)) : Int)) := by
            rw [hrE]; unfold rowE; rw [hw']; exact if_pos hy3
          repeat walk_at "S"
          with_reducible refine newListR F N (by rw [sizeLine_eq]; exact Nat.le_of_ble_eq_true rfl) fun wl h F N => ?_
          repeat (first | (with_reducible refine' Seal.ret ?K ?_; case K => with_reducible assumption) | with_reducible refine turnRet ?_)
          repeat walk_at "S"
          refine lItem (led_list N N.m0) (by omega) (by omega) (way_item hy3) ?_ rfl
          repeat walk_at "S"
          refine sliceB F N (.int _ _) (.int _ _) (by intro i q; cases q; omega) (by intro i q; cases q; omega) (by omega) (fun h t tk F N => ?_) rfl (fun _ => rfl)
          repeat walk_at "S"
          refine ⟨X.keeps F.keep, ?_⟩
          refine law_value_c X T F.keep (by show A.handled = _; exact hh) (by show A.depth + _ + _ < _; omega) (by show A.units + 3 + _ < _; omega) (by rw [cutB_some, List.size_toArray, List.length_take, List.length_drop, Array.length_toList]; omega) fun h tk t st' => ?_
          replace F := fr_stays F st'
          replace N := N.stays st'
          clear st'
          rw [cutB_some]
          repeat walk_at "S"
          refine sliceB F N (.int _ _) .none (by intro i q; cases q; omega) (by intro i q; cases q) (by omega) (fun h t tk F N => ?_) rfl (fun _ => rfl)
          repeat walk_at "S"
          refine ⟨X.keeps F.keep, ?_⟩
          refine law_value_c X T F.keep (by show A.handled = _; exact hh) (by show A.depth + _ + _ < _; omega) (by show A.units + 3 + _ < _; omega) (by rw [cutB_none, List.size_toArray, List.length_drop, Array.length_toList]; omega) fun h tk t st' => ?_
          replace F := fr_stays F st'
          replace N := N.stays st'
          clear st'
          rw [cutB_none]
          repeat walk_at "S"
          with_reducible refine newTupleR F N (by rw [sizeLine_eq]; exact Nat.le_of_ble_eq_true rfl) fun tq h F N => ?_
          repeat (first | (with_reducible refine' Seal.ret ?K ?_; case K => with_reducible assumption) | with_reducible refine turnRet ?_)
          repeat walk_at "S"
          refine dSetM F N (.tail _ (.tail _ mT)) (by rw [hA.len]; omega) fun h tk led3 F N md hk3 => ?_
          have hnew : ((n0 : Int) + j) ∉ kT.map (·.1) := by
            rw [hA.fsts fun _ _ r => r.1]
            intro z
            obtain ⟨q, hq1, hq2⟩ := List.mem_map.mp z
            exact hc4 (by rw [← hq2]; exact hsub q hq1)
          rw [stored_new hnew] at md
          have h0 := hk3 _ (List.Mem.head _) (fun e => by cases (congrArg Prod.snd e))
          repeat walk_at "S"
          refine ⟨_, _, _, rfl, ?_, F, N⟩
          rw [hrow]
          refine ⟨_, _, rfl, md, hk3 _ (.tail _ (.tail _ mk)) (by simp), (hA.mono fun _ _ ⟨z1, a, tw, u1, u2, z2, z3⟩ => ⟨z1, a, tw, u1, u2, z2, hk3 _ (.tail _ (.tail _ z3)) (fun e => by cases (congrArg Prod.snd e))⟩).snoc ⟨rfl, tq, _, _, _, rfl, h0⟩, fun q hq => ?_, (by show (tab ++ [_]).length ≤ _; rw [List.length_append]; exact Nat.succ_le_succ htl), hk3 _ (.tail _ (.tail _ mI)) (by simp), hk3 _ (.tail _ (.tail _ mI')) (by simp)⟩
          rcases List.mem_append.mp hq with z | z
          · exact List.mem_append_left _ (hsub q z)
          · rw [List.mem_singleton.mp z]; simp
        · repeat walk_at "S"
          refine ⟨_, _, _, rfl, ?_, F, N⟩
          have hrow : rowAt b.toList w0 w1 w2 p = none := by
            rw [hrE]; unfold rowE; rw [hw']; exact if_neg (by omega)
          rw [hrow]
          exact ⟨_, _, rfl, mT, mk, hA, fun q hq => List.mem_append_left _ (hsub q hq), Nat.le_succ_of_le htl, mI, mI'⟩
      clear F N
      rintro h tk led3 ⟨kT', tab', htab, mT', mk', hA', hsub', htl', mIX, mIX'⟩ F N
      clear hsub htl hw' hrE hA mT mI mI'
      repeat walk_at "S"
      with_reducible refine' Assign_Tuple_swapped (names := [Str.ofString "known", Str.ofString "at"]) ?_ ?_ ?_
      rotate_left
      · exact rfl
      · exact rfl
      repeat walk_at "S"
      with_reducible refine newListR F N (by rw [sizeLine_eq]; exact Nat.le_of_ble_eq_true rfl) fun nl h F N => ?_
      repeat (first | (with_reducible refine' Seal.ret ?K ?_; case K => with_reducible assumption) | with_reducible refine turnRet ?_)
      repeat walk_at "S"
      refine addL F N (led_list N (.tail _ mk')) (led_list N N.m0) (by rw [hK.len]; simp; omega) fun ka h F N => ?_
      repeat walk_at "S"
      with_reducible refine newTupleR F N (by rw [sizeLine_eq]; exact Nat.le_of_ble_eq_true rfl) fun tz h F N => ?_
      repeat (first | (with_reducible refine' Seal.ret ?K ?_; case K => with_reducible assumption) | with_reducible refine turnRet ?_)
      refine unpackR hh F N (N.get (r := .tup _) (N.m0)) rfl fun h F N => ?_
      show wpAny _ _ (assignInOrder [_, _] [_, _]) _ _ _
      repeat walk_at "S"
      with_reducible refine' stR F N ?_ ?_ ?_ ?_
      · exact rfl
      · exact rfl
      · exact rfl
      clear F N; intro h tk F N
      try (with_reducible refine' Seal.next ?K ?_; case K => with_reducible assumption)
      repeat walk_at "S"
      with_reducible refine' stR F N ?_ ?_ ?_ ?_
      · exact rfl
      · exact rfl
      · exact rfl
      clear F N; intro h tk F N
      try (with_reducible refine' Seal.next ?K ?_; case K => with_reducible assumption)
      repeat walk_at "S"
      rw [htab] at hRi
      have hk2 : c - (j + 1) = k := by omega
      refine turnM F N (.tail _ (.tail _ (.tail _ mIX'))) fun led4 hk4 => ⟨(p + (w0 + w1 + w2), kn ++ [(n0 : Int) + j], tab'), ?_, ⟨kT', ka, knv ++ [.int _ t'], u0, u1, u2, ts, _, m1, m2, m3, rfl, m5, m6, m7, m8, vI (by dsimp only; omega), hk4 _ (.tail _ (.tail _ (.tail _ mT'))) (by simp), hk4 _ (.tail _ (.head _)) (by simp), hK.snoc ⟨_, rfl⟩, hA'.mono fun _ _ ⟨z1, a, tw, u1, u2, z2, z3⟩ => ⟨z1, a, tw, u1, u2, z2, hk4 _ (.tail _ (.tail _ (.tail _ z3))) (by simp)⟩, hsub', by simpa using htl'⟩, hk4 _ (.tail _ (.tail _ (.tail _ mIX))) (fun e => hII (congrArg Prod.fst e)), ?_, ?_⟩
      · rw [hk2, show (n0 : Int) + ((j + 1 : Nat) : Int) = (n0 : Int) + j + 1 by omega]; exact hRi
      · dsimp only; rw [hk2]; omega
      · dsimp only; rw [List.length_append, List.length_singleton]; omega
    · clear F N hr
      rintro m₂ led₂ h tk ⟨⟨p, kn, tab⟩, hRi, G0, mI, hfit, hkl⟩ F N
      try dsimp only
      rw [Nat.sub_self] at hRi hfit
      unfold goRun at hRi
      repeat walk_at "S"
      refine turnM F N mI fun led3 hk3 => ⟨_, hRi, G0.sub fun q hq hn => hk3 _ hq fun e => hn oI (by rw [e]), by simpa using hfit, ?_⟩
      have := hb
      simp only [Nat.succ_mul] at hkl ⊢
      omega
  · clear F N hr
    rintro m₁ led₁ h tk ⟨⟨p, kn, tab⟩, hRi, ⟨kT, kq', knv, u0, u1, u2, ts, ta, m1, m2, m3, m4, m5, m6, m7, m8, m9, mT, mk, hK, hA, _⟩, _⟩ F N
    try dsimp only
    repeat walk_at "S"
    rw [List.drop_length] at hRi
    with_reducible refine newTupleR F N (by rw [sizeLine_eq]; exact Nat.le_of_ble_eq_true rfl) fun r h F N => ?_
    repeat (first | (with_reducible refine' Seal.ret ?K ?_; case K => with_reducible assumption) | with_reducible refine turnRet ?_)
    obtain ⟨l, N', k⟩ := N.front N.m0
    repeat (first | (with_reducible refine' Seal.ret ?K ?_; case K => with_reducible assumption) | with_reducible refine turnRet ?_)
    refine post _ _ _ _ _ _ F.keep (Led.new N') ?_
    rw [hRi]
    exact ⟨dT, kT, _, rfl, k _ (N.mt mT) (by simp), hA.mono fun _ _ ⟨z1, a, tw, u1, u2, z2, z3⟩ => ⟨z1, a, tw, u1, u2, z2, k _ (N.mt z3) fun e => N.off _ z3 (by rw [e])⟩, rfl⟩
set_option linter.unusedVariables false
section
theorem keys_miss : typeLookup (.type "list") "keys" = pure none := am_miss_of_fast (by kernel_rfl)
variable {w : World} {A : Around} {h : Heap} {G : Array GenState} {D : Drawn} {tk : Nat} {O : OsState} {E : Value → Shared → Prop}
theorem keysQ_list {a : Addr} {xs : Array Value} {Q : Option Value → Shared → Prop} (hl : h.PlainList a xs) (hA : A.handled = none)
    (hq : ∀ h' tk', h.StaysIn h' → Q none ⟨h', G, D, tk', O⟩) : wpAny (model PR w) A (getAttr? (.ref a) "keys") Q E ⟨h, G, D, tk, O⟩ := by
  obtain ⟨k, hx⟩ := hl
  have hT : ∀ tk', (⟨h, G, D, tk', O⟩ : Shared).TypeIs (.ref a) "list" := fun _ => ⟨_, hx, rfl⟩
  have f1 := sub_AttributeError
  have f3 := PySem.F.slot_list_getattribute.lookup
  have f4 := PySem.F.slot_list_getattribute.bind (.ref a)
  have f5 := am_list_getattr_none
  unfold getAttr? getAttrBy? getAttrBy
  repeat (any_goals (first | assumption | exact hT _ | ((with_reducible show wpAny _ _ (call (Value.builtin "list.__getattribute__") _ _) _ _ _); refine call_meets PySem.F.slot_list_getattribute (hT _) am_entry_list_getattribute (PySem.F.args_list_getattribute_2 _ _) (meets_getattribute_miss_list a xs k _ _ _ keys_miss (by decide)) ⟨hx, hA, fun h' tk' e hx' => ?_⟩) | wp_step))
  obtain ⟨t', u', he⟩ := hx'.there
  show wpAny _ _ (getattributeRaised _ _ _ _ _ _ _) _ _ _
  unfold getattributeRaised
  repeat (any_goals (first | assumption | wp_step))
  exact hq _ _ hx'.keeps
namespace FJ
theorem entry_dict_update_loop : entryFor table "dict.update.loop" = some Builtin.«dict.update.loop» := entryFor_of_tree (by kernel_rfl)
theorem plain_dict_update_loop : plainId "dict.update.loop" = true := by decide +kernel
end FJ
def PairAt (h : Heap) (ps : List (Int × Value)) (i : Nat) (v : Value) : Prop := ∃ a k t x, v = .ref a ∧ IsTup h a #[.int k t, x] ∧ ps[i]? = some (k, x)
theorem loop_step {I d : Addr} {R : Result → Shared → Prop} {l : Addr} {items : Array Value} {ps : List (Int × Value)} (hh : A.handled = none) (hne : l ≠ I) (hdI : d ≠ I) (hdl : d ≠ l) (hsz : items.size ≤ 1000000) (hlen : items.size = ps.length) (hn : (ps.map (·.1)).Nodup)
    (hps : ∀ (i : Nat) (v : Value), items[i]? = some v → ∃ (a : Addr) (k : Int) (t : Tok) (x : Value), v = .ref a ∧ a ≠ d ∧ a ≠ I ∧ IsTup h a #[.int k t, x] ∧ ps[i]? = some (k, x)) :
    ∀ (j i : Nat) (h' : Heap) (tk' : Nat), items.size - i = j → i ≤ items.size → h'.IsListIter I l i → h'.IsList l items → (∀ b o, b ≠ d → b ≠ I → h.get? b = some o → h'.get? b = some o) → h'.DictOf (intKind PR w) d (ps.take i) →
      (∀ h'' tk'', (∀ b o, b ≠ d → b ≠ I → h.get? b = some o → h''.get? b = some o) → h''.DictOf (intKind PR w) d ps → R (.ok (.ret .none)) ⟨h'', G, D, tk'', O⟩) →
      codeAny (model PR w) A (.builtin "dict.update.loop" ⟨[.ref d, .ref I, rawInt i, .none], []⟩) R ⟨h', G, D, tk', O⟩ := by
  have W := Walks.list (prog := PR) (w := w) (A := A.in1) (by simp [hh]) I l hne items
  intro j
  induction j with
  | zero =>
    intro i h' tk' hk hi hI hL hkp hD hR
    have hin : i = items.size := by omega
    subst hin
    refine codeAny_builtin FJ.entry_dict_update_loop ?_
    rw [Around.under_plainId FJ.plain_dict_update_loop _]
    show wpAny _ A.in1 (pyNext (.ref I) >>= _) _ _ _
    refine wpAny_bind (W.done _ _ _ ⟨hI, hL⟩ fun h2 tk2 k2 => ?_)
    show wpAny _ A.in1 (Builtin.Dict.addKeywords d [] >>= _) _ _ _
    refine wpAny_bind (wpAny_pure ?_)
    refine wpAny_pure (hR _ _ (fun b o n1 n2 q => k2 _ _ (by simp [n2]) (hkp b o n1 n2 q)) ?_)
    have : ps.take items.size = ps := List.take_of_length_le (by omega)
    rw [this] at hD
    obtain ⟨o, es, ep, ho, rest⟩ := hD
    exact ⟨o, es, ep, k2 _ _ (by simp [hdI]) ho, rest⟩
  | succ j ih =>
    intro i h' tk' hk hi hI hL hkp hD hR
    have hlt : i < items.size := by omega
    refine codeAny_builtin FJ.entry_dict_update_loop ?_
    rw [Around.under_plainId FJ.plain_dict_update_loop _]
    show wpAny _ A.in1 (pyNext (.ref I) >>= _) _ _ _
    refine wpAny_bind (W.item i _ _ _ hlt ⟨hI, hL⟩ fun v h2 tk2 hv hst k2 => ?_)
    obtain ⟨a, k, t, x, rfl, n1, n2, ht, hp⟩ := hps _ _ hv
    obtain ⟨hI2, hL2⟩ := hst
    have hkp2 : ∀ b o, b ≠ d → b ≠ I → h.get? b = some o → h2.get? b = some o := fun b o n1 n2 q => k2 _ _ (by simp [n2]) (hkp b o n1 n2 q)
    have hD2 : h2.DictOf (intKind PR w) d (ps.take i) := by
      obtain ⟨o, es, ep, ho, rest⟩ := hD
      exact ⟨o, es, ep, k2 _ _ (by simp [hdI]) ho, rest⟩
    have ht2 : IsTup h2 a #[.int k t, x] := by
      obtain ⟨o, ho, r⟩ := ht
      exact ⟨o, hkp2 _ _ n1 n2 ho, r⟩
    obtain ⟨o, ho, hc, nn, hd⟩ := id ht2
    refine wpAny_bind (wpAny_holding ?_)
    refine wpAny_bind (wpAny_mono (Q := fun l s => l = [.int k t, x] ∧ s = ⟨h2, G, D, tk2, O⟩) (E := fun _ _ => False) ?_ ?_ ?_)
    · refine wpAny_tryCatch ?_
      unfold Builtin.Dict.pairItems
      have hT := ht2.typeIs (s := ⟨h2, G, D, tk2, O⟩)
      refine wpAny_bind (wpAny_typeOf hT ?_)
      rw [if_pos (by decide)]
      refine wpAny_bind ?_
      unfold seqItems?
      refine wpAny_bind (wpAny_load ho ?_)
      rw [hd]
      refine wpAny_pure ?_
      exact wpAny_pure ⟨rfl, rfl⟩
    · rintro l' s ⟨rfl, rfl⟩
      refine wpAny_holding (wpAny_dictSet_pairs (knd := intKind PR w) (intKind_is _ _ _ _) hD2 (fun h3 hD3 hs3 => ?_) (by rw [List.length_take, sizeLine_eq]; omega))
      refine wpAny_pure ⟨plainId_quiet FJ.plain_dict_update_loop _, ih (i + 1) _ _ (by omega) hlt (hI2.at fun o q => hs3.2 I (fun e => hdI e.symm) ▸ q) (hL2.at fun o q => hs3.2 l (fun e => hdl e.symm) ▸ q) (fun b o n1 n2 q => (hs3.2 b n1).trans (hkp2 b o n1 n2 q)) ?_ hR⟩
      have hnew : k ∉ (ps.take i).map (·.1) := by
        intro z
        obtain ⟨q, hq1, hq2⟩ := List.mem_map.mp z
        obtain ⟨j', hj1, hj2⟩ := List.mem_iff_getElem.mp hq1
        rw [List.length_take] at hj1
        have e1 : (ps.map (·.1))[j']? = some k := by
          rw [List.getElem?_map, List.getElem?_eq_getElem (by omega)]
          rw [List.getElem_take] at hj2
          rw [hj2, ← hq2]; rfl
        have e2 : (ps.map (·.1))[i]? = some k := by rw [List.getElem?_map, hp]; rfl
        have := (List.getElem?_inj (i := j') (j := i) (by rw [List.length_map]; omega) hn).mp (e1.trans e2.symm)
        omega
      rw [stored_new hnew] at hD3
      rw [List.take_succ, hp]
      exact hD3
    · intro e s f
      exact f.elim
theorem typeCall_dict_1 (a : Value) : checkTypeCall "dict" ⟨[a], []⟩ = pure () := PySem.F.kt_typeCall_dict_1 a
/-- dict(a list of pairs) -/
theorem call_dict_pairs {l : Addr} {items : Array Value} {ps : List (Int × Value)} {Q : Value → Shared → Prop} (hh : A.handled = none) (hl : h.PlainList l items) (hsz : items.size ≤ 1000000) (hlen : items.size = ps.length) (hn : (ps.map (·.1)).Nodup)
    (hps : ∀ (i : Nat) (v : Value), items[i]? = some v → ∃ (a : Addr) (k : Int) (t : Tok) (x : Value), v = .ref a ∧ IsTup h a #[.int k t, x] ∧ ps[i]? = some (k, x))
    (hq : ∀ h' tk' d, h.StaysIn h' → h.get? d = none → h.objs.size ≤ d → h'.DictOf (intKind PR w) d ps → Q (.ref d) ⟨h', G, D, tk', O⟩) :
    wpAny (model PR w) A (call (.type "dict") [.ref l]) Q E ⟨h, G, D, tk, O⟩ := by
  refine callType_codes (Q₁ := fun obj s₁ => obj = .ref h.objs.size ∧ s₁ = ⟨h.push { cls := .type "dict", data := .dict #[] }, G, D, tk, O⟩) PySem.F.kt_called_dict (PySem.F.kt_typeCall_dict_1 _) PySem.F.entry_dict_init (kt_code_dict_new _ ⟨rfl, rfl⟩) ?_
  rintro obj s₁ ⟨rfl, rfl⟩
  have hnew : (h.push { cls := .type "dict", data := .dict #[] }).DictOf (intKind PR w) h.objs.size [] := Heap.DictOf.new h
  have hl1 : (h.push { cls := .type "dict", data := .dict #[] }).PlainList l items := by obtain ⟨n, hl⟩ := hl; exact ⟨n, Heap.get?_push_of_some _ hl⟩
  have hlt : l < h.objs.size := by obtain ⟨n, hl⟩ := hl; exact Heap.lt_size hl
  refine ⟨hnew.typeIs, PySem.F.args_dict_init_2 _ _, ?_⟩
  unfold Builtin.«dict.__init__»
  refine wpAny_bind ?_
  unfold Builtin.Dict.selfAndRest
  refine wpAny_bind (wpAny_notOrdered_dict hnew.typeIs ?_)
  show wpAny _ _ (pure (h.objs.size, [Value.ref l])) _ _ _
  refine wpAny_pure ?_
  show wpAny _ _ (Builtin.Dict.updateFrom "dict.__init__" h.objs.size (.ref l) [] .none) _ _ _
  unfold Builtin.Dict.updateFrom
  have hT : (⟨h.push { cls := .type "dict", data := .dict #[] }, G, D, tk, O⟩ : Shared).TypeIs (.ref l) "list" := by obtain ⟨n, hl⟩ := hl1; exact ⟨_, hl, rfl⟩
  refine wpAny_bind (wpAny_typeOf hT ?_)
  rw [if_pos (by decide)]
  refine wpAny_bind (keysQ_list hl1 (by simp [hh]) fun h2 tk2 k2 => ?_)
  dsimp only [Option.isNone]
  rw [if_pos rfl]
  refine wpAny_bind (wpAny_rule ?_)
  obtain ⟨nl, hl2⟩ : h2.PlainList l items := by obtain ⟨n, hl1⟩ := hl1; exact ⟨n, k2 _ _ hl1⟩
  have hL2 : h2.IsList l items := ⟨_, hl2, rfl, nl, rfl⟩
  refine wpAny_bind (wpAny_pyIter_list hL2 ?_)
  have kk : h.StaysIn h2 := fun b o q => k2 _ _ (Heap.get?_push_of_some _ q)
  obtain ⟨od, _, _, hd1, _⟩ := id hnew
  have hsd : h.objs.size < h2.objs.size := Heap.lt_size (k2 _ _ hd1)
  refine wpAny_pure ⟨plainId_quiet FJ.plain_dict_update_loop _, loop_step (h := h2.push { cls := .type "list_iterator", data := .fields #[.ref l, .int 0 0] }) (l := l) (items := items) (ps := ps) (by simp [hh]) ?_ ?_ ?_ hsz hlen hn (fun i v hv => ?_) items.size 0 _ _ (by omega) (Nat.zero_le _) ⟨_, Heap.get?_push_size _ rfl, rfl, rfl⟩ (hL2.push _) (fun _ _ _ _ q => q) ?_ fun h4 tk4 k4 hD4 => ?_⟩
  · dsimp only; exact Nat.ne_of_lt (Nat.lt_trans hlt hsd)
  · dsimp only; exact Nat.ne_of_lt hsd
  · exact Nat.ne_of_gt hlt
  · obtain ⟨a, k, t, x, e, ht, hp⟩ := hps i v hv
    have ha : a < h.objs.size := by obtain ⟨o, ho, _⟩ := ht; exact Heap.lt_size ho
    exact ⟨a, k, t, x, e, Nat.ne_of_lt ha, Nat.ne_of_lt (Nat.lt_trans ha hsd), (ht.keeps kk).push _, hp⟩
  · rw [List.take_zero]
    obtain ⟨o, es, ep, ho, r⟩ := hnew
    exact ⟨o, es, ep, Heap.get?_push_of_some _ (k2 _ _ ho), r⟩
  · refine ⟨rfl, hq _ _ _ (fun b o q => k4 b o (Nat.ne_of_lt (Heap.lt_size q)) (Nat.ne_of_lt (Nat.lt_trans (Heap.lt_size q) hsd)) (Heap.get?_push_of_some _ (kk _ _ q))) (Heap.get?_none_of_le (Nat.le_refl _)) (Nat.le_refl _) hD4⟩
end
section
variable {w : World} {A : Around} {E : Value → Shared → Prop} {h : Heap} {G : Array GenState} {D : Drawn} {tk : Nat} {O : OsState} {g : Heap} {L : Addr} {m : Str → Option Value} {led : Ls}
theorem dictPairs {l : Addr} {vs : List Value} {ps : List (Int × Value)} {Q : Value → Shared → Prop} (hh : A.handled = none) (F : Fr g L h m) (N : Led w g L h led) (hl : (l, Res.lst vs) ∈ led) (hsz : vs.length ≤ 1000000) (hlen : vs.length = ps.length) (hn : (ps.map (·.1)).Nodup)
    (hps : ∀ (i : Nat) (v : Value), vs[i]? = some v → ∃ (a : Addr) (k : Int) (t : Tok) (x : Value), v = .ref a ∧ IsTup h a #[.int k t, x] ∧ ps[i]? = some (k, x))
    (hq : ∀ h' tk' d, Fr g L h' m → Led w g L h' ((d, .dct ps) :: led) → Q (.ref d) ⟨h', G, D, tk', O⟩) :
    wpAny (model PR w) A (call (.type "dict") [.ref l]) Q E ⟨h, G, D, tk, O⟩ := by
  refine call_dict_pairs (items := vs.toArray) (ps := ps) hh (N.get hl) (by simpa using hsz) (by simpa using hlen) hn (fun i v hv => hps i v (by simpa using hv)) fun h' tk' d k hnd hge hD => ?_
  have F' := fr_stays F k
  refine hq _ _ _ F' (N.call (tl := [(d, .dct ps)]) F k ⟨fun p hp => ?_, by simp [keys]⟩)
  rw [List.mem_singleton.mp hp]
  exact ⟨hD, Nat.lt_of_lt_of_le (N.gt F) hge, hnd⟩
end
set_option linter.unusedVariables false
section
variable {w : World} {g h : Heap} {L : Addr} {m : Str → Option Value} {led : Ls}
theorem Led.dctE {d : Addr} {kvs : List (Int × Value)} (N : Led w g L h led) (hm : (d, Res.dct kvs) ∈ led) : ∃ ep led', Led w g L h led' ∧ (d, Res.dce kvs ep) ∈ led' ∧ (∀ p ∈ led, p ≠ (d, Res.dct kvs) → p ∈ led') := by
  obtain ⟨pre, post, rfl⟩ := List.append_of_mem hm
  obtain ⟨ep, N'⟩ := N.dce
  refine ⟨ep, _, N', by simp, fun p hp ne => ?_⟩
  rcases List.mem_append.mp hp with q | q
  · exact List.mem_append_left _ q
  · rcases List.mem_cons.mp q with q | q
    · exact absurd q ne
    · exact List.mem_append_right _ (.tail _ q)
theorem Led.dctD {d : Addr} {kvs : List (Int × Value)} {ep : Nat} (N : Led w g L h led) (hm : (d, Res.dce kvs ep) ∈ led) : ∃ led', Led w g L h led' ∧ (d, Res.dct kvs) ∈ led' ∧ (∀ p ∈ led, p ≠ (d, Res.dce kvs ep) → p ∈ led') := by
  obtain ⟨l, P, k⟩ := permFront hm
  have N1 := N.perm P
  refine ⟨(d, .dct kvs) :: l, ⟨fun p hp => ?_, N1.D, N1.B⟩, .head _, fun p hp ne => .tail _ (k p hp ne)⟩
  rcases List.mem_cons.mp hp with rfl | hp
  · have := N1.N _ (.head _)
    exact ⟨Heap.DictAt.dictOf this.1, this.2⟩
  · exact N1.N p (.tail _ hp)
/-- a caught fault stands -/
def Cgt (h : Heap) (L e : Addr) (n : Int) : Prop := ∃ oe vs d mA ta, h.get? e = some oe ∧ oe.cls = .ref 87 ∧ oe.data = .fields vs ∧ oe.dict = some d ∧ d ≠ e ∧ e ≠ L ∧ d ≠ L ∧ h.Ns1 d mA ∧ mA (Str.ofString "at") = some (.int n ta)
theorem Cgt.keep {h' : Heap} {e : Addr} {n : Int} (x : Cgt h L e n) (k : ∀ b o, b ≠ L → h.get? b = some o → h'.get? b = some o) : Cgt h' L e n := by
  obtain ⟨oe, vs, d, mA, ta, h1, h2, h3, h4, h5, h6, h7, ⟨od, es, ep, h8, r⟩, h9⟩ := x
  exact ⟨oe, vs, d, mA, ta, k _ _ h6 h1, h2, h3, h4, h5, h6, h7, ⟨od, es, ep, k _ _ h7 h8, r⟩, h9⟩
theorem Fly.cgt {B : Heap} {env : Env} {l : List Env} {e : Addr} {n : Int} {s : Option Value} (F : Fly B h (env :: l) e n s) (hf : env.frame = some L) : Cgt h L e n := by
  obtain ⟨stay, new, fr, oe, vs, mA, ta, d, he, hc, hd, hsz, hdi, hde, hns, hat, tb⟩ := F
  obtain ⟨_, ⟨L', o, hf', hB, ho, hnf⟩, _⟩ := fr
  rw [hf] at hf'; cases hf'
  refine ⟨oe, vs, d, mA, ta, he, hc, hd, hdi, hde, fun q => ?_, fun q => ?_, ?_, hat⟩
  · rw [q] at he; rw [ho] at he; cases he; exact hnf _ hd
  · obtain ⟨od, es, ep, h8, r⟩ := hns
    rw [q] at h8; rw [hB] at h8; cases h8
  · obtain ⟨od, es, ep, h8, r⟩ := hns
    exact ⟨od, es, ep, stay _ _ h8, r⟩
variable {A : Around} {G : Array GenState} {D : Drawn} {tk : Nat} {O : OsState} {E : Value → Shared → Prop} {env : Env} {x : Str} {v : Value} {e : Addr} {n : Int}
theorem stK {Q : Unit → Shared → Prop} (F : Fr g L h m) (N : Led w g L h led) (C : Cgt h L e n)
    (hk : env.scope.kind = .function) (hl : env.kindOf x = some .local) (hL : env.locals = L)
    (k : ∀ h' tk', Fr g L h' (fun y => if y = x then some v else m y) → Led w g L h' led → Cgt h' L e n → Q () ⟨h', G, D, tk', O⟩) :
    wpAny (model PR w) A (storeName env x v) Q E ⟨h, G, D, tk, O⟩ := by
  subst hL
  exact wpAny_storeName_local hl F.ns (fun h' hn hs => k h' _ (F.set hn hs) (N.set hs) (C.keep fun b o nb q => (hs.2 b nb).trans q)) (by rw [hk]; rfl)
theorem goneK {pos : Pos} {Q : Unit → Shared → Prop} (F : Fr g L h m) (N : Led w g L h led) (C : Cgt h L e n)
    (hk : env.scope.kind = .function) (hl : env.kindOf x = some .local) (hL : env.locals = L)
    (k : ∀ h' tk' v, Fr g L h' (fun y => if y = x then v else m y) → Led w g L h' led → Cgt h' L e n → Q () ⟨h', G, D, tk', O⟩) :
    wpAny (model PR w) A (do bindName env x .none; unbindBehindTheSuite env x pos) Q E ⟨h, G, D, tk, O⟩ := by
  subst hL
  exact wpAny_nameGoes_keeps hl F.ns (by rw [hk]; rfl) (fun h' v hn hs => k h' _ v (F.set hn hs) (N.set hs) (C.keep fun b o nb q => (hs.2 b nb).trans q))
theorem atK {Q : Value → Shared → Prop} {expr : Bool} (X : (hd.heap_1 w.params).In h) (C : Cgt h L e n) (hq : ∀ t tk', Q (.int n t) ⟨h, G, D, tk', O⟩) :
    wpAny (model PR w) A (getAttr (.ref e) (Str.ofString "at") expr) Q E ⟨h, G, D, tk, O⟩ := by
  obtain ⟨oe, vs, d, mA, ta, h1, h2, h3, h4, h5, h6, h7, h8, h9⟩ := C
  refine loadX X (by k_is) (mA := mA) ⟨oe, h1, h2, ?_, .inr ⟨d, h4, h5, h8⟩⟩ h9 rfl fun _ => hq _ _
  intro c q
  rw [h3] at q; cases q
end
def slide (H h : Heap) (l : List Addr) : Heap := { H with objs := H.objs.mapIdx fun i o => if i ∈ l then (h.get? i).getD o else o }
theorem slide_size (H h : Heap) (l : List Addr) : (slide H h l).objs.size = H.objs.size := by unfold slide; simp
theorem get_freed (h : Heap) (a : Addr) (o : Obj) (e : h.get? a = some o) : o.data ≠ .freed := by
  unfold Heap.get? at e
  split at e
  · cases e
  · rename_i q hn
    intro z
    obtain ⟨c, d, dt, s⟩ := o
    cases z
    exact hn _ _ _ e
theorem get_of (h : Heap) (a : Addr) (o : Obj) (e : h.objs[a]? = some o) (hf : o.data ≠ .freed) : h.get? a = some o := by
  unfold Heap.get?
  rw [e]
  split
  · rename_i q; cases q; exact absurd rfl hf
  · rfl
theorem get_objs (h : Heap) (a : Addr) (o : Obj) (e : h.get? a = some o) : h.objs[a]? = some o := by
  unfold Heap.get? at e
  split at e
  · cases e
  · exact e
theorem slide_out {H h : Heap} {l : List Addr} {b : Addr} {o : Obj} (e : H.get? b = some o) (hb : b ∉ l) : (slide H h l).get? b = some o := by
  refine get_of _ _ _ ?_ (get_freed _ _ _ e)
  unfold slide
  rw [Array.getElem?_mapIdx, get_objs _ _ _ e]
  simp [hb]
theorem slide_in {H h : Heap} {l : List Addr} {b : Addr} {o o' : Obj} (e : H.get? b = some o) (hb : b ∈ l) (e' : h.get? b = some o') : (slide H h l).get? b = some o' := by
  refine get_of _ _ _ ?_ (get_freed _ _ _ e')
  unfold slide
  rw [Array.getElem?_mapIdx, get_objs _ _ _ e]
  simp [hb, e']
theorem slide_none {H h : Heap} {l : List Addr} {b : Addr} (e : H.get? b = none) (S : b ∈ l → ∃ o, H.get? b = some o) : (slide H h l).get? b = none := by
  cases q : (slide H h l).get? b with
  | none => rfl
  | some o =>
    have hb : b ∉ l := fun z => by obtain ⟨_, y⟩ := S z; rw [e] at y; cases y
    have q1 := get_objs _ _ _ q
    unfold slide at q1
    rw [Array.getElem?_mapIdx] at q1
    cases z : H.objs[b]? with
    | none => rw [z] at q1; cases q1
    | some o₁ =>
      rw [z] at q1
      simp [hb] at q1
      rw [q1] at z
      rw [get_of _ _ _ z (get_freed _ _ _ q)] at e; cases e
theorem slide_back {H h : Heap} {l : List Env} {b : Addr} {o : Obj} (hl : FFr H l) (S : Slid l H h) (q : (slide H h (frs l)).get? b = some o) : (b ∉ frs l ∧ H.get? b = some o) ∨ (b ∈ frs l ∧ h.get? b = some o) := by
  by_cases hb : b ∈ frs l
  · obtain ⟨o₁, h1, _⟩ := hl.mem hb
    obtain ⟨sl, h2⟩ := S b hb _ h1
    rw [slide_in h1 hb h2] at q
    exact .inr ⟨hb, h2.trans q⟩
  · refine .inl ⟨hb, ?_⟩
    cases z : H.get? b with
    | none => rw [slide_none z fun w => absurd w hb] at q; cases q
    | some o₁ => rw [slide_out z hb] at q; exact q
section
variable {w : World} {H g h h₂ : Heap} {L : Addr} {m : Str → Option Value} {led : Ls} {l : List Env}
/-- what stood at a call of a frame stands behind the catch, over the slid base -/
theorem fr_slide (hl : FFr H l) (S : Slid l H h₂) (F : Fr H L h m) (k : ∀ b o, h.get? b = some o → b ∉ frs l → b ≠ L → h₂.get? b = some o) (hL : ∀ o, h.get? L = some o → ∃ sl, h₂.get? L = some { o with slots := sl }) : Fr (slide H h₂ (frs l)) L h₂ m := by
  refine ⟨?_, fun b o q => ?_, by rw [slide_size]; exact F.above⟩
  · obtain ⟨o, es, ep, ho, hd, r⟩ := F.ns
    obtain ⟨sl, h2⟩ := hL _ ho
    exact ⟨_, es, ep, h2, hd, r⟩
  · rcases slide_back hl S q with ⟨hb, q⟩ | ⟨hb, q⟩
    · exact k _ _ (F.keep _ _ q) hb fun e => by rw [e, fr_new F] at q; cases q
    · exact q
theorem led_slide (hl : FFr H l) (N : Led w H L h led) (k : ∀ b o, h.get? b = some o → b ∉ frs l → b ≠ L → h₂.get? b = some o) : Led w (slide H h₂ (frs l)) L h₂ led :=
  ⟨fun p hp => by
    have z := N.N p hp
    have hn : p.1 ∉ frs l := fun q => by obtain ⟨o, ho, _⟩ := hl.mem q; rw [z.2.2.2] at ho; cases ho
    exact ⟨at_of z.1 fun o e => k _ _ e hn z.2.2.1, z.2.1, z.2.2.1, slide_none z.2.2.2 fun q => absurd q hn⟩, N.D, by rw [slide_size]; exact N.B⟩
theorem stays_slide {h₀ : Heap} (st : h₀.StaysIn H) (hn : ∀ L ∈ frs l, h₀.get? L = none) : h₀.StaysIn (slide H h₂ (frs l)) := fun b o e => slide_out (st _ _ e) fun q => by rw [hn _ q] at e; cases e
theorem new_slide {h' : Heap} {ll : Ls} (hl : FFr H l) (x : New w (slide H h₂ (frs l)) h' ll) : New w H h' ll :=
  ⟨fun p hp => ⟨(x.N p hp).1, (x.N p hp).2.1, by
    cases q : H.get? p.1 with
    | none => rfl
    | some o =>
      have hn := (x.N p hp).2.2
      by_cases hb : p.1 ∈ frs l
      · cases z : h₂.get? p.1 with
        | some o' => rw [slide_in q hb z] at hn; cases hn
        | none =>
          have : (slide H h₂ (frs l)).get? p.1 = some o := by
            refine get_of _ _ _ ?_ (get_freed _ _ _ q)
            unfold slide
            rw [Array.getElem?_mapIdx, get_objs _ _ _ q]
            simp [hb, z]
          rw [this] at hn; cases hn
      · rw [slide_out q hb] at hn; cases hn⟩, x.D⟩
/-- a def that may catch leaves: what stood stands, but for the slots of the frames -/
structure KeptF (H h : Heap) (l : List Env) : Prop where
  keep : ∀ b o, H.get? b = some o → b ∉ frs l → h.get? b = some o
  slid : Slid l H h
theorem KeptF.of (k : H.StaysIn h) : KeptF H h l := ⟨fun b o e _ => k _ _ e, Slid.of_keeps k⟩
theorem keptF_slide {h' : Heap} (hl : FFr H l) (S : Slid l H h₂) (k : (slide H h₂ (frs l)).StaysIn h') : KeptF H h' l :=
  ⟨fun b o e hb => k _ _ (slide_out e hb), fun L hL o e => by
    obtain ⟨sl, h2⟩ := S L hL _ e
    exact ⟨sl, k _ _ (slide_in e hL h2)⟩⟩
theorem fr_kept {env : Env} (F : Fr g L h m) (hf : env.frame = some L) (k : KeptF h h₂ [env]) : Fr g L h₂ m := by
  have e : frs [env] = [L] := by rw [frs_cons hf]; rfl
  obtain ⟨o, es, ep, ho, hd, r⟩ := F.ns
  obtain ⟨sl, h2⟩ := k.slid L (by rw [e]; exact .head _) _ ho
  refine ⟨⟨_, es, ep, h2, hd, r⟩, fun b o q => k.keep _ _ (F.keep _ _ q) fun z => ?_, F.above⟩
  rw [e] at z
  rw [List.mem_singleton.mp z, fr_new F] at q; cases q
theorem led_kept {env : Env} (N : Led w g L h led) (hf : env.frame = some L) (k : KeptF h h₂ [env]) : Led w g L h₂ led :=
  ⟨fun p hp => ⟨at_of (N.N p hp).1 fun o e => k.keep _ _ e fun z => (N.N p hp).2.2.1 (by rw [frs_cons hf] at z; exact List.mem_singleton.mp z), (N.N p hp).2⟩, N.D, N.B⟩
end
set_option linter.unusedVariables false
theorem fn35 {w : World} {h : Heap} (X : (hd.heap_1 w.params).In h) : ∃ o fd, h.get? 35 = some o ∧ o.data = .func fd := by
  have : ∃ oc od osl name qual params body scope dV kV doc pm an cdv ct, (hd.heap_1 w.params).lookup 35 = some ⟨oc, od, .func (fnOf name qual params body scope dV kV doc pm an cdv ct), osl⟩ := ⟨_, _, _, _, _, _, _, _, _, _, _, _, _, _, _, by k_is⟩
  obtain ⟨oc, od, osl, name, qual, params, body, scope, dV, kV, doc, pm, an, cdv, ct, e⟩ := this
  exact ⟨_, _, X _ _ e, rfl⟩
theorem Led.dAt {w : World} {g h : Heap} {L d : Addr} {led : Ls} {kvs : List (Int × Value)} {ep : Nat} (N : Led w g L h led) (hm : (d, Res.dce kvs ep) ∈ led) : h.DictAt (intKind PR w) d kvs ep := N.get hm
theorem goRun_len {b : List UInt8} {w0 w1 w2 : Nat} : ∀ {k : Nat} {n : Int} {s s' : S3}, goRun b w0 w1 w2 k n s = .ok s' → s'.2.2.length ≤ s.2.2.length + k
  | 0, n, s, s', h => by
    unfold goRun at h; cases h; exact Nat.le_refl _
  | k + 1, n, s, s', h => by
    unfold goRun at h
    by_cases e : n ∈ s.2.1
    · rw [if_pos e] at h; cases h
    · rw [if_neg e] at h
      have := goRun_len h
      have h2 : ∀ r : Option E3, (put s.2.2 n r).length ≤ s.2.2.length + 1 := by
        intro r; cases r with
        | none => simp [put]
        | some e => simp [put]
      have := h2 (rowAt b w0 w1 w2 s.1)
      dsimp only at *
      omega
theorem goRuns_len {b : List UInt8} {w0 w1 w2 : Nat} : ∀ {ps : List (Nat × Nat)} {s s' : S3}, goRuns b w0 w1 w2 ps s = .ok s' → s'.2.2.length ≤ s.2.2.length + (ps.map (·.2)).sum
  | [], s, s', h => by unfold goRuns at h; cases h; simp
  | p :: r, s, s', h => by
    unfold goRuns at h
    split at h
    · cases h
    · split at h
      · cases h
      · rename_i z
        have h1 := goRun_len z
        have h2 := goRuns_len h
        simp only [List.map_cons, List.sum_cons]
        omega
theorem EntR.subR {l l' : Ls} {v : Value} {e : E3} (x : EntR l v e) (k : ∀ p ∈ l, (∃ o, p.2 = .raw o) → p ∈ l') : EntR l' v e := by
  obtain ⟨tw, t1, t2, a, d, es, n, e, h1, h2, r⟩ := x
  exact ⟨tw, t1, t2, a, d, es, n, e, k _ h1 ⟨_, rfl⟩, k _ h2 ⟨_, rfl⟩, r⟩
theorem KE.subR {l l' : Ls} {kvs : List (Int × Value)} {tab : List (Int × E3)} (x : A2 (KE l) kvs tab) (k : ∀ p ∈ l, (∃ o, p.2 = .raw o) → p ∈ l') : A2 (KE l') kvs tab := x.mono fun _ _ r => ⟨r.1, r.2.subR k⟩
def PT (l : Ls) (v : Value) (q : Int × E3) : Prop := ∃ a a2 t, v = .ref a ∧ (a, Res.tup [.int q.1 t, .ref a2]) ∈ l ∧ TupR l (.ref a2) q.2
theorem PT.sub {l l' : Ls} {v : Value} {q : Int × E3} (x : PT l v q) (k : ∀ p ∈ l, (∃ vs, p.2 = .tup vs) → p ∈ l') : PT l' v q := by
  obtain ⟨a, a2, t, rfl, h1, b, tw, t1, t2, e, h2⟩ := x
  exact ⟨a, a2, t, rfl, k _ h1 ⟨_, rfl⟩, b, tw, t1, t2, e, k _ h2 ⟨_, rfl⟩⟩
theorem PT.subA {l l' : Ls} {ys : List Value} {tab : List (Int × E3)} (x : A2 (PT l) ys tab) (k : ∀ p ∈ l, (∃ vs, p.2 = .tup vs) → p ∈ l') : A2 (PT l') ys tab := x.mono fun _ _ r => r.sub k
theorem PT.pairs {l : Ls} {ys : List Value} {tab : List (Int × E3)} (x : A2 (PT l) ys tab) : ∃ ps, A2 (KT l) ps tab ∧ ys.length = ps.length ∧ ps.map (·.1) = tab.map (·.1) ∧ ∀ (i : Nat) (v : Value), ys[i]? = some v → ∃ (a : Addr) (k : Int) (t : Tok) (x : Value), v = .ref a ∧ (a, Res.tup [.int k t, x]) ∈ l ∧ ps[i]? = some (k, x) := by
  induction x with
  | nil => exact ⟨[], .nil, rfl, rfl, fun i v e => by simp at e⟩
  | @cons a q ys tab r _ ih =>
    obtain ⟨ps, h1, h2, h3, h4⟩ := ih
    obtain ⟨b, b2, t, rfl, m, T⟩ := r
    refine ⟨(q.1, .ref b2) :: ps, .cons ⟨rfl, T⟩ h1, by simp [h2], by simp [h3], fun i v e => ?_⟩
    cases i with
    | zero =>
      simp at e; subst e
      exact ⟨b, q.1, t, .ref b2, rfl, m, rfl⟩
    | succ i => simpa using h4 i v (by simpa using e)
theorem heard_c
  {w : World} {mg mb : Str → Option Value} {me : ExcName → Option Value} {A : Around} {H : Heap} {G : Array GenState} {D : Drawn} {tk : Nat} {O : OsState} {h₀ : Heap} {Q E : Value → Shared → Prop}
  (X : (hd.heap_1 w.params).In h₀) (T : TopH mg mb me h₀) (st : h₀.StaysIn H) (hh : A.handled = none) (hdp : A.depth + 60 < recursionLimit) (hu : A.units + 300 < cLine)
  {fr : List Env} (hfr : A.frames = some fr) (hff : FFr H fr) (hnw : ∀ L ∈ frs fr, h₀.get? L = none)
  {b : Array UInt8} {tb : Tok} {v u : Value} {w0 w1 w2 : Nat} {ps : List (Nat × Nat)} (hv : Nums H v [(w0 : Int), (w1 : Int), (w2 : Int)]) (hu' : Nums H u (flat ps)) (hw : w0 + w1 + w2 < 2 ^ 20) (hz : b.size ≤ 16777216)
  (hps : ps.length < 2 ^ 20) (hp : ∀ p ∈ ps, p.1 + p.2 < 2 ^ 50) (hsum : (ps.map (·.2)).sum ≤ 1000000)
  (post : ∀ h' tk' a l r0 r1, KeptF H h' fr → New w H h' ((a, .tup [r0, r1]) :: l) → Outc l (given b.toList w0 w1 w2 ps) r0 r1 → Q (.ref a) ⟨h', G, D, tk', O⟩) :
  wpAny (model PR w) A (call (.ref 199) [.bytes b tb, v, u]) Q E ⟨H, G, D, tk, O⟩ := by
  have X0 := X
  have T0 := T
  with_reducible refine' enterCP X T st [(Str.ofString "octets", .bytes b tb), (Str.ofString "widths", v), (Str.ofString "runs", u)] (fun y => if y = Str.ofString "runs" then some u else if y = Str.ofString "widths" then some v else if y = Str.ofString "octets" then some (.bytes b tb) else none) (fun L => [(L + 1, .cel none)]) ?ho ?cd ?room ?bd ?ki ?nd ?m0 ?l0 ?co ?ge ?k ?_
  case ho => k_is
  case cd => k_is
  case room => omega
  case bd => exact rfl
  case ki => (repeat' first | exact trivial | refine ⟨.inl rfl, ?_⟩ | refine ⟨.inr ⟨rfl, rfl⟩, ?_⟩)
  case nd => decide
  case m0 => exact fun _ => rfl
  case l0 => exact fun _ => rfl
  case co => exact rfl
  case ge => exact rfl
  case k => exact rfl
  clear X T
  intro L h tk X T F N
  repeat walk_at "S"
  with_reducible refine' stR F N ?_ ?_ ?_ ?_
  · exact rfl
  · exact rfl
  · exact rfl
  clear F N; intro h tk F N
  try (with_reducible refine' Seal.next ?K ?_; case K => with_reducible assumption)
  repeat walk_at "S"
  refine wpAny_Try_except ?_
  repeat walk_at "S"
  refine ⟨X.keeps F.keep, ?_⟩
  have hk0 := fun b o (q : H.get? b = some o) => F.keep b o q
  refine entries_of_c X T F.keep (by show A.handled = _; exact hh) (by show A.depth + _ + _ < _; omega) (by show A.units + 3 + _ < _; omega) (Around.frames_deeper hfr) (hff.cons F rfl rfl) (hv.keeps F.keep) (hu'.keeps F.keep) hw hz hps hp hsum ?_ ?_
  · intro h' tk' d kvs ll s st' hnew hgv hA
    replace N := N.call F st' hnew
    replace F := fr_stays F st'
    clear X0 T0
    with_reducible refine' stCM F N (List.mem_append_right _ (List.Mem.head _)) ?_ ?_ ?_ ?_
    · exact rfl
    · exact rfl
    · exact rfl
    clear F N; intro h led2 F N hcE hk2
    try (with_reducible refine' Seal.next ?K ?_; case K => with_reducible assumption)
    repeat walk_at "S"
    refine isnot_none_none ?_
    repeat walk_at "S"
    obtain ⟨ep, led3, N, hdE, hk3⟩ := N.dctE (hk2 _ (.head _) (by simp))
    have hKE : A2 (KE led3) kvs s.2.2 := KE.subR hA fun p hp ⟨o, ho⟩ => hk3 _ (hk2 _ (List.mem_append_left _ (.tail _ hp)) fun e => by rw [e] at ho; cases ho) fun e => by rw [e] at ho; cases ho
    replace hcE := hk3 _ hcE (by simp)
    clear hk3 hk2 hA hnew
    have hlen : kvs.length ≤ 1000000 := by
      rw [hKE.len]
      have := goRuns_len hgv
      simp only [List.length_nil] at this
      omega
    have hnd : (kvs.map (·.1)).Nodup := Heap.DictAt.nodup (N.dAt hdE)
    with_reducible refine' compDict ?hh F N (N.hi hdE) (N.dAt hdE) ?ce ?ki ?hx ?hn (fun i ys led => (L + 1, Res.cel (some (.ref d))) ∈ led ∧ (d, Res.dce kvs ep) ∈ led ∧ A2 (KE led) kvs s.2.2 ∧ A2 (PT led) ys (s.2.2.take i)) ?_ ?_ ?_ ?_
    case hh => exact hh
    case ce => decide
    case ki => exact rfl
    case hx => exact rfl
    case hn => exact hlen
    · exact ⟨hcE, hdE, hKE, .nil⟩
    · exact fun _ _ _ _ J N _ => N.dAt J.2.1
    · clear F N hcE hdE hKE
      rintro I C D i n v' t ys mC led₁ oI h tk E' hb ⟨hcE, hdE, hKE, hY⟩ hm F N
      obtain ⟨⟨n', e⟩, hq, hnn, hE⟩ := hKE.get hb
      cases hnn
      have mI := N.m0
      have mC' := N.m1
      have mD := N.m2
      have off := N.off
      obtain ⟨tw, t1, t2, hI⟩ := hE.subR fun p hp _ => N.mt (.tail _ (.tail _ hp))
      refine wpAny_tests_nil ?_
      have hcE' := N.mt (.tail _ (.tail _ hcE))
      repeat walk_at "S"
      refine dItem (kvs := kvs) (Heap.DictAt.dictOf (N.dAt (.tail _ (.tail _ (.tail _ hdE))))) (valueAt_of_get hnd hb) (fun _ => ?_) rfl
      repeat walk_at "S"
      refine methTold F X N.has hI ?_
      try dsimp only
      obtain ⟨o35, fd35, h35, d35⟩ := fn35 (X.keeps F.keep)
      refine callWith_meth0 d35 h35 ?_
      clear h35 d35
      refine told_c X T F.keep (by show A.handled = _; exact hh) (by show A.depth + _ + _ < _; omega) (by show A.units + 3 + _ < _; omega) N.has hI rfl rfl rfl fun h tk a2 st' hnew => ?_
      replace N := N.call F st' hnew
      replace F := fr_stays F st'
      repeat walk_at "S"
      with_reducible refine newTupleR F N (by rw [sizeLine_eq]; exact Nat.le_of_ble_eq_true rfl) fun a h F N => ?_
      repeat (first | (with_reducible refine' Seal.ret ?K ?_; case K => with_reducible assumption) | with_reducible refine turnRet ?_)
      repeat walk_at "S"
      refine cEnd F N (.tail _ (.tail _ mI)) (.tail _ (.tail _ mC')) (.tail _ (.tail _ mD)) fun led2 hk2 => ⟨hk2 _ (.tail _ (.tail _ hcE')) (by simp) (by simp) (by simp), hk2 _ (.tail _ (.tail _ (.tail _ (.tail _ (.tail _ hdE))))) (by simp) (by simp) (by simp), KE.subR hKE fun p hp ⟨o, ho⟩ => hk2 _ (.tail _ (.tail _ (.tail _ (.tail _ (.tail _ hp))))) (fun e => off p (.tail _ (.tail _ hp)) (by rw [e])) (fun e => by rw [e] at ho; cases ho) (fun e => by rw [e] at ho; cases ho), ?_⟩
      have ktup : ∀ p ∈ (a, Res.tup [.int n t, .ref a2]) :: (a2, Res.tup [.str (wayS e.1) tw, .int e.2.1 t1, .int e.2.2 t2]) :: (I, Res.raw oI) :: (C, Res.nsp mC) :: (D, Res.lst ys) :: led₁, (∃ vs, p.2 = Res.tup vs) → p ∈ led2 := fun p hp ⟨vs, ho⟩ => hk2 _ hp (fun e => by rw [e] at ho; cases ho) (fun e => by rw [e] at ho; cases ho) (fun e => by rw [e] at ho; cases ho)
      rw [take_snoc hq]
      exact (PT.subA hY fun p hp q => ktup p (.tail _ (.tail _ (.tail _ (.tail _ (.tail _ hp))))) q).snoc ⟨a, a2, t, rfl, ktup _ (.head _) ⟨_, rfl⟩, a2, tw, t1, t2, rfl, ktup _ (.tail _ (.head _)) ⟨_, rfl⟩⟩
    · clear F N hcE hdE hKE
      rintro D ys led₁ h tk ⟨hcE, hdE, hKE, hY⟩ F N
      rw [hKE.len, List.take_length] at hY
      obtain ⟨pv, hKT, hl, hf, hat⟩ := PT.pairs hY
      repeat walk_at "S"
      refine dictPairs hh F N (.head _) (by rw [hl, hKT.len, ← hKE.len]; exact hlen) hl (by rw [hf, ← hKE.fst]; exact hnd) (fun i v e => ?_) fun h tk dd F N => ?_
      · obtain ⟨a, k, t, x, rfl, m, e⟩ := hat i v e
        exact ⟨a, k, t, x, rfl, N.get (r := .tup _) (.tail _ m), e⟩
      repeat walk_at "S"
      with_reducible refine newTupleR F N (by rw [sizeLine_eq]; exact Nat.le_of_ble_eq_true rfl) fun r h F N => ?_
      repeat (first | (with_reducible refine' Seal.ret ?K ?_; case K => with_reducible assumption) | with_reducible refine turnRet ?_)
      obtain ⟨l', N', kl⟩ := N.front N.m0
      repeat (first | (with_reducible refine' Seal.ret ?K ?_; case K => with_reducible assumption) | with_reducible refine turnRet ?_)
      refine post _ _ _ l' _ _ (KeptF.of F.keep) (Led.new N') ?_
      rw [hgv]
      exact ⟨dd, pv, _, rfl, kl _ N.m1 (by simp), hKT.mono fun _ _ ⟨z1, a, tw, u1, u2, z2, z3⟩ => ⟨z1, a, tw, u1, u2, z2, kl _ (.tail _ (.tail _ (.tail _ z3))) fun e => N.off _ (.tail _ (.tail _ z3)) (by rw [e])⟩, rfl⟩
  · rintro e n h' tk' hthr ⟨k, rfl, hgv⟩
    obtain ⟨B, Fy, kB, Sl⟩ := hthr
    have kH : ∀ b o, H.get? b = some o → b ∉ frs fr → B.get? b = some o := fun b o q hb => kB _ _ (F.keep _ _ q) fun z => by
      rw [frs_cons rfl] at z
      rcases List.mem_cons.mp z with z | z
      · rw [z, fr_new F] at q; cases q
      · exact hb z
    have st0 : h₀.StaysIn B := fun b o q => kH _ _ (st _ _ q) fun z => by rw [hnw _ z] at q; cases q
    have SlH : ∀ {h₁ : Heap} {env : Env}, env.frame = some L → Slid (env :: fr) h h₁ → Slid fr H h₁ := fun hf S L' hL o q => S L' (by rw [frs_cons hf]; exact .tail _ hL) o (F.keep _ _ q)
    have hk : ∀ {h₁ : Heap}, B.StaysIn h₁ → ∀ b o, h.get? b = some o → b ∉ frs fr → b ≠ L → h₁.get? b = some o := fun k1 b o q n1 n2 => k1 _ _ (kB _ _ q fun z => by
        rw [frs_cons rfl] at z
        rcases List.mem_cons.mp z with z | z
        · exact n2 z
        · exact n1 z)
    have hS : ∀ {h₁ : Heap} {env : Env}, env.frame = some L → Slid (env :: fr) h h₁ → ∀ o, h.get? L = some o → ∃ sl, h₁.get? L = some { o with slots := sl } := fun hf S1 o q => S1 L (by rw [frs_cons hf]; exact .head _) o q
    clear X T
    refine catchAsX Fy (Around.frames_deeper hfr) rfl (X0.keeps st0) (fun h₁ Q₁ E₁ k1 S1 hq => ?_) (fun h₁ F1 S1 => ?_)
    · have X := X0.keeps (stays_slide (h₂ := h₁) st hnw)
      have T := T0.keeps (stays_slide (h₂ := h₁) st hnw)
      replace N := led_slide hff N (hk k1)
      replace F := fr_slide hff (SlH rfl (Sl.trans S1)) F (hk k1) (hS rfl (Sl.trans S1))
      repeat walk_at "S"
      exact hq
    · have X := X0.keeps (stays_slide (h₂ := h₁) st hnw)
      have T := T0.keeps (stays_slide (h₂ := h₁) st hnw)
      have C := F1.cgt (L := L) rfl
      have SS := SlH rfl (Sl.trans S1)
      replace N := led_slide hff N (hk F1.stay)
      replace F := fr_slide hff SS F (hk F1.stay) (hS rfl (Sl.trans S1))
      clear hS hk SlH st0 kH kB Fy F1 Sl S1
      generalize hg : slide H h₁ (frs fr) = g at F N X T
      refine stK F N C rfl rfl rfl ?_
      clear F N C; intro h tk F N C
      repeat walk_at "S"
      refine stK F N C rfl rfl rfl ?_
      clear F N C; intro h tk F N C
      repeat walk_at "S"
      refine goneK F N C rfl rfl rfl ?_
      clear F N C; intro h tk v' F N C
      repeat walk_at "S"
      refine isnot_ref_none ?_
      repeat walk_at "S"
      refine atK (X.keeps F.keep) C fun _ _ => ?_
      repeat walk_at "S"
      with_reducible refine newTupleR F N (by rw [sizeLine_eq]; exact Nat.le_of_ble_eq_true rfl) fun r h F N => ?_
      repeat (first | (with_reducible refine' Seal.ret ?K ?_; case K => with_reducible assumption) | with_reducible refine turnRet ?_)
      rw [← hg] at F N
      obtain ⟨l', N', _⟩ := N.front N.m0
      repeat (first | (with_reducible refine' Seal.ret ?K ?_; case K => with_reducible assumption) | with_reducible refine turnRet ?_)
      refine post _ _ _ _ _ _ (keptF_slide hff SS F.keep) (new_slide hff (Led.new N')) ?_
      rw [hgv]
      exact ⟨rfl, _, rfl⟩
set_option linter.unusedVariables false
theorem narrow_c
  {w : World} {mg mb : Str → Option Value} {me : ExcName → Option Value} {A : Around} {H : Heap} {G : Array GenState} {D : Drawn} {tk : Nat} {O : OsState} {h₀ : Heap} {Q E : Value → Shared → Prop}
  (X : (hd.heap_1 w.params).In h₀) (T : TopH mg mb me h₀) (st : h₀.StaysIn H) (hh : A.handled = none) (hdp : A.depth + 80 < recursionLimit) (hu : A.units + 400 < cLine)
  {fr : List Env} (hfr : A.frames = some fr) (hff : FFr H fr) (hnw : ∀ L ∈ frs fr, h₀.get? L = none)
  {d : Addr} {kvs : List (Int × Value)} {tab : List (Int × E3)} {l : Ls} {v : Value} {w0 w1 w2 : Nat} (hm : H.DictOf (intKind PR w) d kvs) (hd3 : 3 < d) (hl : Has w H l) (hr : A2 (KE l) kvs tab)
  (hv : Nums H v [(w0 : Int), (w1 : Int), (w2 : Int)]) (hw : w0 + w1 + w2 < 2 ^ 10) (h64 : tab.length < 64) (h1 : 1 ≤ tab.length) (hs : (tab.map (·.1)).Pairwise (· ≤ ·))
  (hn : ∀ p ∈ tab, p.2.1 < 3 ∧ p.2.2.1.natAbs < 2 ^ 70 ∧ p.2.2.2.natAbs < 2 ^ 70)
  (post0 : ∀ h' tk', KeptF H h' fr → (∀ p ∈ tab, fitE w0 w1 w2 p.2) → Q (.bool false) ⟨h', G, D, tk', O⟩)
  (post1 : ∀ h' tk', KeptF H h' fr → (¬ ∀ p ∈ tab, fitE w0 w1 w2 p.2) → Q (.bool true) ⟨h', G, D, tk', O⟩) :
  wpAny (model PR w) A (call (.ref 206) [.ref d, v]) Q E ⟨H, G, D, tk, O⟩ := by
  have X0 := X
  have T0 := T
  with_reducible refine' enterP X T st [(Str.ofString "entries", .ref d), (Str.ofString "widths", v)] ?ho ?cd ?room ?bd ?lo ?ce ?co ?ge ?k ?_
  case ho => k_is
  case cd => k_is
  case room => omega
  case bd => exact BindsTo.of_eq rfl
  case lo => exact rfl
  case ce => decide
  case co => exact rfl
  case ge => exact rfl
  case k => exact rfl
  clear X T
  intro L h tk X T F N
  repeat walk_at "S"
  refine wpAny_Try_except ?_
  repeat walk_at "S"
  refine ⟨X.keeps F.keep, ?_⟩
  refine rows_octets_c X T F.keep (by show A.handled = _; exact hh) (by show A.depth + _ + _ < _; omega) (by show A.units + 3 + _ < _; omega) (Around.frames_deeper hfr) (hff.cons F rfl rfl) (hm.keep F.keep) hd3 (hl.keeps F.keep) hr (hv.keeps F.keep) hw h64 h1 hs hn ?_ ?_
  · intro h' tk' t st' hfit
    replace N := N.stays st'
    replace F := fr_stays F st'
    repeat walk_at "S"
    repeat (first | (with_reducible refine' Seal.ret ?K ?_; case K => with_reducible assumption) | with_reducible refine turnRet ?_)
    exact post0 _ _ (KeptF.of F.keep) hfit
  · rintro e n h' tk' hthr hnot
    obtain ⟨B, Fy, kB, Sl⟩ := hthr
    have kH : ∀ b o, H.get? b = some o → b ∉ frs fr → B.get? b = some o := fun b o q hb => kB _ _ (F.keep _ _ q) fun z => by
      rw [frs_cons rfl] at z
      rcases List.mem_cons.mp z with z | z
      · rw [z, fr_new F] at q; cases q
      · exact hb z
    have st0 : h₀.StaysIn B := fun b o q => kH _ _ (st _ _ q) fun z => by rw [hnw _ z] at q; cases q
    have SlH : ∀ {h₁ : Heap} {env : Env}, env.frame = some L → Slid (env :: fr) h h₁ → Slid fr H h₁ := fun hf S L' hL o q => S L' (by rw [frs_cons hf]; exact .tail _ hL) o (F.keep _ _ q)
    have hk : ∀ {h₁ : Heap}, B.StaysIn h₁ → ∀ b o, h.get? b = some o → b ∉ frs fr → b ≠ L → h₁.get? b = some o := fun k1 b o q n1 n2 => k1 _ _ (kB _ _ q fun z => by
        rw [frs_cons rfl] at z
        rcases List.mem_cons.mp z with z | z
        · exact n2 z
        · exact n1 z)
    have hS : ∀ {h₁ : Heap} {env : Env}, env.frame = some L → Slid (env :: fr) h h₁ → ∀ o, h.get? L = some o → ∃ sl, h₁.get? L = some { o with slots := sl } := fun hf S1 o q => S1 L (by rw [frs_cons hf]; exact .head _) o q
    clear X T
    refine catch0X Fy (Around.frames_deeper hfr) rfl (X0.keeps st0) (fun h₁ Q₁ E₁ k1 S1 hq => ?_) (fun h₁ F1 S1 => ?_)
    · have X := X0.keeps (stays_slide (h₂ := h₁) st hnw)
      have T := T0.keeps (stays_slide (h₂ := h₁) st hnw)
      replace N := led_slide hff N (hk k1)
      replace F := fr_slide hff (SlH rfl (Sl.trans S1)) F (hk k1) (hS rfl (Sl.trans S1))
      repeat walk_at "S"
      exact hq
    · have X := X0.keeps (stays_slide (h₂ := h₁) st hnw)
      have T := T0.keeps (stays_slide (h₂ := h₁) st hnw)
      have SS := SlH rfl (Sl.trans S1)
      replace N := led_slide hff N (hk F1.stay)
      replace F := fr_slide hff SS F (hk F1.stay) (hS rfl (Sl.trans S1))
      clear hS hk SlH st0 kH kB Fy F1 Sl S1
      generalize hg : slide H h₁ (frs fr) = g at F N X T
      repeat walk_at "S"
      rw [← hg] at F
      repeat (first | (with_reducible refine' Seal.ret ?K ?_; case K => with_reducible assumption) | with_reducible refine turnRet ?_)
      exact post1 _ _ (keptF_slide hff SS F.keep) hnot
set_option linter.unusedVariables false
noncomputable def lawFd (P : Params) : FuncData := match (hd.heap_1 P).lookup 211 with
  | some ⟨_, _, .func fd, _⟩ => fd
  | _ => default
noncomputable def lawBody (P : Params) : List Stmt := match (lawFd P).body with
  | .stmts b => b
  | _ => []
noncomputable def lawEnv (P : Params) (L fa : Addr) (cd : Value) : Env := envOfC (lawFd P).qualname (lawFd P).scope L fa cd
section
variable {P : Params} {name qual : Str} {params : Arguments} {body rest : List Stmt} {scope : Scope} {dV kV doc pm cdv ct oc : Value} {an od : Option Addr} {osl : Array (Option Value)} {M : Model} {A : Around} {L fa : Addr} {cd : Value} {env : Env} {n : Nat} {Q : Flow → Shared → Prop} {E : Value → Shared → Prop} {s : Shared}
theorem law_cut (h : (hd.heap_1 P).lookup 211 = some ⟨oc, od, .func (fnOf name qual params body scope dV kV doc pm an cdv ct), osl⟩)
    (hq : wpAny M (A.deeper (envOfC qual scope L fa cd)) (execs (body.drop n) (envOfC qual scope L fa cd)) Q E s) :
    wpAny M (A.deeper (lawEnv P L fa cd)) (execs ((lawBody P).drop n) (lawEnv P L fa cd)) Q E s := by
  unfold lawBody lawEnv lawFd
  rw [h]
  exact hq
theorem law_uncut (h : (hd.heap_1 P).lookup 211 = some ⟨oc, od, .func (fnOf name qual params body scope dV kV doc pm an cdv ct), osl⟩) (n : Nat)
    (hb : body.drop n = rest) (he : envOfC qual scope L fa cd = env) (hq : wpAny M (A.deeper (lawEnv P L fa cd)) (execs ((lawBody P).drop n) (lawEnv P L fa cd)) Q E s) :
    wpAny M (A.deeper env) (execs rest env) Q E s := by
  unfold lawBody lawEnv lawFd at hq
  rw [h] at hq
  rw [← hb, ← he]
  exact hq
end
abbrev sn (x : String) : Str := Str.ofString x
/-- pen and table -/
def LB (L : Addr) (tab : List (Int × E3)) (p c d : Addr) (led : Ls) : Prop :=
  (L + 1, Res.cel (some (.ref p))) ∈ led ∧ (L + 2, Res.cel (some (.ref d))) ∈ led ∧ (∃ v, (L + 3, Res.cel v) ∈ led) ∧ PenL led p c ∧ p ≠ c ∧ ∃ kvs, (d, Res.dct kvs) ∈ led ∧ A2 (KT led) kvs tab
structure TabFacts (tab : List (Int × E3)) : Prop where
  ok : TabOk tab
  l1 : 1 ≤ tab.length
  l9 : tab.length ≤ 9
/-- entries and widths -/
def LE (tab : List (Int × E3)) (w0 w1 w2 : Nat) (de wt : Addr) (m : Str → Option Value) (led : Ls) : Prop :=
  m (Str.ofString "entries") = some (.ref de) ∧ m (Str.ofString "widths") = some (.ref wt) ∧ (∃ kve, (de, Res.dct kve) ∈ led ∧ A2 (KE led) kve tab) ∧ ∃ t0 t1 t2, (wt, Res.tup [.int (w0 : Int) t0, .int (w1 : Int) t1, .int (w2 : Int) t2]) ∈ led
def LR (b : List UInt8) (m : Str → Option Value) : Prop := ∃ t, m (Str.ofString "rows") = some (.bytes b.toArray t)
def LRu (ns : List Int) (ru : Addr) (m : Str → Option Value) (led : Ls) : Prop := m (Str.ofString "runs") = some (.ref ru) ∧ ∃ rv, (ru, Res.lst rv) ∈ led ∧ A2 IV rv ns
theorem LB.sub {L : Addr} {tab : List (Int × E3)} {p c d : Addr} {led led' : Ls} (x : LB L tab p c d led) (k : ∀ q ∈ led, q ∈ led') : LB L tab p c d led' := by
  obtain ⟨a, b, ⟨v, hv⟩, e, f, kvs, h, i⟩ := x
  exact ⟨k _ a, k _ b, ⟨v, k _ hv⟩, e.sub fun _ _ q => k _ q, f, kvs, k _ h, i.mono fun _ _ ⟨z1, a, tw, u1, u2, z2, z3⟩ => ⟨z1, a, tw, u1, u2, z2, k _ z3⟩⟩
section
variable {w : World} {g h h' : Heap} {L : Addr} {m : Str → Option Value} {led tl : Ls} {p c : Addr}
theorem penNew (x : PenL led p c) (F : Fr g L h m) (N : Led w g L h led) (hb : But p c h h') (hp : PenAt w h' p c) (hn : New w h h' tl) :
    ∃ led', Fr g L h' m ∧ Led w g L h' (tl ++ led') ∧ PenL led' p c ∧ ∀ q ∈ led, q.1 ≠ p → q.1 ≠ c → q ∈ led' := by
  obtain ⟨cells, ns, cnt, rest, tc, tr, a, b, r⟩ := x
  obtain ⟨ne, _, _, cells', ns', cnt', rest', tc', tr', a', b', r'⟩ := hp
  have na := N.N _ a
  have nb := N.N _ b
  obtain ⟨l1, P1, k1⟩ := permFront a
  obtain ⟨l2, P2, k2⟩ := permFront (k1 _ b (by simp [Ne.symm ne]))
  have N2 := N.perm (P1.trans (P2.cons _))
  have o1 := N2.off
  have o2 := (N2.subl (List.sublist_cons_self _ _)).off
  refine ⟨(p, .lst [.ref c, .int cnt' tc', .int rest' tr']) :: (c, .lst cells') :: l2, ⟨F.ns.at' fun o e => hb _ _ (Ne.symm na.2.2.1) (Ne.symm nb.2.2.1) e, fun q o e => hb q o (fun z => ?_) (fun z => ?_) (F.keep q o e), F.above⟩, ⟨fun q hq => ?_, ?_, N.B⟩,
    ⟨cells', ns', cnt', rest', tc', tr', .head _, .tail _ (.head _), r'⟩, fun q hq n1 n2 => ?_⟩
  · rw [z, na.2.2.2] at e; cases e
  · rw [z, nb.2.2.2] at e; cases e
  · rcases List.mem_append.mp hq with hq | hq
    · exact ⟨(hn.N q hq).1, (hn.N q hq).2.1, fresh_none F (hn.N q hq).2.2⟩
    rcases List.mem_cons.mp hq with rfl | hq
    · exact ⟨a', na.2⟩
    · rcases List.mem_cons.mp hq with rfl | hq
      · exact ⟨b', nb.2⟩
      · have z := N2.N q (.tail _ (.tail _ hq))
        exact ⟨at_of z.1 fun o e => hb _ _ (o1 q (.tail _ hq)) (o2 q hq) e, z.2⟩
  · rw [keys_app]
    refine List.nodup_append.mpr ⟨hn.D, N2.D, fun x ha y hb e => ?_⟩
    obtain ⟨u, hu, rfl⟩ := List.mem_map.mp ha
    have : ∃ q, q ∈ (p, Res.lst [.ref c, .int cnt tc, .int rest tr]) :: (c, Res.lst cells) :: l2 ∧ q.1 = y := by
      obtain ⟨v, hv, e⟩ := List.mem_map.mp hb
      rcases List.mem_cons.mp hv with rfl | hv
      · exact ⟨_, .head _, e⟩
      · rcases List.mem_cons.mp hv with rfl | hv
        · exact ⟨_, .tail _ (.head _), e⟩
        · exact ⟨v, .tail _ (.tail _ hv), e⟩
    obtain ⟨q, hq, rfl⟩ := this
    obtain ⟨o, ho⟩ := res_ex (N2.N q hq).1
    have := (hn.N u hu).2.2
    rw [e, ho] at this; cases this
  · exact .tail _ (.tail _ (k2 _ (k1 _ hq fun e => n1 (by rw [e])) fun e => n2 (by rw [e])))
end
theorem off3 {w : World} {g h : Heap} {L : Addr} {x y z : Addr × Res} {led : Ls} (N : Led w g L h (x :: y :: z :: led)) : ∀ q ∈ led, q ≠ x ∧ q ≠ y ∧ q ≠ z := by
  have D := N.D
  simp only [keys, List.map_cons, List.nodup_cons, List.mem_cons, not_or] at D
  intro q hq
  have hm : q.1 ∈ led.map (·.1) := List.mem_map.mpr ⟨q, hq, rfl⟩
  exact ⟨fun e => D.1.2.2 (e ▸ hm), fun e => D.2.1.2 (e ▸ hm), fun e => D.2.2.1 (e ▸ hm)⟩
/-- pairs of a number and a value -/
def PX (R : Ls → Value → E3 → Prop) (l : Ls) (v : Value) (q : Int × E3) : Prop := ∃ a x t, v = .ref a ∧ (a, Res.tup [.int q.1 t, x]) ∈ l ∧ R l x q.2
theorem PX.pairs {R : Ls → Value → E3 → Prop} {l : Ls} {ys : List Value} {tab : List (Int × E3)} (x : A2 (PX R l) ys tab) : ∃ ps, A2 (fun (p : Int × Value) (q : Int × E3) => p.1 = q.1 ∧ R l p.2 q.2) ps tab ∧ ys.length = ps.length ∧ ps.map (·.1) = tab.map (·.1) ∧ ∀ (i : Nat) (v : Value), ys[i]? = some v → ∃ (a : Addr) (k : Int) (t : Tok) (x : Value), v = .ref a ∧ (a, Res.tup [.int k t, x]) ∈ l ∧ ps[i]? = some (k, x) := by
  induction x with
  | nil => exact ⟨[], .nil, rfl, rfl, fun i v e => by simp at e⟩
  | @cons a q ys tab r _ ih =>
    obtain ⟨ps, h1, h2, h3, h4⟩ := ih
    obtain ⟨b, b2, t, rfl, m, T⟩ := r
    refine ⟨(q.1, b2) :: ps, .cons ⟨rfl, T⟩ h1, by simp [h2], by simp [h3], fun i v e => ?_⟩
    cases i with
    | zero =>
      simp at e; subst e
      exact ⟨b, q.1, t, b2, rfl, m, rfl⟩
    | succ i => simpa using h4 i v (by simpa using e)
/-- pen and table, while the table is walked -/
def LBE (L : Addr) (tab : List (Int × E3)) (p c d : Addr) (kvs : List (Int × Value)) (ep : Nat) (led : Ls) : Prop :=
  (L + 1, Res.cel (some (.ref p))) ∈ led ∧ (L + 2, Res.cel (some (.ref d))) ∈ led ∧ (∃ v, (L + 3, Res.cel v) ∈ led) ∧ PenL led p c ∧ p ≠ c ∧ (d, Res.dce kvs ep) ∈ led ∧ A2 (KT led) kvs tab
theorem LBE.sub {L : Addr} {tab : List (Int × E3)} {p c d : Addr} {kvs : List (Int × Value)} {ep : Nat} {led led' : Ls} (x : LBE L tab p c d kvs ep led) (k : ∀ q ∈ led, q ∈ led') : LBE L tab p c d kvs ep led' := by
  obtain ⟨a, b, ⟨v, hv⟩, e, f, h, i⟩ := x
  exact ⟨k _ a, k _ b, ⟨v, k _ hv⟩, e.sub fun _ _ q => k _ q, f, k _ h, i.mono fun _ _ ⟨z1, a, tw, u1, u2, z2, z3⟩ => ⟨z1, a, tw, u1, u2, z2, k _ z3⟩⟩
theorem LB.open {w : World} {g h : Heap} {L L' : Addr} {tab : List (Int × E3)} {p c d : Addr} {led : Ls} (x : LB L tab p c d led) (N : Led w g L' h led) : ∃ kvs ep led', Led w g L' h led' ∧ LBE L tab p c d kvs ep led' ∧ ∀ q ∈ led, (∀ kvs, q.2 = .dct kvs → q.1 ≠ d) → q ∈ led' := by
  obtain ⟨a, b, ⟨v, hv⟩, e, f, kvs, hm, i⟩ := x
  obtain ⟨ep, led', N', hd, k⟩ := N.dctE hm
  exact ⟨kvs, ep, led', N', ⟨k _ a (by simp), k _ b (by simp), ⟨v, k _ hv (by simp)⟩, e.sub fun _ _ q => k _ q (by simp), f, hd, i.mono fun _ _ ⟨z1, a, tw, u1, u2, z2, z3⟩ => ⟨z1, a, tw, u1, u2, z2, k _ z3 (fun e => by cases (congrArg Prod.snd e))⟩⟩, fun q hq n => k _ hq fun e => n kvs (by rw [e]) (by rw [e])⟩
theorem LBE.close {w : World} {g h : Heap} {L L' : Addr} {tab : List (Int × E3)} {p c d : Addr} {kvs : List (Int × Value)} {ep : Nat} {led : Ls} (x : LBE L tab p c d kvs ep led) (N : Led w g L' h led) : ∃ led', Led w g L' h led' ∧ LB L tab p c d led' ∧ ∀ q ∈ led, (∀ kvs ep, q.2 ≠ .dce kvs ep) → q ∈ led' := by
  obtain ⟨a, b, ⟨v, hv⟩, e, f, hm, i⟩ := x
  obtain ⟨led', N', hd, k⟩ := N.dctD hm
  exact ⟨led', N', ⟨k _ a (by simp), k _ b (by simp), ⟨v, k _ hv (by simp)⟩, e.sub fun _ _ q => k _ q (by simp), f, kvs, hd, i.mono fun _ _ ⟨z1, a, tw, u1, u2, z2, z3⟩ => ⟨z1, a, tw, u1, u2, z2, k _ z3 (fun e => by cases (congrArg Prod.snd e))⟩⟩, fun q hq n => k _ hq fun e => n kvs ep (by rw [e])⟩
def EE (de d : Addr) (kve : List (Int × Value)) (tab : List (Int × E3)) (led : Ls) : Prop := (de, Res.dct kve) ∈ led ∧ A2 (KE led) kve tab ∧ d ≠ de
theorem EE.sub {de d : Addr} {kve : List (Int × Value)} {tab : List (Int × E3)} {led led' : Ls} (x : EE de d kve tab led) (k1 : (de, Res.dct kve) ∈ led → (de, Res.dct kve) ∈ led') (k : ∀ q ∈ led, (∃ o, q.2 = .raw o) → q ∈ led') : EE de d kve tab led' := ⟨k1 x.1, KE.subR x.2.1 k, x.2.2⟩
theorem EE.all {de d : Addr} {kve : List (Int × Value)} {tab : List (Int × E3)} {led led' : Ls} (x : EE de d kve tab led) (k : ∀ q ∈ led, q ∈ led') : EE de d kve tab led' := x.sub (k _) fun q hq _ => k q hq
theorem EE.open {de d : Addr} {kve : List (Int × Value)} {tab : List (Int × E3)} {led led' : Ls} (x : EE de d kve tab led) (k : ∀ q ∈ led, (∀ kvs, q.2 = .dct kvs → q.1 ≠ d) → q ∈ led') : EE de d kve tab led' := x.sub (fun h => k _ h fun _ _ e => x.2.2 e.symm) fun q hq ⟨o, ho⟩ => k q hq fun _ e => by rw [ho] at e; cases e
theorem EE.close {de d : Addr} {kve : List (Int × Value)} {tab : List (Int × E3)} {led led' : Ls} (x : EE de d kve tab led) (k : ∀ q ∈ led, (∀ kvs ep, q.2 ≠ .dce kvs ep) → q ∈ led') : EE de d kve tab led' := x.sub (fun h => k _ h (by simp)) fun q hq ⟨o, ho⟩ => k q hq fun _ _ e => by rw [ho] at e; cases e
def w0L (tab : List (Int × E3)) : Nat := if tab.all (fun p => p.2.1 == 1) then 0 else 1
def onesL (tab : List (Int × E3)) : List Nat := tab.map fun p => p.2.2.1.toNat
def twosL (tab : List (Int × E3)) : List Nat := tab.map fun p => p.2.2.2.toNat
theorem least_small {ns : List Nat} {low : Nat} (hl : low ≤ 8) (h : ∀ n ∈ ns, n < 2 ^ 64) : leastW ns low ≤ 8 := by
  rw [leastW_le]
  exact ⟨hl, fun n hn => (wd_le 8 n).mpr (Nat.lt_of_lt_of_le (h n hn) (by decide))⟩
theorem ones_cast {tab : List (Int × E3)} (h : TabOk tab) : (onesL tab).map (fun (k : Nat) => (k : Int)) = tab.map (·.2.2.1) := by
  unfold onesL; rw [List.map_map]
  exact List.map_congr_left fun p hp => Int.toNat_of_nonneg (h.ok p hp).2.2.2.1
theorem twos_cast {tab : List (Int × E3)} (h : TabOk tab) : (twosL tab).map (fun (k : Nat) => (k : Int)) = tab.map (·.2.2.2) := by
  unfold twosL; rw [List.map_map]
  exact List.map_congr_left fun p hp => Int.toNat_of_nonneg (h.ok p hp).2.2.2.2.2.1
theorem ones_small {tab : List (Int × E3)} (h : TabOk tab) : ∀ n ∈ onesL tab, n < 2 ^ 64 := fun n hn => by
  obtain ⟨p, hp, rfl⟩ := List.mem_map.mp hn
  have := (h.ok p hp).2.2.2
  omega
theorem twos_small {tab : List (Int × E3)} (h : TabOk tab) : ∀ n ∈ twosL tab, n < 2 ^ 64 := fun n hn => by
  obtain ⟨p, hp, rfl⟩ := List.mem_map.mp hn
  have := (h.ok p hp).2.2.2.2.2
  omega
theorem w0L_of {tab : List (Int × E3)} {ys : List Value} (h : ys = [] ↔ ∀ p ∈ tab, p.2.1 = 1) : (if decide (ys ≠ []) = true then 1 else 0 : Int) = (w0L tab : Int) := by
  unfold w0L
  by_cases e : ys = []
  · have := h.mp e
    rw [if_pos (show tab.all (fun p => p.2.1 == 1) = true by simpa using this), if_neg (by simp [e])]
    rfl
  · rw [if_neg (show ¬ tab.all (fun p => p.2.1 == 1) = true from fun z => e (h.mpr (by simpa using z))), if_pos (by simp [e])]
    rfl
set_option linter.unusedVariables false
theorem law0
  {w : World} {mg mb : Str → Option Value} {me : ExcName → Option Value} {A : Around} {g h : Heap} {G : Array GenState} {D : Drawn} {tk : Nat} {O : OsState} {L fa : Addr} {cd : Value} {m : Str → Option Value} {led : Ls} {Q : Flow → Shared → Prop}
  (X : (hd.heap_1 w.params).In g) (T : TopH mg mb me g) (hh : A.handled = none) (hdp : A.depth + 150 < recursionLimit) (hu : A.units + 600 < cLine) (hfr : A.frames = some []) (F : Fr g L h m) (N : Led w g L h [(L + 3, .cel none), (L + 2, .cel none), (L + 1, .cel none)])
  {q : Addr} {vs : List Value} {ns : List Int} (hl : g.IsList q vs.toArray) (hA : A2 IV vs ns) (hz : vs.length ≤ 63) (hs : m (Str.ofString "script") = some (.ref q))
  (hq : ∀ h tk led p c d tab, Fr g L h m → Led w g L h led → TabFacts tab → LB L tab p c d led →
    wpAny (model PR w) (A.deeper (lawEnv w.params L fa cd)) (execs ((lawBody w.params).drop 2) (lawEnv w.params L fa cd)) Q (fun _ _ => False) ⟨h, G, D, tk, O⟩) :
  wpAny (model PR w) (A.deeper (lawEnv w.params L fa cd)) (execs ((lawBody w.params).drop 0) (lawEnv w.params L fa cd)) Q (fun _ _ => False) ⟨h, G, D, tk, O⟩:= by
  refine' law_cut ?ho ?_
  case ho => k_is
  dsimp only [List.drop]
  repeat walk_at "S"
  refine ⟨X.keeps F.keep, ?_⟩
  refine pen_c X T F.keep (by show A.handled = _; exact hh) (by show A.depth + _ + _ < _; omega) (by show A.units + 3 + _ < _; omega) (hl.at fun o e => F.keep _ _ e) hA hz fun h tk p c t1 t2 cells ks st' hnew hA2 hz2 => ?_
  replace N := N.call F st' hnew
  replace F := fr_stays F st'
  have ne : p ≠ c := fun e => N.off (c, Res.lst cells) (.head _) e.symm
  with_reducible refine' stCM F N (List.Mem.tail _ (.tail _ (.tail _ (.tail _ (.head _))))) ?_ ?_ ?_ ?_
  · exact rfl
  · exact rfl
  · exact rfl
  clear F N; intro h led2 F N hp hk2
  try (with_reducible refine' Seal.next ?K ?_; case K => with_reducible assumption)
  have P : PenL led2 p c := ⟨cells, ks, 0, 0, t1, t2, hk2 _ (.head _) (by simp), hk2 _ (.tail _ (.head _)) (by simp), hA2, hz2⟩
  have m2 := hk2 _ (.tail _ (.tail _ (.tail _ (.head _)))) (by simp)
  have m3 := hk2 _ (.tail _ (.tail _ (.head _))) (by simp)
  clear hk2 hA2 hz2 hnew
  repeat walk_at "S"
  refine ⟨X.keeps F.keep, ?_⟩
  refine table_c X T F.keep (by show A.handled = _; exact hh) (by show A.depth + _ + _ < _; omega) (by show A.units + 3 + _ < _; omega) (P.none N).1 (P.none N).2 (P.at N ne) fun h tk d kvs tab l pa hb hnew hA3 hok h1 h9 => ?_
  have np : ∀ {a : Addr} {v : Option Value}, (a, Res.cel v) ∈ led2 → a ≠ p ∧ a ≠ c := by
    obtain ⟨_, _, _, _, _, _, a, b, _⟩ := id P
    exact fun q => ⟨N.ne q a (by simp), N.ne q b (by simp)⟩
  obtain ⟨led, F, N, P, hk⟩ := penNew P F N hb pa hnew
  replace hp := hk _ hp (np hp).1 (np hp).2
  replace m2 := hk _ m2 (np m2).1 (np m2).2
  replace m3 := hk _ m3 (np m3).1 (np m3).2
  clear hk np pa hb hnew
  repeat walk_at "S"
  with_reducible refine' stCM F N (List.mem_append_right _ m2) ?_ ?_ ?_ ?_
  · exact rfl
  · exact rfl
  · exact rfl
  clear F N; intro h led3 F N hd3 hk3
  try (with_reducible refine' Seal.next ?K ?_; case K => with_reducible assumption)
  try (with_reducible refine' Seal.next ?K ?_; case K => with_reducible assumption)
  refine' law_uncut (P := w.params) (A := A) (L := L) (fa := fa) (cd := cd) ?ho 2 ?hb ?he ?_
  case ho => k_is
  case hb => rfl
  case he => rfl
  refine hq _ _ _ p c d tab F N ⟨hok, h1, h9⟩ ⟨hk3 _ (List.mem_append_right _ hp) (by simp), hd3, ⟨_, hk3 _ (List.mem_append_right _ m3) (by simp)⟩, P.sub fun _ _ q => hk3 _ (List.mem_append_right _ q) (by simp), ne, kvs, hk3 _ (.head _) (by simp), hA3.mono fun _ _ ⟨z1, a, tw, u1, u2, z2, z3⟩ => ⟨z1, a, tw, u1, u2, z2, hk3 _ (List.mem_append_left _ (.tail _ z3)) (by simp)⟩⟩
set_option linter.unusedVariables false
theorem law1
  {w : World} {mg mb : Str → Option Value} {me : ExcName → Option Value} {A : Around} {g h : Heap} {G : Array GenState} {D : Drawn} {tk : Nat} {O : OsState} {L fa : Addr} {cd : Value} {m : Str → Option Value} {led : Ls} {Q : Flow → Shared → Prop}
  (X : (hd.heap_1 w.params).In g) (T : TopH mg mb me g) (hh : A.handled = none) (hdp : A.depth + 150 < recursionLimit) (hu : A.units + 600 < cLine) (hfr : A.frames = some []) (F : Fr g L h m) (N : Led w g L h led)
  {p c d : Addr} {tab : List (Int × E3)} (hT : TabFacts tab) (B : LB L tab p c d led)
  (hq : ∀ h tk led de kve, Fr g L h (fun y => if y = Str.ofString "entries" then some (.ref de) else m y) → Led w g L h led → LB L tab p c d led → EE de d kve tab led →
    wpAny (model PR w) (A.deeper (lawEnv w.params L fa cd)) (execs ((lawBody w.params).drop 3) (lawEnv w.params L fa cd)) Q (fun _ _ => False) ⟨h, G, D, tk, O⟩) :
  wpAny (model PR w) (A.deeper (lawEnv w.params L fa cd)) (execs ((lawBody w.params).drop 2) (lawEnv w.params L fa cd)) Q (fun _ _ => False) ⟨h, G, D, tk, O⟩:= by
  obtain ⟨kvs, ep, led1, N1, BE, _⟩ := B.open N
  clear N B
  have N := N1
  clear N1
  obtain ⟨hp, hd, ⟨v3, h3⟩, P, ne, hdE, hKT⟩ := id BE
  have hnd : (kvs.map (·.1)).Nodup := Heap.DictAt.nodup (N.dAt hdE)
  have hlen : kvs.length = tab.length := hKT.len
  have h9 := hT.l9
  refine' law_cut ?ho ?_
  case ho => k_is
  dsimp only [List.drop]
  repeat walk_at "S"
  with_reducible refine' compDict ?hh F N (N.hi hdE) (N.dAt hdE) ?ce ?ki ?hx ?hn (fun i ys led => LBE L tab p c d kvs ep led ∧ A2 (PX EntR led) ys (tab.take i)) ?_ ?_ ?_ ?_
  case hh => exact hh
  case ce => decide
  case ki => exact rfl
  case hx => exact rfl
  case hn => omega
  · exact ⟨BE, .nil⟩
  · exact fun _ _ _ _ J N _ => N.dAt J.1.2.2.2.2.2.1
  · clear F N BE hp hd h3 P ne hdE hKT
    rintro I C D i n v' t ys mC led₁ oI h tk E' hb ⟨BE, hY⟩ hm F N
    obtain ⟨hp, hd, ⟨v3, h3⟩, P, ne, hdE, hKT⟩ := id BE
    obtain ⟨⟨n', e⟩, hq', hnn, a, tw, u1, u2, rfl, ha⟩ := hKT.get hb
    cases hnn
    have off := off3 N
    have hd' := N.mt (.tail _ (.tail _ hd))
    refine wpAny_tests_nil ?_
    dsimp only at ha
    have ht : IsTup h a _ := N.get (r := .tup _) (.tail _ (.tail _ (.tail _ ha)))
    repeat walk_at "S"
    refine dItem (kvs := kvs) (Heap.DictAt.dictOf (N.dAt (.tail _ (.tail _ (.tail _ hdE))))) (valueAt_of_get hnd hb) (fun _ => ?_) rfl
    repeat walk_at "S"
    refine tItem ht (by omega) (by omega) rfl ?_ rfl
    repeat walk_at "S"
    refine dItem (kvs := kvs) (Heap.DictAt.dictOf (N.dAt (.tail _ (.tail _ (.tail _ hdE))))) (valueAt_of_get hnd hb) (fun _ => ?_) rfl
    repeat walk_at "S"
    refine tItem ht (by omega) (by omega) rfl ?_ rfl
    repeat walk_at "S"
    refine dItem (kvs := kvs) (Heap.DictAt.dictOf (N.dAt (.tail _ (.tail _ (.tail _ hdE))))) (valueAt_of_get hnd hb) (fun _ => ?_) rfl
    repeat walk_at "S"
    refine tItem ht (by omega) (by omega) rfl ?_ rfl
    repeat walk_at "S"
    refine ⟨X.keeps F.keep, ?_⟩
    refine entry_c X T F.keep (by show A.handled = _; exact hh) (by show A.depth + _ + _ < _; omega) (by show A.units + 3 + _ < _; omega) fun h tk x dd es nn st' hnew hent => ?_
    replace N := N.call F st' hnew
    replace F := fr_stays F st'
    repeat walk_at "S"
    with_reducible refine newTupleR F N (by rw [sizeLine_eq]; exact Nat.le_of_ble_eq_true rfl) fun tp h F N => ?_
    repeat (first | (with_reducible refine' Seal.ret ?K ?_; case K => with_reducible assumption) | with_reducible refine turnRet ?_)
    repeat walk_at "S"
    refine cEnd F N (.tail _ (.tail _ (.tail _ (.head _)))) (.tail _ (.tail _ (.tail _ (.tail _ (.head _))))) (.tail _ (.tail _ (.tail _ (.tail _ (.tail _ (.head _)))))) fun led2 hk2 => ?_
    have k1 : ∀ q ∈ led₁, q ∈ led2 := fun q hq => hk2 q (.tail _ (.tail _ (.tail _ (.tail _ (.tail _ (.tail _ hq)))))) (off q hq).1 (off q hq).2.1 (off q hq).2.2
    have N1 : Led w g L h ((x, Res.raw (instObj 38 dd)) :: (dd, Res.raw (dictOf es nn)) :: (I, Res.raw oI) :: (C, Res.nsp mC) :: (D, Res.lst ys) :: led₁) := N.subl (List.sublist_cons_self _ _)
    have xI : I ≠ x := N1.off _ (.tail _ (.head _))
    have dI : I ≠ dd := (N1.subl (List.sublist_cons_self _ _)).off _ (.head _)
    refine ⟨BE.sub k1, ?_⟩
    rw [take_snoc hq']
    have hx := hk2 _ (.tail _ (.head _)) (fun e => xI (congrArg Prod.fst e).symm) (by simp) (by simp)
    have hdd := hk2 _ (.tail _ (.tail _ (.head _))) (fun e => dI (congrArg Prod.fst e).symm) (by simp) (by simp)
    refine (hY.mono fun _ _ ⟨a, x, t, z1, z2, z3⟩ => ⟨a, x, t, z1, k1 _ z2, z3.sub k1⟩).snoc ⟨tp, .ref x, t, rfl, hk2 _ (.head _) (by simp) (by simp) (by simp), tw, u1, u2, hent.sub fun q hq => ?_⟩
    rcases List.mem_cons.mp hq with rfl | hq
    · exact hx
    · rw [List.mem_singleton.mp hq]; exact hdd
  · clear F N BE hp hd h3 P ne hdE hKT
    rintro D ys led₁ h tk ⟨BE, hY⟩ F N
    rw [hlen, List.take_length] at hY
    obtain ⟨ps, hKE, hl, hf, hat⟩ := PX.pairs hY
    repeat walk_at "S"
    have hnd' : (ps.map (·.1)).Nodup := by rw [hf, ← BE.2.2.2.2.2.2.fsts fun _ _ r => r.1]; exact hnd
    refine dictPairs hh F N (.head _) (by rw [hl, hKE.len]; omega) hl hnd' (fun i v e => ?_) fun h tk dd F N => ?_
    · obtain ⟨a, k, t, x, rfl, m, e⟩ := hat i v e
      exact ⟨a, k, t, x, rfl, N.get (r := .tup _) (.tail _ m), e⟩
    repeat walk_at "S"
    with_reducible refine' stR F N ?_ ?_ ?_ ?_
    · exact rfl
    · exact rfl
    · exact rfl
    clear F N; intro h tk F N
    try (with_reducible refine' Seal.next ?K ?_; case K => with_reducible assumption)
    have dne : d ≠ dd := N.off _ (.tail _ BE.2.2.2.2.2.1)
    obtain ⟨led2, N, B, hk2⟩ := LBE.close (BE.sub fun q hq => .tail _ (.tail _ hq)) N
    try (with_reducible refine' Seal.next ?K ?_; case K => with_reducible assumption)
    refine' law_uncut (P := w.params) (A := A) (L := L) (fa := fa) (cd := cd) ?ho 3 ?hb ?he ?_
    case ho => k_is
    case hb => rfl
    case he => rfl
    refine hq _ _ led2 dd ps F N B ⟨hk2 _ (.head _) (by simp), hKE.mono fun _ _ r => ⟨r.1, r.2.subR fun p hp ⟨o, ho⟩ => hk2 _ (.tail _ (.tail _ hp)) fun _ _ e => by rw [ho] at e; cases e⟩, dne⟩
set_option linter.unusedVariables false
theorem law2
  {w : World} {mg mb : Str → Option Value} {me : ExcName → Option Value} {A : Around} {g h : Heap} {G : Array GenState} {D : Drawn} {tk : Nat} {O : OsState} {L fa : Addr} {cd : Value} {m : Str → Option Value} {led : Ls} {Q : Flow → Shared → Prop}
  (X : (hd.heap_1 w.params).In g) (T : TopH mg mb me g) (hh : A.handled = none) (hdp : A.depth + 150 < recursionLimit) (hu : A.units + 600 < cLine) (hfr : A.frames = some []) (F : Fr g L h m) (N : Led w g L h led)
  {p c d de : Addr} {kve : List (Int × Value)} {tab : List (Int × E3)} (hT : TabFacts tab) (B : LB L tab p c d led) (EN : EE de d kve tab led)
  (hq : ∀ h tk led wt t0 t1 t2, Fr g L h (fun y => if y = Str.ofString "widths" then some (.ref wt) else m y) → Led w g L h led → LB L tab p c d led → EE de d kve tab led → (wt, Res.tup [.int (w0L tab : Int) t0, .int (leastW (onesL tab) 1 : Int) t1, .int (leastW (twosL tab) 0 : Int) t2]) ∈ led →
    wpAny (model PR w) (A.deeper (lawEnv w.params L fa cd)) (execs ((lawBody w.params).drop 4) (lawEnv w.params L fa cd)) Q (fun _ _ => False) ⟨h, G, D, tk, O⟩) :
  wpAny (model PR w) (A.deeper (lawEnv w.params L fa cd)) (execs ((lawBody w.params).drop 3) (lawEnv w.params L fa cd)) Q (fun _ _ => False) ⟨h, G, D, tk, O⟩:= by
  obtain ⟨kvs, ep, led1, N1, BE, hk1⟩ := B.open N
  replace EN := EN.open hk1
  clear N B hk1
  have N := N1
  clear N1
  have hdE := BE.2.2.2.2.2.1
  have hd := BE.2.1
  have hnd : (kvs.map (·.1)).Nodup := Heap.DictAt.nodup (N.dAt hdE)
  have hlen : kvs.length = tab.length := BE.2.2.2.2.2.2.len
  have h9 := hT.l9
  refine' law_cut ?ho ?_
  case ho => k_is
  dsimp only [List.drop]
  repeat walk_at "S"
  with_reducible refine' compDict ?hh F N (N.hi hdE) (N.dAt hdE) ?ce ?ki ?hx ?hn (fun i ys led => LBE L tab p c d kvs ep led ∧ EE de d kve tab led ∧ (ys = [] ↔ ∀ p ∈ tab.take i, p.2.1 = 1)) ?_ ?_ ?_ ?_
  case hh => exact hh
  case ce => decide
  case ki => exact rfl
  case hx => exact rfl
  case hn => omega
  · exact ⟨BE, EN, by simp⟩
  · exact fun _ _ _ _ J N _ => N.dAt J.1.2.2.2.2.2.1
  · clear F N BE EN hdE hd
    rintro I C D i n v' t ys mC led₁ oI h tk E' hb ⟨BE, EN, hY⟩ hm F N
    obtain ⟨hp, hd, ⟨v3, h3⟩, P, ne, hdE, hKT⟩ := id BE
    obtain ⟨⟨n', e⟩, hq', hnn, a, tw, u1, u2, rfl, ha⟩ := hKT.get hb
    cases hnn
    have off := off3 N
    have hd' := N.mt (.tail _ (.tail _ hd))
    dsimp only at ha
    have ht : IsTup h a _ := N.get (r := .tup _) (.tail _ (.tail _ (.tail _ ha)))
    refine wpAny_tests_one ?_
    repeat walk_at "S"
    refine dItem (kvs := kvs) (Heap.DictAt.dictOf (N.dAt (.tail _ (.tail _ (.tail _ hdE))))) (valueAt_of_get hnd hb) (fun _ => ?_) rfl
    repeat walk_at "S"
    refine tItem ht (by omega) (by omega) rfl ?_ rfl
    repeat walk_at "S"
    have k1 : ∀ led2 : Ls, (∀ p ∈ (I, Res.raw oI) :: (C, Res.nsp mC) :: (D, Res.lst ys) :: led₁, p ≠ (I, Res.raw oI) → p ≠ (C, Res.nsp mC) → p ≠ (D, Res.lst ys) → p ∈ led2) → ∀ q ∈ led₁, q ∈ led2 := fun led2 hk2 q hq => hk2 q (.tail _ (.tail _ (.tail _ hq))) (off q hq).1 (off q hq).2.1 (off q hq).2.2
    refine iteB (fun hc => ?_) (fun hc => ?_)
    · repeat walk_at "S"
      refine cEnd F N (.head _) (.tail _ (.head _)) (.tail _ (.tail _ (.head _))) fun led2 hk2 => ⟨BE.sub (k1 _ hk2), EN.all (k1 _ hk2), ?_⟩
      rw [take_snoc hq']
      refine ⟨fun z => absurd z (by simp), fun z => ?_⟩
      have := z (n, e) (by simp)
      exact absurd ((wayS_used _).mpr this) (by simpa using hc)
    · repeat walk_at "S"
      refine cSkip F N (.head _) (.tail _ (.head _)) (.tail _ (.tail _ (.head _))) fun led2 hk2 => ⟨BE.sub (k1 _ hk2), EN.all (k1 _ hk2), ?_⟩
      rw [take_snoc hq', hY]
      have hc' : e.1 = 1 := (wayS_used _).mp (by simpa using hc)
      simp only [List.mem_append, List.mem_singleton]
      exact ⟨fun z y hy => hy.elim (z y) fun e' => e' ▸ hc', fun z y hy => z y (.inl hy)⟩
  clear F N BE EN hdE hd
  rintro D1 ys1 led₁ h tk ⟨BE, EN, hY⟩ F N
  rw [hlen, List.take_length] at hY
  replace BE := BE.sub fun q hq => N.mt hq
  replace EN := EN.all fun q hq => N.mt hq
  repeat walk_at "S"
  with_reducible refine newListR F N (by rw [sizeLine_eq]; exact Nat.le_of_ble_eq_true rfl) fun e1 h F N => ?_
  repeat (first | (with_reducible refine' Seal.ret ?K ?_; case K => with_reducible assumption) | with_reducible refine turnRet ?_)
  repeat walk_at "S"
  refine neNil (led_list N (l := D1) (vs := ys1) (.tail _ (.head _))) (led_list N (.head _)) (by show A.units + _ < _; omega) ?_
  repeat walk_at "S"
  refine call_int_bool ?_
  replace BE := BE.sub fun q hq => N.mt hq
  replace EN := EN.all fun q hq => N.mt hq
  have hd := BE.2.1
  have hdE := BE.2.2.2.2.2.1
  have hw0 : (if decide (ys1 ≠ []) = true then 1 else 0 : Int) = (w0L tab : Int) := w0L_of hY
  repeat walk_at "S"
  with_reducible refine' compDict ?hh F N (N.hi hdE) (N.dAt hdE) ?ce ?ki ?hx ?hn (fun i ys led => LBE L tab p c d kvs ep led ∧ EE de d kve tab led ∧ A2 IV ys ((tab.take i).map (·.2.2.1))) ?_ ?_ ?_ ?_
  case hh => exact hh
  case ce => decide
  case ki => exact rfl
  case hx => exact rfl
  case hn => omega
  · exact ⟨BE, EN, .nil⟩
  · exact fun _ _ _ _ J N _ => N.dAt J.1.2.2.2.2.2.1
  · clear F N BE EN hdE hd
    rintro I C D i n v' t ys mC led₁ oI h tk E' hb ⟨BE, EN, hY⟩ hm F N
    obtain ⟨hp, hd, ⟨v3, h3⟩, P, ne, hdE, hKT⟩ := id BE
    obtain ⟨⟨n', e⟩, hq', hnn, a, tw, u1, u2, rfl, ha⟩ := hKT.get hb
    cases hnn
    have off := off3 N
    have hd' := N.mt (.tail _ (.tail _ hd))
    dsimp only at ha
    have ht : IsTup h a _ := N.get (r := .tup _) (.tail _ (.tail _ (.tail _ ha)))
    refine wpAny_tests_nil ?_
    repeat walk_at "S"
    refine dItem (kvs := kvs) (Heap.DictAt.dictOf (N.dAt (.tail _ (.tail _ (.tail _ hdE))))) (valueAt_of_get hnd hb) (fun _ => ?_) rfl
    repeat walk_at "S"
    refine tItem ht (by omega) (by omega) rfl ?_ rfl
    repeat walk_at "S"
    have k1 : ∀ led2 : Ls, (∀ p ∈ (I, Res.raw oI) :: (C, Res.nsp mC) :: (D, Res.lst ys) :: led₁, p ≠ (I, Res.raw oI) → p ≠ (C, Res.nsp mC) → p ≠ (D, Res.lst ys) → p ∈ led2) → ∀ q ∈ led₁, q ∈ led2 := fun led2 hk2 q hq => hk2 q (.tail _ (.tail _ (.tail _ hq))) (off q hq).1 (off q hq).2.1 (off q hq).2.2
    refine cEnd F N (.head _) (.tail _ (.head _)) (.tail _ (.tail _ (.head _))) fun led2 hk2 => ⟨BE.sub (k1 _ hk2), EN.all (k1 _ hk2), ?_⟩
    rw [take_snoc hq', List.map_append]
    exact hY.snoc ⟨_, rfl⟩
  clear F N BE EN hdE hd
  rintro D2 ys2 led₁ h tk ⟨BE, EN, hY2⟩ F N
  rw [hlen, List.take_length] at hY2
  replace BE := BE.sub fun q hq => N.mt hq
  replace EN := EN.all fun q hq => N.mt hq
  have l1 := least_small (low := 1) (by decide) (ones_small hT.ok)
  have l2 := least_small (low := 0) (by decide) (twos_small hT.ok)
  have n1 : (onesL tab).length ≤ 1000 := by unfold onesL; rw [List.length_map]; omega
  have n2 : (twosL tab).length ≤ 1000 := by unfold twosL; rw [List.length_map]; omega
  repeat walk_at "S"
  refine ⟨X.keeps F.keep, ?_⟩
  refine law_least_c X T F.keep (by show A.handled = _; exact hh) (by show A.depth + _ + _ < _; omega) (by show A.units + 3 + _ < _; omega) (low := 1) (led_list N N.m0) (by rw [ones_cast hT.ok]; exact hY2) n1 (by decide) (by omega) fun h tk t st' => ?_
  replace F := fr_stays F st'
  replace N := N.stays st'
  clear st'
  have hd := BE.2.1
  have hdE := BE.2.2.2.2.2.1
  repeat walk_at "S"
  with_reducible refine' compDict ?hh F N (N.hi hdE) (N.dAt hdE) ?ce ?ki ?hx ?hn (fun i ys led => LBE L tab p c d kvs ep led ∧ EE de d kve tab led ∧ A2 IV ys ((tab.take i).map (·.2.2.2))) ?_ ?_ ?_ ?_
  case hh => exact hh
  case ce => decide
  case ki => exact rfl
  case hx => exact rfl
  case hn => omega
  · exact ⟨BE, EN, .nil⟩
  · exact fun _ _ _ _ J N _ => N.dAt J.1.2.2.2.2.2.1
  · clear F N BE EN hdE hd
    rintro I C D i n v' t ys mC led₁ oI h tk E' hb ⟨BE, EN, hY⟩ hm F N
    obtain ⟨hp, hd, ⟨v3, h3⟩, P, ne, hdE, hKT⟩ := id BE
    obtain ⟨⟨n', e⟩, hq', hnn, a, tw, u1, u2, rfl, ha⟩ := hKT.get hb
    cases hnn
    have off := off3 N
    have hd' := N.mt (.tail _ (.tail _ hd))
    dsimp only at ha
    have ht : IsTup h a _ := N.get (r := .tup _) (.tail _ (.tail _ (.tail _ ha)))
    refine wpAny_tests_nil ?_
    repeat walk_at "S"
    refine dItem (kvs := kvs) (Heap.DictAt.dictOf (N.dAt (.tail _ (.tail _ (.tail _ hdE))))) (valueAt_of_get hnd hb) (fun _ => ?_) rfl
    repeat walk_at "S"
    refine tItem ht (by omega) (by omega) rfl ?_ rfl
    repeat walk_at "S"
    have k1 : ∀ led2 : Ls, (∀ p ∈ (I, Res.raw oI) :: (C, Res.nsp mC) :: (D, Res.lst ys) :: led₁, p ≠ (I, Res.raw oI) → p ≠ (C, Res.nsp mC) → p ≠ (D, Res.lst ys) → p ∈ led2) → ∀ q ∈ led₁, q ∈ led2 := fun led2 hk2 q hq => hk2 q (.tail _ (.tail _ (.tail _ hq))) (off q hq).1 (off q hq).2.1 (off q hq).2.2
    refine cEnd F N (.head _) (.tail _ (.head _)) (.tail _ (.tail _ (.head _))) fun led2 hk2 => ⟨BE.sub (k1 _ hk2), EN.all (k1 _ hk2), ?_⟩
    rw [take_snoc hq', List.map_append]
    exact hY.snoc ⟨_, rfl⟩
  clear F N BE EN hdE hd
  rintro D3 ys3 led₁ h tk ⟨BE, EN, hY3⟩ F N
  rw [hlen, List.take_length] at hY3
  replace BE := BE.sub fun q hq => N.mt hq
  replace EN := EN.all fun q hq => N.mt hq
  repeat walk_at "S"
  refine ⟨X.keeps F.keep, ?_⟩
  refine law_least_c X T F.keep (by show A.handled = _; exact hh) (by show A.depth + _ + _ < _; omega) (by show A.units + 3 + _ < _; omega) (low := 0) (led_list N N.m0) (by rw [twos_cast hT.ok]; exact hY3) n2 (by decide) (by omega) fun h tk t st' => ?_
  replace F := fr_stays F st'
  replace N := N.stays st'
  clear st'
  repeat walk_at "S"
  with_reducible refine newTupleR F N (by rw [sizeLine_eq]; exact Nat.le_of_ble_eq_true rfl) fun wt h F N => ?_
  repeat (first | (with_reducible refine' Seal.ret ?K ?_; case K => with_reducible assumption) | with_reducible refine turnRet ?_)
  repeat walk_at "S"
  with_reducible refine' stR F N ?_ ?_ ?_ ?_
  · exact rfl
  · exact rfl
  · exact rfl
  clear F N; intro h tk F N
  try (with_reducible refine' Seal.next ?K ?_; case K => with_reducible assumption)
  replace BE := BE.sub fun q hq => N.mt hq
  replace EN := EN.all fun q hq => N.mt hq
  have mw := N.m0
  obtain ⟨led2, N, B, hk2⟩ := LBE.close BE N
  replace mw := hk2 _ mw (by simp)
  try (with_reducible refine' Seal.next ?K ?_; case K => with_reducible assumption)
  refine' law_uncut (P := w.params) (A := A) (L := L) (fa := fa) (cd := cd) ?ho 4 ?hb ?he ?_
  case ho => k_is
  case hb => rfl
  case he => rfl
  rw [hw0] at mw
  exact hq _ _ led2 wt _ _ _ F N B (EN.close hk2) mw
set_option linter.unusedVariables false
section
variable {w : World} {A : Around} {E : Value → Shared → Prop} {h : Heap} {G : Array GenState} {D : Drawn} {tk : Nat} {O : OsState} {q : Addr} {vs : List Value}
theorem mLstIndex {pl : Sem Bool} {Q : Value × List Value → Shared → Prop} (hl : h.PlainList q vs.toArray) (hq : Q (.builtin "list.index", [.ref q]) ⟨h, G, D, tk, O⟩) :
    wpAny (model PR w) A (getMethod (.ref q) (Str.ofString "index") pl) Q E ⟨h, G, D, tk, O⟩ := by
  obtain ⟨n, ho⟩ := hl
  refine getMethod_builtin ⟨_, ho, rfl⟩ PySem.F.plainAttrs_list PySem.F.slot_list_index PySem.F.type_list_index (fun b e => ?_) hq
  cases e
  exact ⟨_, ho, rfl⟩
theorem eqStr (a b : Str) (t u : Tok) : MeetsSeq.EqGives (.str a t) (.str b u) (decide (a = b)) := fun _ _ _ _ _ _ h => wpAny_eqBool_str h
theorem lstWays {ta tb tc t : Tok} {k : Nat} {Q : Value → Shared → Prop} (hl : h.PlainList q [.str (Str.ofString "free") ta, .str (Str.ofString "used") tb, .str (Str.ofString "packed") tc].toArray) (hk : k < 3)
    (hq : ∀ t tk', Q (.int (k : Int) t) ⟨h, G, D, tk', O⟩) : wpAny (model PR w) A (call (.builtin "list.index") [.ref q, .str (wayS k) t]) Q E ⟨h, G, D, tk, O⟩ := by
  obtain ⟨n, ho⟩ := hl
  refine call_meets PySem.F.slot_list_index ⟨_, ho, rfl⟩ PySem.F.entry_list_index (PySem.F.args_list_index_2 _ _)
    (MeetsSeq.list_index q [.str (Str.ofString "free") ta, .str (Str.ofString "used") tb, .str (Str.ofString "packed") tc].toArray n (.str (wayS k) t) (fun y => match y with | .str s _ => decide (s = wayS k) | _ => false) (fun y hy => ?_) k (by simpa using hk) (by omega) ?_ ?_) ⟨ho, hq _ _⟩
  · simp only [List.mem_toArray, List.mem_cons, List.not_mem_nil, or_false] at hy
    rcases hy with rfl | rfl | rfl <;> exact eqStr _ _ _ _
  · match k, hk with
    | 0, _ => rfl
    | 1, _ => rfl
    | 2, _ => rfl
  · intro m hm hlt
    match k, hk, m, hlt with
    | 1, _, 0, _ => show decide (Str.ofString "free" = wayS 1) = false; decide
    | 2, _, 0, _ => show decide (Str.ofString "free" = wayS 2) = false; decide
    | 2, _, 1, _ => show decide (Str.ofString "used" = wayS 2) = false; decide
end
section
variable {w : World} {A : Around} {E : Value → Shared → Prop} {h : Heap} {G : Array GenState} {D : Drawn} {tk : Nat} {O : OsState}
theorem addLB {a b : List UInt8} {t u : Tok} {Q : Value → Shared → Prop} (hz : a.length + b.length ≤ 16777216) (hq : ∀ t' tk', Q (.bytes (a ++ b).toArray t') ⟨h, G, D, tk', O⟩) :
    wpAny (model PR w) A (binaryOp .Add (.bytes a.toArray t) (.bytes b.toArray u)) Q E ⟨h, G, D, tk, O⟩ := by
  refine KBy.add_bytes (by simpa using hz) fun t' k => ?_
  rw [List.append_toArray]
  exact hq _ _
end
theorem rows_len (w0 w1 w2 : Nat) (l : List (Int × E3)) : (l.flatMap fun p => rowB w0 w1 w2 p.2).length = l.length * (w0 + w1 + w2) := by
  induction l with
  | nil => simp
  | cons p r ih => rw [List.flatMap_cons, List.length_append, rowB_len, ih, List.length_cons, Nat.succ_mul, Nat.add_comm]
def EW (de wt : Addr) (w0 w1 w2 : Nat) (m : Str → Option Value) (led : Ls) : Prop := m (Str.ofString "entries") = some (.ref de) ∧ m (Str.ofString "widths") = some (.ref wt) ∧ ∃ t0 t1 t2, (wt, Res.tup [.int (w0 : Int) t0, .int (w1 : Int) t1, .int (w2 : Int) t2]) ∈ led
theorem octs_zero (n : Nat) : octs n 0 = [] := rfl
theorem rowB_eq (w0 w1 w2 : Nat) (e : E3) : octs e.1 w0 ++ octs e.2.1.toNat w1 ++ octs e.2.2.toNat w2 = rowB w0 w1 w2 e := by
  unfold rowB
  split
  · rfl
  · rw [show w0 = 0 by omega, octs_zero]
theorem asc_le {l : List Int} (h : l.Pairwise (· < ·)) : l.Pairwise (· ≤ ·) := h.imp fun h => Int.le_of_lt h
theorem law3
  {w : World} {mg mb : Str → Option Value} {me : ExcName → Option Value} {A : Around} {g h : Heap} {G : Array GenState} {D : Drawn} {tk : Nat} {O : OsState} {L fa : Addr} {cd : Value} {m : Str → Option Value} {led : Ls} {Q : Flow → Shared → Prop}
  (X : (hd.heap_1 w.params).In g) (T : TopH mg mb me g) (hh : A.handled = none) (hdp : A.depth + 150 < recursionLimit) (hu : A.units + 600 < cLine) (hfr : A.frames = some []) (F : Fr g L h m) (N : Led w g L h led)
  {p c d de wt : Addr} {kve : List (Int × Value)} {tab : List (Int × E3)} {w0 w1 w2 : Nat} (hT : TabFacts tab) (hw : w0 ≤ 8 ∧ w1 ≤ 8 ∧ w2 ≤ 8) (B : LB L tab p c d led) (EN : EE de d kve tab led) (W : EW de wt w0 w1 w2 m led)
  (hq : ∀ h tk led m, Fr g L h m → Led w g L h led → LB L tab p c d led → EE de d kve tab led → EW de wt w0 w1 w2 m led → LR (tab.flatMap fun p => rowB w0 w1 w2 p.2) m →
    wpAny (model PR w) (A.deeper (lawEnv w.params L fa cd)) (execs ((lawBody w.params).drop 6) (lawEnv w.params L fa cd)) Q (fun _ _ => False) ⟨h, G, D, tk, O⟩) :
  wpAny (model PR w) (A.deeper (lawEnv w.params L fa cd)) (execs ((lawBody w.params).drop 4) (lawEnv w.params L fa cd)) Q (fun _ _ => False) ⟨h, G, D, tk, O⟩:= by
  obtain ⟨W1, W2, t0, t1, t2, mw⟩ := W
  have h9 := hT.l9
  refine' law_cut ?ho ?_
  case ho => k_is
  dsimp only [List.drop]
  repeat walk_at "S"
  with_reducible refine' stR F N ?_ ?_ ?_ ?_
  · exact rfl
  · exact rfl
  · exact rfl
  clear F N; intro h tk F N
  try (with_reducible refine' Seal.next ?K ?_; case K => with_reducible assumption)
  have hd := B.2.1
  repeat walk_at "S"
  obtain ⟨kvs, mk, hKT⟩ := id B.2.2.2.2.2
  have hlen : kvs.length = tab.length := hKT.len
  refine listD hh F N (fun e => by rw [e] at mk; cases mk) (N.hi mk) (N.get (r := .dct kvs) mk) (by omega) fun h tk B1 vs1 F N hK1 => ?_
  rw [hKT.fsts fun _ _ r => r.1] at hK1
  repeat walk_at "S"
  refine sortL F N (led_list N N.m0) hK1 (by rw [hK1.len, List.length_map]; omega) fun h B2 ks ns F N hK hP hS => ?_
  have hns : ns = tab.map (·.1) := lksU hP hS (asc_le hT.ok.asc)
  subst hns
  have hklen : ks.length = tab.length := by rw [hK.len, List.length_map]
  have hlB := led_list N N.m0
  repeat walk_at "S"
  with_reducible refine' forList ?_ ?_ ?_ ?_ ?_ F N hlB (fun i m led => LB L tab p c d led ∧ EE de d kve tab led ∧ EW de wt w0 w1 w2 m led ∧ LR ((tab.take i).flatMap fun p => rowB w0 w1 w2 p.2) m ∧ (B2, Res.lst ks) ∈ led) ?_ ?_ ?_ ?_
  · exact hh
  · exact rfl
  · exact rfl
  · first | exact PassesOwn.never | exact passE1 (Around.frames_deeper hfr) rfl
  · exact rfl
  · exact ⟨B.sub fun q hq => .tail _ (.tail _ hq), EN.all fun q hq => .tail _ (.tail _ hq), ⟨W1, W2, t0, t1, t2, .tail _ (.tail _ mw)⟩, ⟨_, rfl⟩, .head _⟩
  · rintro i m led h ⟨_, _, _, _, mB⟩ F N
    exact led_list N mB
  · clear F N hlB mk hKT B EN mw W1 W2 hd
    rintro I i x m₁ led₁ oI h tk hx ⟨B, EN, ⟨W1, W2, t0, t1, t2, mw⟩, ⟨tr, m1⟩, mB⟩ F N
    obtain ⟨k, hk1, tx, rfl⟩ := hK.get hx
    obtain ⟨⟨k', e⟩, hq', rfl⟩ : ∃ p, tab[i]? = some p ∧ p.1 = k := by simpa using hk1
    have off := N.off
    obtain ⟨hp, hd, ⟨v3, h3⟩, P, ne, kvs, mk, hKT⟩ := id B
    obtain ⟨⟨k2, ev⟩, hb, hk2, a, tw, u1, u2, rfl, ha⟩ := hKT.get' hq'
    dsimp only at hk2 ha
    subst hk2
    have hok := hT.ok.ok _ (List.mem_of_getElem? hq')
    have hi : i < tab.length := (List.getElem?_eq_some_iff.mp hq').1
    dsimp only at hok
    have hd' := N.mt hd
    have hD : ∀ {h' : Heap}, h.StaysIn h' → h'.DictOf (intKind PR w) d kvs := fun k => at_of (r := .dct kvs) (N.get (N.mt mk)) fun _ q => k _ _ q
    have hnd : (kvs.map (·.1)).Nodup := let ⟨_, _, _, _, _, _, _, _, z⟩ := hD (fun _ _ q => q); z
    have ht : IsTup h a _ := N.get (r := .tup _) (N.mt ha)
    have hW : IsTup h wt _ := N.get (r := .tup _) (N.mt mw)
    have n1 := (Int.toNat_of_nonneg hok.2.2.2.1)
    have n2 := (Int.toNat_of_nonneg hok.2.2.2.2.2.1)
    repeat walk_at "S"
    with_reducible refine newListR F N (by rw [sizeLine_eq]; exact Nat.le_of_ble_eq_true rfl) fun wl h F N => ?_
    repeat (first | (with_reducible refine' Seal.ret ?K ?_; case K => with_reducible assumption) | with_reducible refine turnRet ?_)
    repeat walk_at "S"
    refine mLstIndex (vs := [_, _, _]) (N.get (r := .lst _) N.m0) ?_
    repeat walk_at "S"
    refine dItem (kvs := kvs) (N.get (r := .dct kvs) (.tail _ (.tail _ mk))) (valueAt_of_get hnd hb) (fun _ => ?_) rfl
    repeat walk_at "S"
    refine tItem (N.get (r := .tup _) (.tail _ (.tail _ ha))) (by omega) (by omega) rfl ?_ rfl
    repeat walk_at "S"
    refine lstWays (N.get (r := .lst _) N.m0) hok.2.2.1 fun _ _ => ?_
    repeat walk_at "S"
    with_reducible refine' stR F N ?_ ?_ ?_ ?_
    · exact rfl
    · exact rfl
    · exact rfl
    clear F N; intro h tk F N
    try (with_reducible refine' Seal.next ?K ?_; case K => with_reducible assumption)
    repeat walk_at "S"
    refine tItem (N.get (r := .tup _) (.tail _ (.tail _ mw))) (by omega) (by omega) rfl ?_ rfl
    repeat walk_at "S"
    refine ⟨X.keeps F.keep, ?_⟩
    refine law_octets_c X T F.keep (by show A.handled = _; exact hh) (by show A.depth + _ + _ < _; omega) (by show A.units + 3 + _ < _; omega) (by omega) (by omega) fun h tk tt st' => ?_
    replace F := fr_stays F st'
    replace N := N.stays st'
    clear st'
    repeat walk_at "S"
    have hpre : ((tab.take i).flatMap fun p => rowB w0 w1 w2 p.2).length ≤ 9 * 24 := by
      rw [rows_len, List.length_take]
      exact Nat.mul_le_mul (by omega) (by omega)
    have o0 := octs_len e.1 w0
    have o1 := octs_len e.2.1.toNat w1
    have o2 := octs_len e.2.2.toNat w2
    refine addLB (by omega) fun _ _ => ?_
    repeat walk_at "S"
    refine dItem (kvs := kvs) (N.get (r := .dct kvs) (.tail _ (.tail _ mk))) (valueAt_of_get hnd hb) (fun _ => ?_) rfl
    repeat walk_at "S"
    refine tItem (N.get (r := .tup _) (.tail _ (.tail _ ha))) (by omega) (by omega) rfl ?_ rfl
    repeat walk_at "S"
    refine tItem (N.get (r := .tup _) (.tail _ (.tail _ mw))) (by omega) (by omega) rfl ?_ rfl
    rw [← n1]
    repeat walk_at "S"
    refine ⟨X.keeps F.keep, ?_⟩
    refine law_octets_c X T F.keep (by show A.handled = _; exact hh) (by show A.depth + _ + _ < _; omega) (by show A.units + 3 + _ < _; omega) (by omega) (by omega) fun h tk tt st' => ?_
    replace F := fr_stays F st'
    replace N := N.stays st'
    clear st'
    repeat walk_at "S"
    refine addLB (by rw [List.length_append]; omega) fun _ _ => ?_
    repeat walk_at "S"
    refine dItem (kvs := kvs) (N.get (r := .dct kvs) (.tail _ (.tail _ mk))) (valueAt_of_get hnd hb) (fun _ => ?_) rfl
    repeat walk_at "S"
    refine tItem (N.get (r := .tup _) (.tail _ (.tail _ ha))) (by omega) (by omega) rfl ?_ rfl
    repeat walk_at "S"
    refine tItem (N.get (r := .tup _) (.tail _ (.tail _ mw))) (by omega) (by omega) rfl ?_ rfl
    rw [← n2]
    repeat walk_at "S"
    refine ⟨X.keeps F.keep, ?_⟩
    refine law_octets_c X T F.keep (by show A.handled = _; exact hh) (by show A.depth + _ + _ < _; omega) (by show A.units + 3 + _ < _; omega) (by omega) (by omega) fun h tk tt st' => ?_
    replace F := fr_stays F st'
    replace N := N.stays st'
    clear st'
    repeat walk_at "S"
    refine addLB (by rw [List.length_append, List.length_append]; omega) fun _ _ => ?_
    repeat walk_at "S"
    with_reducible refine' stR F N ?_ ?_ ?_ ?_
    · exact rfl
    · exact rfl
    · exact rfl
    clear F N; intro h tk F N
    try (with_reducible refine' Seal.next ?K ?_; case K => with_reducible assumption)
    repeat walk_at "S"
    refine turnM F N (.tail _ (.head _)) fun led3 hk3 => ?_
    have k1 : ∀ q ∈ led₁, q ∈ led3 := fun q hq => hk3 q (.tail _ (.tail _ hq)) (fun e => off q hq (by rw [e]))
    have hr : ((tab.take (i + 1)).flatMap fun p => rowB w0 w1 w2 p.2) = (tab.take i).flatMap (fun p => rowB w0 w1 w2 p.2) ++ octs e.1 w0 ++ octs e.2.1.toNat w1 ++ octs e.2.2.toNat w2 := by
      rw [take_snoc hq', List.flatMap_append]
      simp only [List.flatMap_cons, List.flatMap_nil, List.append_nil, ← rowB_eq, List.append_assoc]
    refine ⟨B.sub k1, EN.all k1, ⟨W1, W2, t0, t1, t2, k1 _ mw⟩, ?_, k1 _ mB⟩
    unfold LR
    rw [hr]
    exact ⟨_, rfl⟩
  · clear F N hlB mk hKT B EN mw W1 W2 hd
    rintro m₁ led₁ h tk ⟨B, EN, W, R, _⟩ F N
    rw [hklen, List.take_length] at R
    try dsimp only
    try (with_reducible refine' Seal.next ?K ?_; case K => with_reducible assumption)
    refine' law_uncut (P := w.params) (A := A) (L := L) (fa := fa) (cd := cd) ?ho 6 ?hb ?he ?_
    case ho => k_is
    case hb => rfl
    case he => rfl
    exact hq _ _ _ _ F N B EN W R
set_option linter.unusedVariables false
section
variable {w : World} {A : Around} {E : Value → Shared → Prop} {h : Heap} {G : Array GenState} {D : Drawn} {tk : Nat} {O : OsState} {env : Env} {g : Heap} {L : Addr} {body : List Stmt} {Q : Flow → Shared → Prop} {m : Str → Option Value} {led : Ls} {elts : List Expr} {kk : Nat} {pos : Pos}
def ForAtT (w : World) (A : Around) (env : Env) (elts : List Expr) (kk : Nat) (pos : Pos) (body : List Stmt) (Q : Flow → Shared → Prop) (E : Value → Shared → Prop) (it : Value) (s₂ : Shared) : Prop :=
  codeAny (model PR w) A (.forLoop (.Tuple elts kk pos) it body [] env) (fun r s' => match r with | .ok f => Q f s' | .error e => cameBackBy (model PR w) A env E e s') s₂
theorem forST {iter : Expr} {p : Pos} {s : Shared} (hq : wpAny (model PR w) A (eval iter env) (fun xv s₁ => wpAny (model PR w) A (pyIter xv) (fun it s₂ => ForAtT w A env elts kk pos body Q E it s₂) E s₁) E s)
    (hs : ∀ x, foldedSetIterable iter env x = pure x) : wpAny (model PR w) A (exec (.For (.Tuple elts kk pos) iter body [] p) env) Q E s := wpAny_For hq hs
theorem forListT {l : Addr} {vs : List Value} (hh : A.handled = none) (hv : ∀ v ∈ vs, ∃ T, v = .ref T)
    (hE : PassesOwn (model PR w) A env E) (hL : env.locals = L) (F : Fr g L h m) (N : Led w g L h led) (hl : h.IsList l vs.toArray)
    (J : Nat → (Str → Option Value) → Ls → Prop) (hJ : J 0 m led)
    (hC : ∀ i m led h, J i m led → Fr g L h m → Led w g L h led → h.IsList l vs.toArray)
    (turn : ∀ I i v m₁ led₁ oI h tk, vs[i]? = some v → J i m₁ led₁ → Fr g L h m₁ → Led w g L h ((I, .raw oI) :: led₁) →
      wpAny (model PR w) A (assign (.Tuple elts kk pos) env v) (fun _ s₂ => wpAny (model PR w) A (execs body env) (TurnEnd w g L I oI (J (i + 1)) G D O Q) E s₂) E ⟨h, G, D, tk, O⟩)
    (done : ∀ m₁ led₁ h tk, J vs.length m₁ led₁ → Fr g L h m₁ → Led w g L h led₁ → Q .next ⟨h, G, D, tk, O⟩) :
    wpAny (model PR w) A (pyIter (.ref l)) (fun it s₂ => ForAtT w A env elts kk pos body Q E it s₂) E ⟨h, G, D, tk, O⟩ := by
  subst hL
  refine wpAny_pyIter_list hl ?_
  have hlt : l < h.objs.size := by obtain ⟨o, ho, _⟩ := hl; exact Heap.lt_size ho
  have hlI : l ≠ h.objs.size := Nat.ne_of_lt hlt
  have K := Wk.list (w := w) hh h.objs.size l hlI vs
  have h3 := N.gt F
  have fI := fresh_none F (size_none h)
  have off : ∀ p ∈ led, p.1 ≠ h.objs.size := fun p hp => Nat.ne_of_lt (N.size p hp)
  have F0 := fr_push F { cls := .type "list_iterator", data := .fields #[.ref l, .int 0 0] }
  have N0 := N.stays (stays_push h { cls := .type "list_iterator", data := .fields #[.ref l, .int 0 0] })
  have h0 : (h.push { cls := .type "list_iterator", data := .fields #[.ref l, .int 0 0] }).IsListIter h.objs.size l 0 := ⟨_, Heap.get?_push_size _ rfl, rfl, rfl⟩
  unfold ForAtT
  dsimp only
  generalize h.push { cls := .type "list_iterator", data := .fields #[.ref l, .int 0 0] } = h1 at F0 N0 h0 ⊢
  generalize h.objs.size = I at K h3 fI off h0 ⊢
  clear hlt hlI F N hl
  refine codeAny_forLoop_any
    (LSt w g env.locals I vs.length (fun i h => h.IsListIter I l i) J G D O) ?_ (vs.length + 1)
    ⟨h1, tk, m, led, 0, rfl, h0, F0, N0, off, hJ, Nat.zero_le _, rfl⟩
  rintro k s' ⟨h', tk, m', led', i, rfl, hit, F', N', off', hJ', hi, rfl⟩
  have hc := hC i m' led' h' hJ' F' N'
  by_cases hlt : i < vs.length
  · refine K.item i _ _ _ (by simpa using hlt) hit hc fun v h₁ tk₁ hP hit₁ hk₁ => ?_
    obtain ⟨F₁, N₁⟩ := next_keeps F' N' fI off' hk₁
    have hvi : vs[i]? = some v := by simpa using hP
    obtain ⟨T, rfl⟩ := hv v (List.mem_of_getElem? hvi)
    dsimp only
    refine wpAny_letOwnedTupleGo_listiter hit₁ ?_
    obtain ⟨oI, hoI⟩ := K.ex _ _ hit₁
    have D₃ : (keys ((I, Res.raw oI) :: led')).Nodup := by
      rw [keys_cons, List.nodup_cons]
      refine ⟨fun z => ?_, N₁.D⟩
      obtain ⟨p, hp, e⟩ := List.mem_map.mp z
      exact off' p hp e
    have N₃ : Led w g env.locals h₁ ((I, .raw oI) :: led') := ⟨fun p hp => by
      rcases List.mem_cons.mp hp with hp | hp
      · subst hp; exact ⟨hoI, h3, fI⟩
      · exact N₁.N p hp, D₃, N₁.B⟩
    have fin : ∀ s₃ : Shared, TNext w g env.locals I oI (J (i + 1)) G D O s₃ →
        ∃ k', k' < vs.length + 1 - i ∧ LSt w g env.locals I vs.length (fun i h => h.IsListIter I l i) J G D O k' s₃ := by
      rintro s₃ ⟨h₄, tk₄, m₄, pre, post, rfl, F₄, N₄, J₄⟩
      refine ⟨vs.length + 1 - (i + 1), by omega, h₄, tk₄, m₄, pre ++ post, i + 1, rfl, K.loc _ _ _ hit₁ fun o e => ?_, F₄, N₄.subl ?_, N₄.off2, J₄, hlt, rfl⟩
      · rw [hoI] at e; cases e; exact N₄.get (a := I) (r := .raw oI) (by simp)
      · exact (List.sublist_cons_self _ _).append_left pre
    refine wpAny_mono (wpAny_passesOwn hE (turn I i (.ref T) m' led' oI h₁ tk₁ hvi hJ' F₁ N₃)) (fun _ s₂ h₂ => wpAny_mono (wpAny_passesOwn hE h₂) (fun f s₃ h₃ => ?_) fun _ _ e => e) fun _ _ e => e
    cases f with
    | ret v => exact h₃
    | brk => exact h₃
    | cont => exact fin _ h₃
    | next => exact fin _ h₃
  · have hin : i = vs.length := by omega
    subst hin
    refine K.done _ _ _ (by simpa using hit) hc fun h₁ tk₁ hk₁ => wpAny_execs_nil ?_
    obtain ⟨F₁, N₁⟩ := next_keeps F' N' fI off' hk₁
    exact done m' led' h₁ tk₁ hJ' F₁ N₁
end
local macro_rules | `(tactic| walk_at "S") => `(tactic| ((with_reducible refine' forST ?_ ?hsT); (case hsT => intro _; exact rfl)))
set_option linter.unusedVariables false
def keysN (tab : List (Int × E3)) : List Nat := tab.map fun p => p.1.toNat
theorem keysN_cast {tab : List (Int × E3)} (h : TabOk tab) : (keysN tab).map (fun (k : Nat) => (k : Int)) = tab.map (·.1) := by
  unfold keysN; rw [List.map_map]
  exact List.map_congr_left fun p hp => Int.toNat_of_nonneg (h.ok p hp).1
theorem keysN_asc {tab : List (Int × E3)} (h : TabOk tab) : (keysN tab).Pairwise (· < ·) := by
  have := h.asc
  rw [← keysN_cast h, List.pairwise_map] at this
  exact this.imp fun h => Int.ofNat_lt.mp h
theorem flat_snoc {ps : List (Nat × Nat)} {i : Nat} {p : Nat × Nat} (h : ps[i]? = some p) : flat (ps.take (i + 1)) = flat (ps.take i) ++ [(p.1 : Int), (p.2 : Int)] := by
  rw [take_snoc h]; simp [flat]
theorem law4
  {w : World} {mg mb : Str → Option Value} {me : ExcName → Option Value} {A : Around} {g h : Heap} {G : Array GenState} {D : Drawn} {tk : Nat} {O : OsState} {L fa : Addr} {cd : Value} {m : Str → Option Value} {led : Ls} {Q : Flow → Shared → Prop}
  (X : (hd.heap_1 w.params).In g) (T : TopH mg mb me g) (hh : A.handled = none) (hdp : A.depth + 150 < recursionLimit) (hu : A.units + 600 < cLine) (hfr : A.frames = some []) (F : Fr g L h m) (N : Led w g L h led)
  {p c d de wt : Addr} {kve : List (Int × Value)} {tab : List (Int × E3)} {w0 w1 w2 : Nat} {rows : List UInt8} (hT : TabFacts tab) (B : LB L tab p c d led) (EN : EE de d kve tab led) (W : EW de wt w0 w1 w2 m led) (R : LR rows m)
  (hq : ∀ h tk led m ru, Fr g L h m → Led w g L h led → LB L tab p c d led → EE de d kve tab led → EW de wt w0 w1 w2 m led → LR rows m → LRu (flat (runsOf (keysN tab))) ru m led →
    wpAny (model PR w) (A.deeper (lawEnv w.params L fa cd)) (execs ((lawBody w.params).drop 8) (lawEnv w.params L fa cd)) Q (fun _ _ => False) ⟨h, G, D, tk, O⟩) :
  wpAny (model PR w) (A.deeper (lawEnv w.params L fa cd)) (execs ((lawBody w.params).drop 6) (lawEnv w.params L fa cd)) Q (fun _ _ => False) ⟨h, G, D, tk, O⟩:= by
  obtain ⟨W1, W2, t0, t1, t2, mw⟩ := W
  obtain ⟨tR, mR⟩ := R
  have h9 := hT.l9
  refine' law_cut ?ho ?_
  case ho => k_is
  dsimp only [List.drop]
  repeat walk_at "S"
  with_reducible refine newListR F N (by rw [sizeLine_eq]; exact Nat.le_of_ble_eq_true rfl) fun ru0 h F N => ?_
  repeat (first | (with_reducible refine' Seal.ret ?K ?_; case K => with_reducible assumption) | with_reducible refine turnRet ?_)
  repeat walk_at "S"
  with_reducible refine' stR F N ?_ ?_ ?_ ?_
  · exact rfl
  · exact rfl
  · exact rfl
  clear F N; intro h tk F N
  try (with_reducible refine' Seal.next ?K ?_; case K => with_reducible assumption)
  have hd := N.mt B.2.1
  repeat walk_at "S"
  obtain ⟨kvs, mk, hKT⟩ := id B.2.2.2.2.2
  have hlen : kvs.length = tab.length := hKT.len
  refine listD hh F N (by simp) (N.hi (N.mt mk)) (N.get (r := .dct kvs) (N.mt mk)) (by omega) fun h tk B1 vs1 F N hK1 => ?_
  rw [hKT.fsts fun _ _ r => r.1, ← keysN_cast hT.ok] at hK1
  have hkl : (keysN tab).length = tab.length := by unfold keysN; rw [List.length_map]
  repeat walk_at "S"
  refine ⟨X.keeps F.keep, ?_⟩
  refine runs_of_c X T F.keep (by show A.handled = _; exact hh) (by show A.depth + _ + _ < _; omega) (by show A.units + 3 + _ < _; omega) (led_list N N.m0) hK1 (by omega) ((keysN_asc hT.ok).imp Nat.le_of_lt) fun h tk B2 rs lr st' hnew hR => ?_
  replace N := N.call F st' hnew
  replace F := fr_stays F st'
  have hrl := hR.len
  have hrl2 := runs_len (keysN tab)
  have hlB := led_list N (.head _)
  repeat walk_at "S"
  with_reducible refine' forListT ?_ ?_ ?_ ?_ F N hlB (fun i m led => LB L tab p c d led ∧ EE de d kve tab led ∧ EW de wt w0 w1 w2 m led ∧ LR rows m ∧ (B2, Res.lst rs) ∈ led ∧ A2 (RunR led) rs (runsOf (keysN tab)) ∧ ∃ ru, LRu (flat ((runsOf (keysN tab)).take i)) ru m led) ?_ ?_ ?_ ?_
  · exact hh
  · intro v hv
    obtain ⟨i, hi⟩ := List.mem_iff_getElem?.mp hv
    obtain ⟨_, _, a, _, _, e, _⟩ := hR.get hi
    exact ⟨a, e⟩
  · exact PassesOwn.never
  · exact rfl
  · have k : ∀ q ∈ led, q ∈ (B2, Res.lst rs) :: lr ++ (B1, Res.lst vs1) :: (ru0, Res.lst []) :: led := fun q hq => List.mem_append_right _ (.tail _ (.tail _ hq))
    refine ⟨B.sub k, EN.all k, ⟨W1, W2, t0, t1, t2, k _ mw⟩, ⟨tR, mR⟩, .head _, hR.mono fun _ _ ⟨a, t1, t2, e, h⟩ => ⟨a, t1, t2, e, List.mem_append_left _ (.tail _ h)⟩, ru0, ⟨rfl, [], List.mem_append_right _ (.tail _ (.head _)), .nil⟩⟩
  · rintro i m led h ⟨_, _, _, _, mB, _⟩ F N
    exact led_list N mB
  · clear F N hlB mk hKT B EN mw W1 W2 mR hd hR
    rintro I i v m₁ led₁ oI h tk hx ⟨B, EN, ⟨W1, W2, t0, t1, t2, mw⟩, ⟨tR, mR⟩, mB, hR, ru, mru, rv, mrv, hrv⟩ F N
    obtain ⟨⟨n0, c0⟩, hq', a, u1, u2, rfl, ha⟩ := hR.get hx
    have off := N.off
    refine asgT hh F N (N.get (r := .tup _) (N.mt ha)) rfl rfl fun h F N => ?_
    show wpAny _ _ (assignInOrder [_, _] [_, _]) _ _ _
    repeat walk_at "S"
    with_reducible refine' stR F N ?_ ?_ ?_ ?_
    · exact rfl
    · exact rfl
    · exact rfl
    clear F N; intro h tk F N
    try (with_reducible refine' Seal.next ?K ?_; case K => with_reducible assumption)
    repeat walk_at "S"
    with_reducible refine' stR F N ?_ ?_ ?_ ?_
    · exact rfl
    · exact rfl
    · exact rfl
    clear F N; intro h tk F N
    try (with_reducible refine' Seal.next ?K ?_; case K => with_reducible assumption)
    repeat walk_at "S"
    with_reducible refine newListR F N (by rw [sizeLine_eq]; exact Nat.le_of_ble_eq_true rfl) fun nl h F N => ?_
    repeat (first | (with_reducible refine' Seal.ret ?K ?_; case K => with_reducible assumption) | with_reducible refine turnRet ?_)
    repeat walk_at "S"
    have hvl : rv.length = 2 * ((runsOf (keysN tab)).take i).length := by rw [hrv.len, flat_len]
    rw [List.length_take] at hvl
    refine addL F N (led_list N (.tail _ (.tail _ mrv))) (led_list N N.m0) (by simp; omega) fun ka h F N => ?_
    repeat walk_at "S"
    with_reducible refine' stR F N ?_ ?_ ?_ ?_
    · exact rfl
    · exact rfl
    · exact rfl
    clear F N; intro h tk F N
    try (with_reducible refine' Seal.next ?K ?_; case K => with_reducible assumption)
    repeat walk_at "S"
    have k1 : ∀ led3 : Ls, (∀ p ∈ (ka, Res.lst (rv ++ [.int (n0 : Int) u1, .int (c0 : Int) u2])) :: (nl, Res.lst [.int (n0 : Int) u1, .int (c0 : Int) u2]) :: (I, Res.raw oI) :: led₁, p ≠ (I, Res.raw oI) → p ∈ led3) → ∀ q ∈ led₁, q ∈ led3 := fun led3 hk3 q hq => hk3 q (.tail _ (.tail _ (.tail _ hq))) (fun e => off q hq (by rw [e]))
    refine turnM F N (.tail _ (.tail _ (.head _))) fun led3 hk3 => ⟨B.sub (k1 _ hk3), EN.all (k1 _ hk3), ⟨W1, W2, t0, t1, t2, k1 _ hk3 _ mw⟩, ⟨tR, mR⟩, k1 _ hk3 _ mB, hR.mono fun _ _ ⟨a, t1, t2, e, h⟩ => ⟨a, t1, t2, e, k1 _ hk3 _ h⟩, ka, rfl, _, hk3 _ (.head _) (by simp), ?_⟩
    rw [flat_snoc hq']
    exact hrv.app (.cons ⟨_, rfl⟩ (.cons ⟨_, rfl⟩ .nil))
  · clear F N hlB mk hKT B EN mw W1 W2 mR hd hR
    rintro m₁ led₁ h tk ⟨B, EN, W, R, _, _, ru, hru⟩ F N
    rw [hrl, List.take_length] at hru
    try dsimp only
    try (with_reducible refine' Seal.next ?K ?_; case K => with_reducible assumption)
    refine' law_uncut (P := w.params) (A := A) (L := L) (fa := fa) (cd := cd) ?ho 8 ?hb ?he ?_
    case ho => k_is
    case hb => rfl
    case he => rfl
    exact hq _ _ _ _ _ F N B EN W R hru
set_option linter.unusedVariables false
section
variable {w : World} {A : Around} {E : Value → Shared → Prop} {h : Heap} {G : Array GenState} {D : Drawn} {tk : Nat} {O : OsState}
def TupH (h : Heap) (v : Value) (e : E3) : Prop := ∃ a tw t1 t2, v = .ref a ∧ IsTup h a #[.str (wayS e.1) tw, .int e.2.1 t1, .int e.2.2 t2]
abbrev KTH (h : Heap) (p : Int × Value) (q : Int × E3) : Prop := p.1 = q.1 ∧ TupH h p.2 q.2
theorem KTH.of {l : Ls} (H : Has w h l) {kvs : List (Int × Value)} {tab : List (Int × E3)} (x : A2 (KT l) kvs tab) : A2 (KTH h) kvs tab := x.mono fun _ _ ⟨z1, a, tw, u1, u2, z2, z3⟩ => ⟨z1, a, tw, u1, u2, z2, H.get (r := .tup _) z3⟩
theorem eqTup {v v' : Value} {e : E3} (x : TupH h v e) (y : TupH h v' e) (hu : A.units + 3 < cLine) : SeqAt.EqAt A ⟨h, G, D, tk, O⟩ v v' true := by
  obtain ⟨a, tw, t1, t2, rfl, ha⟩ := x
  obtain ⟨b, tw', t1', t2', rfl, hb⟩ := y
  by_cases hab : a = b
  · subst hab; exact SeqAt.EqAt.same _
  · refine SeqAt.EqAt.of_refs hab ?_
    have := SeqAt.RcAt.tuples (A := A) (s := ⟨h, G, D, tk, O⟩) (e := fun _ => true) ha hb (by omega) fun j h1 h2 => ?_
    · exact this
    · match j, h1 with
      | 0, _ => simpa using SeqAt.EqAt.str_str (A := A.in1) (s := ⟨h, G, D, tk, O⟩) (wayS e.1) tw (wayS e.1) tw'
      | 1, _ => simpa using SeqAt.EqAt.int_int (A := A.in1) (s := ⟨h, G, D, tk, O⟩) e.2.1 t1 e.2.1 t1'
      | 2, _ => simpa using SeqAt.EqAt.int_int (A := A.in1) (s := ⟨h, G, D, tk, O⟩) e.2.2 t2 e.2.2 t2'
theorem dictAny {prog : Program} {w' : World} {d : Addr} {kvs : List (Int × Value)} (x : h.DictOf (intKind PR w) d kvs) : h.DictOf (intKind prog w') d kvs := by
  obtain ⟨o, es, ep, ho, hc, hd, hk, hp, hn⟩ := x
  refine ⟨o, es, ep, ho, hc, hd, hk, ?_, hn⟩
  clear hk hn hd
  generalize es.toList = l at hp
  induction hp with
  | nil => exact .nil
  | cons h1 h2 _ ih => exact .cons h1 h2 ih
theorem keqHits {kb : List (Int × Value)} {ka : List (Int × Value)} {tab : List (Int × E3)} (hu : A.units + 3 < cLine) (x : A2 (KTH h) ka tab) (H : ∀ q ∈ tab, ∃ y, valueAt kb q.1 = some y ∧ TupH h y q.2) : KeqHits A ⟨h, G, D, tk, O⟩ kb ka true := by
  induction x with
  | nil => exact .nil
  | @cons p q ka tab r _ ih =>
    obtain ⟨k, v⟩ := p
    obtain ⟨y, hy, ht⟩ := H q (.head _)
    obtain ⟨hk, hv⟩ := r
    dsimp only at hk hv
    subst hk
    exact KeqHits.hit (e := true) (b := true) hy (eqTup hv ht hu) (ih fun q hq => H q (.tail _ hq))
theorem eqDict {d d' : Addr} {ka kb : List (Int × Value)} {tab : List (Int × E3)} (h3 : 3 < d) (h3' : 3 < d') (da : h.DictOf (intKind PR w) d ka) (db : h.DictOf (intKind PR w) d' kb) (xa : A2 (KTH h) ka tab) (xb : A2 (KTH h) kb tab) (hu : A.units + 6 < cLine) :
    SeqAt.EqAt A ⟨h, G, D, tk, O⟩ (.ref d) (.ref d') true := by
  by_cases hab : d = d'
  · subst hab; exact SeqAt.EqAt.same _
  · refine SeqAt.EqAt.of_refs hab fun prog w' E Q hQ => ?_
    show wpAny _ _ (compareOp .Eq (.ref d) (.ref d')) _ _ _
    have hnd : (kb.map (·.1)).Nodup := let ⟨_, _, _, _, _, _, _, _, z⟩ := db; z
    refine keq_eq (knd := intKind prog w') (r := true) (sysm h3) (sysm h3') (dictAny da) (dictAny db) (by omega) (fun _ => keqHits (by rw [PyProof.Rows.units_in1]; omega) xa fun q hq => ?_) ?_
    · obtain ⟨i, hi⟩ := List.mem_iff_getElem?.mp hq
      obtain ⟨⟨k, v⟩, hb, hk, hv⟩ := xb.get' hi
      dsimp only at hk hv
      subst hk
      exact ⟨v, valueAt_of_get hnd hb, hv⟩
    · rw [xa.len, xb.len]; simpa using hQ
def OutH (w : World) (h : Heap) (R : Except Nat (List (Int × E3))) (r0 r1 : Value) : Prop :=
  match R with
  | .error k => r0 = .none ∧ ∃ t, r1 = .int (k : Int) t
  | .ok tab => ∃ d kvs t, r0 = .ref d ∧ 3 < d ∧ h.DictOf (intKind PR w) d kvs ∧ A2 (KTH h) kvs tab ∧ r1 = .int 0 t
def tabOf (R : Except Nat S3) : Except Nat (List (Int × E3)) := match R with | .error k => .error k | .ok s => .ok s.2.2
theorem Outc.outH {l : Ls} {R : Except Nat S3} {r0 r1 : Value} (x : Outc l R r0 r1) (H : Has w h l) : OutH w h (tabOf R) r0 r1 := by
  cases R with
  | error k => exact x
  | ok s =>
    obtain ⟨d, kvs, t, e, hm, hA, e1⟩ := x
    exact ⟨d, kvs, t, e, (H _ hm).2, H.get (r := .dct kvs) hm, KTH.of H hA, e1⟩
theorem eqOut {R : Except Nat (List (Int × E3))} {r0 r1 r0' r1' : Value} (x : OutH w h R r0 r1) (y : OutH w h R r0' r1') (hu : A.units + 6 < cLine) : SeqAt.EqAt A ⟨h, G, D, tk, O⟩ r0 r0' true ∧ SeqAt.EqAt A ⟨h, G, D, tk, O⟩ r1 r1' true := by
  cases R with
  | error k =>
    obtain ⟨rfl, t, rfl⟩ := x
    obtain ⟨rfl, t', rfl⟩ := y
    exact ⟨SeqAt.EqAt.same _, by simpa using SeqAt.EqAt.int_int (A := A) (s := ⟨h, G, D, tk, O⟩) (k : Int) t (k : Int) t'⟩
  | ok tab =>
    obtain ⟨d, kvs, t, rfl, h3, hd, hA, rfl⟩ := x
    obtain ⟨d', kvs', t', rfl, h3', hd', hA', rfl⟩ := y
    exact ⟨eqDict h3 h3' hd hd' hA hA' hu, by simpa using SeqAt.EqAt.int_int (A := A) (s := ⟨h, G, D, tk, O⟩) 0 t 0 t'⟩
theorem eqOuts {a b : Addr} {R : Except Nat (List (Int × E3))} {r0 r1 r0' r1' : Value} {Q : Value → Shared → Prop} (ha : IsTup h a #[r0, r1]) (hb : IsTup h b #[r0', r1']) (x : OutH w h R r0 r1) (y : OutH w h R r0' r1') (hu : A.units + 8 < cLine) (hq : Q (.bool true) ⟨h, G, D, tk, O⟩) :
    wpAny (model PR w) A (compareOp .Eq (.ref a) (.ref b)) Q E ⟨h, G, D, tk, O⟩ := by
  show wpAny _ _ (richCompare .Eq (.ref a) (.ref b)) _ _ _
  have := SeqAt.RcAt.tuples (A := A) (s := ⟨h, G, D, tk, O⟩) (e := fun _ => true) ha hb (by omega) fun j h1 h2 => ?_
  · exact this PR w E Q hq
  · have e := eqOut (A := A.in1) (G := G) (D := D) (tk := tk) (O := O) x y (by rw [PyProof.Rows.units_in1]; omega)
    match j, h1 with
    | 0, _ => exact e.1
    | 1, _ => exact e.2
theorem neOuts {a b : Addr} {R : Except Nat (List (Int × E3))} {r0 r1 r0' r1' : Value} {Q : Value → Shared → Prop} (ha : IsTup h a #[r0, r1]) (hb : IsTup h b #[r0', r1']) (x : OutH w h R r0 r1) (y : OutH w h R r0' r1') (hu : A.units + 8 < cLine) (hq : Q (.bool false) ⟨h, G, D, tk, O⟩) :
    wpAny (model PR w) A (compareOp .NotEq (.ref a) (.ref b)) Q E ⟨h, G, D, tk, O⟩ := by
  show wpAny _ _ (richCompare .NotEq (.ref a) (.ref b)) _ _ _
  have := SeqAt.RcNeAt.tuples (A := A) (s := ⟨h, G, D, tk, O⟩) (e := fun _ => true) ha hb (by omega) fun j h1 h2 => ?_
  · exact this PR w E Q hq
  · have e := eqOut (A := A.in1) (G := G) (D := D) (tk := tk) (O := O) x y (by rw [PyProof.Rows.units_in1]; omega)
    match j, h1 with
    | 0, _ => exact e.1
    | 1, _ => exact e.2
theorem neInts3 {a b : Addr} {x y z : Int} {t0 t1 t2 u0 u1 u2 : Tok} {Q : Value → Shared → Prop} (ha : IsTup h a #[.int x t0, .int y t1, .int z t2]) (hb : IsTup h b #[.int x u0, .int y u1, .int z u2]) (hu : A.units + 8 < cLine) (hq : Q (.bool false) ⟨h, G, D, tk, O⟩) :
    wpAny (model PR w) A (compareOp .NotEq (.ref a) (.ref b)) Q E ⟨h, G, D, tk, O⟩ := by
  show wpAny _ _ (richCompare .NotEq (.ref a) (.ref b)) _ _ _
  have := SeqAt.RcNeAt.tuples (A := A) (s := ⟨h, G, D, tk, O⟩) (e := fun _ => true) ha hb (by omega) fun j h1 h2 => ?_
  · exact this PR w E Q hq
  · match j, h1 with
    | 0, _ => simpa using SeqAt.EqAt.int_int (A := A.in1) (s := ⟨h, G, D, tk, O⟩) x t0 x u0
    | 1, _ => simpa using SeqAt.EqAt.int_int (A := A.in1) (s := ⟨h, G, D, tk, O⟩) y t1 y u1
    | 2, _ => simpa using SeqAt.EqAt.int_int (A := A.in1) (s := ⟨h, G, D, tk, O⟩) z t2 z u2
end
set_option linter.unusedVariables false
theorem Led.callK {w : World} {g h h' : Heap} {L : Addr} {m : Str → Option Value} {led tl : Ls} {env : Env} (x : Led w g L h led) (F : Fr g L h m) (hf : env.frame = some L) (k : KeptF h h' [env]) (n : New w h h' tl) : Led w g L h' (tl ++ led) := by
  have x' := led_kept x hf k
  refine ⟨fun p hp => ?_, ?_, x.B⟩
  · rcases List.mem_append.mp hp with q | q
    · exact ⟨(n.N p q).1, (n.N p q).2.1, fresh_none F (n.N p q).2.2⟩
    · exact x'.N p q
  · rw [keys_app]
    refine List.nodup_append.mpr ⟨n.D, x.D, fun a ha b hb e => ?_⟩
    obtain ⟨p, hp, rfl⟩ := List.mem_map.mp ha
    obtain ⟨q, hq, rfl⟩ := List.mem_map.mp hb
    obtain ⟨o, ho⟩ := res_ex (x.N q hq).1
    have := (n.N p hp).2.2
    rw [e, ho] at this; cases this
theorem ffr_nil (h : Heap) : FFr h [] := fun _ he => nomatch he
theorem frs_new {g h : Heap} {L : Addr} {m : Str → Option Value} (F : Fr g L h m) {env : Env} (hf : env.frame = some L) : ∀ L' ∈ frs [env], g.get? L' = none := fun L' h' => by
  rw [frs_cons hf] at h'
  rw [List.mem_singleton.mp h']; exact fr_new F
theorem law5
  {w : World} {mg mb : Str → Option Value} {me : ExcName → Option Value} {A : Around} {g h : Heap} {G : Array GenState} {D : Drawn} {tk : Nat} {O : OsState} {L fa : Addr} {cd : Value} {m : Str → Option Value} {led : Ls} {Q : Flow → Shared → Prop}
  (X : (hd.heap_1 w.params).In g) (T : TopH mg mb me g) (hh : A.handled = none) (hdp : A.depth + 150 < recursionLimit) (hu : A.units + 600 < cLine) (hfr : A.frames = some []) (F : Fr g L h m) (N : Led w g L h led)
  {p c d de wt ru : Addr} {kve : List (Int × Value)} {tab : List (Int × E3)} {w0 w1 w2 : Nat} {rows : List UInt8} {ps : List (Nat × Nat)} {s : S3} (hT : TabFacts tab) (B : LB L tab p c d led) (EN : EE de d kve tab led) (W : EW de wt w0 w1 w2 m led) (R : LR rows m) (RU : LRu (flat ps) ru m led)
  (hw : w0 ≤ 8 ∧ w1 ≤ 8 ∧ w2 ≤ 8) (h1 : wsOf tab = (w0, w1, w2)) (h2 : ∀ p ∈ tab, fitE w0 w1 w2 p.2) (h3 : rows = tab.flatMap fun p => rowB w0 w1 w2 p.2) (h4 : given (rows ++ [10]) w0 w1 w2 ps = .ok s) (h5 : s.2.2 = tab)
  (hps : ps.length ≤ 9) (hp : ∀ p ∈ ps, p.1 + p.2 < 2 ^ 50) (hsum : (ps.map (·.2)).sum ≤ 1000)
  (hq : ∀ h tk led, Fr g L h m → Led w g L h led → LB L tab p c d led → EE de d kve tab led → EW de wt w0 w1 w2 m led →
    wpAny (model PR w) (A.deeper (lawEnv w.params L fa cd)) (execs ((lawBody w.params).drop 9) (lawEnv w.params L fa cd)) Q (fun _ _ => False) ⟨h, G, D, tk, O⟩) :
  wpAny (model PR w) (A.deeper (lawEnv w.params L fa cd)) (execs ((lawBody w.params).drop 8) (lawEnv w.params L fa cd)) Q (fun _ _ => False) ⟨h, G, D, tk, O⟩:= by
  obtain ⟨W1, W2, t0, t1, t2, mw⟩ := W
  obtain ⟨tR, mR⟩ := R
  obtain ⟨mru, rv, mrv, hrv⟩ := RU
  have h9 := hT.l9
  have hz : rows.length ≤ 9 * 24 := by
    rw [h3, rows_len]
    exact Nat.mul_le_mul h9 (by omega)
  refine' law_cut ?ho ?_
  case ho => k_is
  dsimp only [List.drop]
  repeat walk_at "S"
  refine ⟨X.keeps F.keep, ?_⟩
  refine widths_of_c X T F.keep (by show A.handled = _; exact hh) (by show A.depth + _ + _ < _; omega) (by show A.units + 3 + _ < _; omega) (N.get (r := .dct kve) EN.1) (N.hi EN.1) N.has EN.2.1 (fun p hp => ⟨(hT.ok.ok p hp).2.2.2.1, (hT.ok.ok p hp).2.2.2.2.2.1⟩) fun h tk a u0 u1 u2 st' hnew => ?_
  replace N := N.call F st' hnew
  replace F := fr_stays F st'
  replace mw := List.mem_append_right [(a, Res.tup [.int ((wsOf tab).1 : Int) u0, .int ((wsOf tab).2.1 : Int) u1, .int ((wsOf tab).2.2 : Int) u2])] mw
  have hA : IsTup h a _ := N.get (r := .tup _) (.head _)
  rw [h1] at hA
  repeat walk_at "S"
  refine neInts3 hA (N.get (r := .tup _) mw) (by show A.units + 3 + _ < _; omega) ?_
  repeat walk_at "S"
  have kx : ∀ q ∈ led, q ∈ [(a, Res.tup [.int ((wsOf tab).1 : Int) u0, .int ((wsOf tab).2.1 : Int) u1, .int ((wsOf tab).2.2 : Int) u2])] ++ led := fun q hq => List.mem_append_right _ hq
  replace B := B.sub kx
  replace EN := EN.all kx
  replace mrv := kx _ mrv
  clear kx hA hnew
  generalize [(a, Res.tup [.int ((wsOf tab).1 : Int) u0, .int ((wsOf tab).2.1 : Int) u1, .int ((wsOf tab).2.2 : Int) u2])] ++ led = led1 at N B EN mrv mw
  have hNw : Nums h (.ref wt) [(w0 : Int), (w1 : Int), (w2 : Int)] := ⟨wt, _, rfl, .cons ⟨_, rfl⟩ (.cons ⟨_, rfl⟩ (.cons ⟨_, rfl⟩ .nil)), .inr (N.get (r := .tup _) mw)⟩
  refine ⟨X.keeps F.keep, ?_⟩
  refine rows_octets_c X T F.keep (by show A.handled = _; exact hh) (by show A.depth + _ + _ < _; omega) (by show A.units + 3 + _ < _; omega) (Around.frames_deeper hfr) ((ffr_nil g).cons F rfl rfl) (N.get (r := .dct kve) EN.1) (N.hi EN.1) N.has EN.2.1 hNw (by omega) (by omega) hT.l1 (asc_le hT.ok.asc) (fun p hp => by have := hT.ok.ok p hp; exact ⟨this.2.2.1, by omega, by omega⟩) (fun h tk t st' _ => ?_) (fun e a h' tk' th z => absurd h2 z)
  replace F := fr_stays F st'
  replace N := N.stays st'
  clear st'
  repeat walk_at "S"
  refine ne_bytes ?_
  rw [show ((tab.flatMap fun p => rowB w0 w1 w2 p.2).toArray.toList != rows.toArray.toList) = false by rw [h3]; simp]
  repeat walk_at "S"
  refine addLB (b := [10]) (by simp; omega) fun _ _ => ?_
  repeat walk_at "S"
  have hNw : Nums h (.ref wt) [(w0 : Int), (w1 : Int), (w2 : Int)] := ⟨wt, _, rfl, .cons ⟨_, rfl⟩ (.cons ⟨_, rfl⟩ (.cons ⟨_, rfl⟩ .nil)), .inr (N.get (r := .tup _) mw)⟩
  have hNu : Nums h (.ref ru) (flat ps) := ⟨ru, rv, rfl, hrv, .inl (led_list N mrv)⟩
  refine ⟨X.keeps F.keep, ?_⟩
  refine heard_c X T F.keep (by show A.handled = _; exact hh) (by show A.depth + _ + _ < _; omega) (by show A.units + 3 + _ < _; omega) (Around.frames_deeper hfr) ((ffr_nil g).cons F rfl rfl) (frs_new F rfl) hNw hNu (by omega) (by simp; omega) (by omega) hp (by omega) fun h tk a l r0 r1 kf hnew hout => ?_
  rw [h4] at hout
  replace N := N.callK F rfl kf hnew
  replace F := fr_kept F rfl kf
  have hd : (L + 2, Res.cel (some (.ref d))) ∈ (a, Res.tup [r0, r1]) :: l ++ led1 := List.mem_append_right _ B.2.1
  repeat walk_at "S"
  with_reducible refine newTupleR F N (by rw [sizeLine_eq]; exact Nat.le_of_ble_eq_true rfl) fun tz h F N => ?_
  repeat (first | (with_reducible refine' Seal.ret ?K ?_; case K => with_reducible assumption) | with_reducible refine turnRet ?_)
  have ho := hout.outH (w := w) (h := h) fun p hp => N.has p (.tail _ (List.mem_append_left _ (.tail _ hp)))
  dsimp only [tabOf] at ho
  rw [h5] at ho
  obtain ⟨kvs, mk, hKT⟩ := id B.2.2.2.2.2
  have ho2 : ∀ t, OutH w h (.ok tab) (.ref d) (.int 0 t) := fun t => ⟨d, kvs, t, rfl, N.hi (.tail _ (List.mem_append_right _ mk)), N.get (r := .dct kvs) (.tail _ (List.mem_append_right _ mk)), KTH.of (w := w) (l := led1) (fun p hp => N.has p (.tail _ (List.mem_append_right _ hp))) hKT, rfl⟩
  refine neOuts (N.get (r := .tup _) (.tail _ (.head _))) (N.get (r := .tup _) N.m0) ho (ho2 _) (by show A.units + 3 + _ < _; omega) ?_
  have kz : ∀ q ∈ led1, q ∈ _ := fun q hq => N.mt (List.mem_append_right ((a, Res.tup [r0, r1]) :: l) hq)
  iterate 5 walk_at "S"
  try (with_reducible refine' Seal.next ?K ?_; case K => with_reducible assumption)
  refine' law_uncut (P := w.params) (A := A) (L := L) (fa := fa) (cd := cd) ?ho 9 ?hb ?he ?_
  case ho => k_is
  case hb => rfl
  case he => rfl
  exact hq _ _ _ F N (B.sub kz) (EN.all kz) ⟨W1, W2, t0, t1, t2, kz _ mw⟩
set_option linter.unusedVariables false
section
variable {prog : Program} {w : World} {A : Around} {E : Value → Shared → Prop} {s : Shared}
theorem nextOf_tuple_item {it l : Addr} {i : Nat} {items} {x : Value} {Q : Value → Shared → Prop} (hit : IsTupIter s.heap it l i)
    (hl : IsTup s.heap l items) (hx : items[i]? = some x)
    (hQ : ∀ h', IsTupIter h' it l (i + 1) → Heap.SameBut it s.heap h' → Q x { s with heap := h' }) :
    wpAny (model prog w) A (Builtin.SmallTypes.nextOf (.ref it)) Q E s := by
  obtain ⟨o, ho, hc, hd⟩ := id hit
  have hit' : s.TypeIs (.ref it) "tuple_iterator" := ⟨o, ho, hc⟩
  obtain ⟨ol, hol, _, nl, hdl⟩ := hl
  unfold Builtin.SmallTypes.nextOf
  refine wpAny_bind (wpAny_callSpecial?_slot (name := Str.ofString "__next__") hit' PySem.F.slot_tuple_iterator_next
    (wpAny_call_entry PySem.F.slot_tuple_iterator_next hit' PySem.F.entry_tuple_iterator_next ?_ (PySem.F.args_tuple_iterator_next_1 _)))
  show wpAny _ _ (field (.ref it) 0 >>= _) _ _ s
  refine wpAny_bind (wpAny_field ho hd (x := .ref l) rfl ?_)
  show wpAny _ _ (if (Value.ref l == Value.none) = true then _ else _) _ _ s
  rw [if_neg (show ¬ ((Value.ref l == Value.none) = true) from Bool.false_ne_true)]
  show wpAny _ _ (field (.ref it) 1 >>= _) _ _ s
  refine wpAny_bind (wpAny_field ho hd (x := .int i 0) rfl ?_)
  show wpAny _ _ (seqItems? (.ref l) >>= _) _ _ s
  refine wpAny_bind (wpAny_seqItems hol hdl ?_)
  simp only [Int.toNat_natCast, hx]
  refine wpAny_bind (wpAny_setField ho hd (by simp) (wpAny_pure ⟨x, rfl, wpAny_pure (hQ _ ?_ (Heap.SameBut.update ..))⟩))
  exact ⟨_, Heap.get?_update_self _ ho (Obj.isFreed_of_fields (Obj.data_mapFields hd _)), (Obj.cls_mapFields ..).trans hc, by
    rw [Obj.data_mapFields hd]; simp [rawInt]⟩
theorem nextOf_tuple_end {it l : Addr} {i : Nat} {items} {Q : Value → Shared → Prop} (hh : A.handled = none)
    (hit : IsTupIter s.heap it l i) (hl : IsTup s.heap l items) (hx : items[i]? = none)
    (hE : ∀ h' e, Heap.ExtBut it s.heap h' → (∃ o, h'.get? e = some o ∧ o.cls = .type "StopIteration") → E (.ref e) { s with heap := h' }) :
    wpAny (model prog w) A (Builtin.SmallTypes.nextOf (.ref it)) Q E s := by
  obtain ⟨o, ho, hc, hd⟩ := id hit
  have hit' : s.TypeIs (.ref it) "tuple_iterator" := ⟨o, ho, hc⟩
  obtain ⟨ol, hol, _, nl, hdl⟩ := hl
  unfold Builtin.SmallTypes.nextOf
  refine wpAny_bind (wpAny_callSpecial?_slot (name := Str.ofString "__next__") hit' PySem.F.slot_tuple_iterator_next
    (wpAny_call_entry PySem.F.slot_tuple_iterator_next hit' PySem.F.entry_tuple_iterator_next ?_ (PySem.F.args_tuple_iterator_next_1 _)))
  show wpAny _ _ (field (.ref it) 0 >>= _) _ _ s
  refine wpAny_bind (wpAny_field ho hd (x := .ref l) rfl ?_)
  show wpAny _ _ (if (Value.ref l == Value.none) = true then _ else _) _ _ s
  rw [if_neg (show ¬ ((Value.ref l == Value.none) = true) from Bool.false_ne_true)]
  show wpAny _ _ (field (.ref it) 1 >>= _) _ _ s
  refine wpAny_bind (wpAny_field ho hd (x := .int i 0) rfl ?_)
  show wpAny _ _ (seqItems? (.ref l) >>= _) _ _ s
  refine wpAny_bind (wpAny_seqItems hol hdl ?_)
  simp only [Int.toNat_natCast, hx]
  refine wpAny_bind (wpAny_rule (wpAny_bind (wpAny_setField ho hd (by simp) ?_)))
  show wpAny _ _ (newExc (.type "StopIteration") [] >>= _) _ _ _
  refine wpAny_bind ?_
  simp only [newExc, newTuple]
  refine wpAny_bind (wpAny_newObj_type ?_ (by size_fits))
  refine wpAny_bind (m := firstArgMember _ _) (wpAny_of_eq (a := Value.none) (by first | rfl | (simp only [firstArgMember]; rfl)) ?_)
  refine wpAny_newObj_type ?_ (by size_fits)
  simp only [raiseNew]
  refine wpAny_bind (wpAny_handled ?_)
  first | rw [show A.in1.handled = none from hh] | rw [hh]
  refine wpAny_bind (wpAny_pure (wpAny_throw ?_))
  exact hE _ _ (((Heap.SameBut.update ..).extBut.push _).push _) ⟨_, Heap.get?_push_size _ rfl, rfl⟩
theorem tupIter_at {h h' : Heap} {a t : Addr} {i : Nat} (x : IsTupIter h a t i) (k : ∀ o, h.get? a = some o → h'.get? a = some o) : IsTupIter h' a t i := let ⟨o, ho, r⟩ := x; ⟨o, k _ ho, r⟩
theorem tup_at {h h' : Heap} {a : Addr} {vs : Array Value} (x : IsTup h a vs) (k : ∀ o, h.get? a = some o → h'.get? a = some o) : IsTup h' a vs := let ⟨o, ho, r⟩ := x; ⟨o, k _ ho, r⟩
theorem drawsTuple (hh : A.handled = none) (it l : Addr) (hne : l ≠ it) (items : Array Value) :
    Draws prog w A it [it, l] items.size (fun i v => items[i]? = some v) (fun i h => IsTupIter h it l i ∧ IsTup h l items) where
  live := fun _ _ st => let ⟨o, ho, _⟩ := st.1; ⟨o, ho⟩
  frame := fun _ _ _ st hk => ⟨tupIter_at st.1 fun o e => hk it (by simp) o e, tup_at st.2 fun o e => hk l (by simp) o e⟩
  item := fun i s Q E hi st hQ => by
    refine nextOf_tuple_item st.1 st.2 (x := items[i]) (by simp [hi]) fun h' hit' hs' => ?_
    exact hQ _ h' s.toks (by simp [hi]) ⟨hit', tup_at st.2 fun o e => (hs'.2 l hne).trans e⟩ hs'
  done := fun s Q E st hE => nextOf_tuple_end hh st.1 st.2 (by simp) hE
theorem enumerate_newT (l : Addr) (items : Array Value) (n : Nat) (dct : Option Addr) (sl : Array (Option Value)) :
    Meets (Builtin.«enumerate.__new__» ⟨[.type "enumerate", .ref l], []⟩) (fun _ R s => s.heap.get? l = some { cls := .type "tuple", dict := dct, data := .seq items n, slots := sl } ∧
      R (.ok (.ret (.ref (s.heap.push { cls := .type "tuple_iterator", data := .fields #[.ref l, .int 0 0] }).objs.size)))
        { s with heap := (s.heap.push { cls := .type "tuple_iterator", data := .fields #[.ref l, .int 0 0] }).push { cls := .type "enumerate", data := .fields #[.none, .bool false, .ref s.heap.objs.size, rawInt 0, .none, .none] } }) :=
  .of_wp fun prog w A R s h => by
    obtain ⟨hp, g, d, tk, os⟩ := s; obtain ⟨hl, h⟩ := h
    have hsub := sub_enumerate
    have hL : IsTup (Shared.heap ⟨hp, g, d, tk, os⟩) l items := ⟨_, hl, rfl, n, rfl⟩
    wp_walk using AutoSeq1.wpAny_loadPart' hl
    refine wpAny_stack_any fun st => wpAny_pure ?_
    split
    · rename_i c _ _ _ _ _
      cases (c == Value.type "enumerate")
      · wp_walk using AutoSeq1.wpAny_loadPart' hl, iter_tuple hL
        exact ⟨_, rfl, h⟩
      · wp_walk using AutoSeq1.wpAny_loadPart' hl, iter_tuple hL
        exact ⟨_, rfl, h⟩
    · wp_walk using AutoSeq1.wpAny_loadPart' hl, iter_tuple hL
      exact ⟨_, rfl, h⟩
theorem enumT {l : Addr} {items : Array Value} {Q : Value → Shared → Prop} (hL : IsTup s.heap l items)
    (h : ∀ h', IsEnum h' (s.heap.objs.size + 1) s.heap.objs.size 0 .none → IsTupIter h' s.heap.objs.size l 0 → h'.objs.size = s.heap.objs.size + 2 →
      (∀ b o, s.heap.get? b = some o → h'.get? b = some o) → Q (.ref (s.heap.objs.size + 1)) { s with heap := h' }) :
    wpAny (model prog w) A (call (.type "enumerate") [.ref l]) Q E s := by
  obtain ⟨⟨c, dct, dt, sl⟩, hl, hc, n, hd⟩ := hL
  replace hc : c = .type "tuple" := hc
  replace hd : dt = .seq items n := hd
  subst hc hd
  refine callType_new PySem.F.called_enumerate (by decide) (PySem.F.typeCall_enumerate_1 _) (PySem.F.newCall_enumerate_1 _) (fun obj => PySem.F.args_object_init_2 obj _) PySem.F.entry_enumerate_new
    (enumerate_newT l items n dct sl) ⟨hl, ?_⟩
  have hz : (s.heap.push { cls := .type "tuple_iterator", data := .fields #[.ref l, .int 0 0] }).objs.size = s.heap.objs.size + 1 := Heap.size_push ..
  show _ ∧ _
  rw [hz]
  have he : IsEnum ((s.heap.push { cls := .type "tuple_iterator", data := .fields #[.ref l, .int 0 0] }).push
      { cls := .type "enumerate", data := .fields #[.none, .bool false, .ref s.heap.objs.size, rawInt 0, .none, .none] }) (s.heap.objs.size + 1) s.heap.objs.size 0 .none := by
    have := Heap.get?_push_size (s.heap.push { cls := .type "tuple_iterator", data := .fields #[.ref l, .int 0 0] })
      (o := { cls := .type "enumerate", data := .fields #[.none, .bool false, .ref s.heap.objs.size, rawInt 0, .none, .none] }) rfl
    rw [hz] at this; exact this
  refine ⟨⟨_, he, rfl⟩, h _ he ⟨_, Heap.get?_push_of_some _ (Heap.get?_push_size _ rfl), rfl, rfl⟩ (by rw [Heap.size_push, hz]) fun b o x => Heap.get?_push_of_some _ (Heap.get?_push_of_some _ x)⟩
end
set_option linter.unusedVariables false
section
variable {w : World} {A : Around} {E : Value → Shared → Prop} {G : Array GenState} {Dr : Drawn} {O : OsState} {g : Heap} {L : Addr} {m : Str → Option Value} {h : Heap} {tk : Nat} {led : Ls} {env : Env} {elt iter : Expr} {x y : Str} {px py tp : Pos} {kk : Nat} {scope : Scope} {cl : List (Str × Addr)} {pos : Pos}
def CompAtT (w : World) (A : Around) (env : Env) (elt : Expr) (x y : Str) (px py : Pos) (kk : Nat) (tp : Pos) (iter : Expr) (scope : Scope) (cl : List (Str × Addr)) (pos : Pos) (RR : Value → Addr → Result → Shared → Prop) (E : Value → Shared → Prop) (it : Value) (s₂ : Shared) : Prop :=
  wpAny (model PR w) A (newList []) (fun acc s₃ => wpAny (model PR w) A (newFunctionEnv scope env.globals cl [] env.qual none .none (some env)) (fun cenv s₄ =>
      codeAny (model PR w) A (.compStart (.ListComp elt [⟨.Tuple [.Name x px, .Name y py] kk tp, iter, [], 0⟩] scope pos) 0 it acc { cenv with scope := relabel scope env }) (RR acc cenv.locals) s₄) E s₃) E s₂
def PostA (w : World) (A : Around) (env : Env) (z : Str) (pz : Pos) (Q : Flow → Shared → Prop) (E : Value → Shared → Prop) (acc : Value) (C : Addr) : Result → Shared → Prop := compPost (model PR w) A E (some (assign (.Name z pz) env)) (fun _ s' => Q .next s') acc C
theorem compSTA {z : Str} {pz spos : Pos} {Q : Flow → Shared → Prop} {s : Shared}
    (hq : wpAny (model PR w) A (eval iter env) (fun xv s₁ => wpAny (model PR w) A (pyIter xv) (fun it s₂ => CompAtT w A env elt x y px py kk tp iter scope cl pos (PostA w A env z pz Q E) E it s₂) E s₁) E s)
    (hsw : swapsWith (.ListComp elt [⟨.Tuple [.Name x px, .Name y py] kk tp, iter, [], 0⟩] scope pos) (some (.Name z pz)) spos.line env = pure true)
    (hclos : closureFor scope env = pure cl) (hkind : scope.kind = .function) (hnames : ∀ y ∈ scope.names, y.2 = .local → scope.names.lookup y.1 = some .local)
    (hs : ∀ x, foldedSetIterable iter env x = pure x) : wpAny (model PR w) A (exec (.Assign [.Name z pz] (.ListComp elt [⟨.Tuple [.Name x px, .Name y py] kk tp, iter, [], 0⟩] scope pos) spos) env) Q E s := by
  rw [exec_Assign_Name_used _ _ _ _ hsw]
  refine wpAny_bind (wpAny_standAt (wpAny_bind ?_))
  show wpAny _ A (do let _ ← comprehension (.ListComp elt [⟨.Tuple [.Name x px, .Name y py] kk tp, iter, [], 0⟩] scope pos) scope env _ (newList []) false (eval iter env) (some (assign (.Name z pz) env))) _ _ s
  exact wpAny_bind (wpAny_mono (wpAny_comprehension_free (use := some (assign (.Name z pz) env)) (Q := fun _ s' => Q .next s') rfl hs hclos hkind hnames hq) (fun _ s' hq => wpAny_pure (wpAny_pure hq)) fun _ _ e => e)
theorem doneA {z : Str} {pz : Pos} {Q : Flow → Shared → Prop} {C D : Addr} {mC : Str → Option Value} {ys : List Value} (hk : env.scope.kind = .function) (hl : env.kindOf z = some .local) (hL : env.locals = L) (F : Fr g L h m) (N : Led w g L h ((C, .nsp mC) :: (D, .lst ys) :: led))
    (hq : ∀ h' tk', Fr g L h' (fun u => if u = z then some (.ref D) else m u) → Led w g L h' ((D, .lst ys) :: led) → Q .next ⟨h', G, Dr, tk', O⟩) : PostA w A env z pz Q E (.ref D) C (.ok .next) ⟨h, G, Dr, tk, O⟩ := by
  unfold PostA
  show wpAny _ A (assign (.Name z pz) env (.ref D)) _ _ _
  refine wpAny_assign_Name (stR F N hk hl hL fun h2 tk2 F2 N2 => ?_)
  refine ⟨mC, N2.get (a := C) (r := .nsp mC) (.head _), fun h₅ hs => hq h₅ _ ?_ ?_⟩
  · have hC1 := N2.N (C, .nsp mC) (.head _)
    exact ⟨F2.ns.sameBut hs (Ne.symm hC1.2.2.1), fun b o e => (hs.2 b fun q => by rw [q, hC1.2.2.2] at e; cases e).trans (F2.keep b o e), F2.above⟩
  · exact ⟨fun p hp => ⟨at_of (N2.N p (.tail _ hp)).1 fun o e => (hs.2 _ (N2.off p hp)).trans e, (N2.N p (.tail _ hp)).2⟩, by have := N2.D; rw [keys_cons, List.nodup_cons] at this; exact this.2, N2.B⟩
inductive ESt (w : World) (g : Heap) (L : Addr) (m : Str → Option Value) (I I2 C D t : Addr) (vs : List Value) (led : Ls) (J : Nat → List Value → Prop) (G : Array GenState) (Dr : Drawn) (O : OsState) (k : Nat) (s' : Shared) : Prop
  | mk (h' : Heap) (tk i : Nat) (ys : List Value) (mC : Str → Option Value) (x1 : s' = ⟨h', G, Dr, tk, O⟩) (x2 : i ≤ vs.length) (x3 : k = vs.length + 1 - i) (x4 : ys.length = i)
    (x5 : (∃ old, IsEnum h' I I2 (i : Nat) old) ∧ IsTupIter h' I2 t i ∧ IsTup h' t vs.toArray) (x6 : Fr g L h' m) (x7 : Led w g L h' ((C, .nsp mC) :: (D, .lst ys) :: led)) (x8 : J i ys) : ESt w g L m I I2 C D t vs led J G Dr O k s'
theorem compEnum {t : Addr} {vs : List Value} {RR : Value → Addr → Result → Shared → Prop} (hh : A.handled = none) (F : Fr g L h m) (N : Led w g L h led) (mt : (t, Res.tup vs) ∈ led)
    (hcell : ∀ y ∈ scope.names, y.2 ≠ .cell) (hkind : scope.kind = .function) (hx : scope.names.lookup x = some .local) (hy : scope.names.lookup y = some .local) (hxy : x ≠ y) (hn : vs.length ≤ 1000)
    (J : Nat → List Value → Prop) (hJ : J 0 [])
    (turn : ∀ I I2 C D i v u ys mC oI oI2 h tk (E' : Value → Shared → Prop), vs[i]? = some v → J i ys → mC x = some (.int (i : Nat) u) → mC y = some v → Fr g L h m → Led w g L h ((I, .raw oI) :: (I2, .raw oI2) :: (C, .nsp mC) :: (D, .lst ys) :: led) →
      wpAny (model PR w) A (eval elt (compEnvC scope cl C env)) (fun val s₂ => J (i + 1) (ys ++ [val]) ∧ ∃ h' tk', s₂ = ⟨h', G, Dr, tk', O⟩ ∧ Fr g L h' m ∧ Led w g L h' ((I, .raw oI) :: (I2, .raw oI2) :: (C, .nsp mC) :: (D, .lst ys) :: led)) E' ⟨h, G, Dr, tk, O⟩)
    (done : ∀ C D mC ys h tk, J vs.length ys → Fr g L h m → Led w g L h ((C, .nsp mC) :: (D, .lst ys) :: led) → RR (.ref D) C (.ok .next) ⟨h, G, Dr, tk, O⟩) :
    wpAny (model PR w) A (call (.type "enumerate") [.ref t]) (fun xv s₁ => wpAny (model PR w) A (pyIter xv) (fun it s₂ => CompAtT w A env elt x y px py kk tp iter scope cl pos RR E it s₂) E s₁) E ⟨h, G, Dr, tk, O⟩ := by
  refine enumT (N.get (r := .tup vs) mt) fun h1 hE hI hsz1 k1 => ?_
  dsimp only at hE hI hsz1 k1 ⊢
  have F1 := fr_stays F k1
  have N1 := N.stays k1
  have hg3 := N.gt F
  have fe : h.objs.size + 1 ≠ L ∧ g.get? (h.objs.size + 1) = none := fresh_none F (Heap.get?_none_of_le (Nat.le_succ h.objs.size))
  have fi := fresh_none F (size_none h)
  have offe : ∀ p ∈ led, p.1 ≠ h.objs.size + 1 := fun p hp => Nat.ne_of_lt (Nat.lt_succ_of_lt (N.size p hp))
  have offi : ∀ p ∈ led, p.1 ≠ h.objs.size := fun p hp => Nat.ne_of_lt (N.size p hp)
  have hei : h.objs.size + 1 ≠ h.objs.size := Nat.succ_ne_self _
  have hte := offe _ mt
  have hti := offi _ mt
  have he3 : 3 < h.objs.size + 1 := Nat.lt_succ_of_lt hg3
  refine wpAny_pyIter_enum hE ?_
  have hlte : h.objs.size + 1 < h1.objs.size := by rw [hsz1]; exact Nat.lt_succ_self _
  clear hsz1 k1 F N
  generalize h.objs.size + 1 = I at hE fe offe hei hte he3 hlte ⊢
  generalize h.objs.size = I2 at hE hI fi offi hei hti hg3 ⊢
  have W := WalksT.enumerateD (drawsTuple (prog := PR) (w := w) (A := A.in1) (by simp [hh]) I2 t hti vs.toArray) I hei (by simp [hei, Ne.symm hte]) (by simp)
  have ht1 : IsTup h1 t vs.toArray := N1.get (r := .tup vs) mt
  unfold CompAtT
  refine wpAny_newObj_type (wpAny_newFunctionEnv hcell (by intro y hy; simp at hy) (fun h₁ hns₁ hsb₁ => ?_) hkind)
  dsimp only at hns₁ hsb₁ ⊢
  have F2 := fr_push F1 { cls := .type "list", dict := none, data := .seq ([] : List Value).toArray }
  have N2 : Led w g L _ ((h1.objs.size, .lst []) :: led) := N1.push F1 (o := { cls := .type "list", dict := none, data := .seq ([] : List Value).toArray }) ⟨0, Heap.get?_push_size _ rfl⟩
  have hE2 : IsEnum (h1.push { cls := .type "list", dict := none, data := .seq ([] : List Value).toArray }) I I2 0 .none := Heap.get?_push_of_some _ hE
  have hI2 : IsTupIter (h1.push { cls := .type "list", dict := none, data := .seq ([] : List Value).toArray }) I2 t 0 := tupIter_at hI fun o e => Heap.get?_push_of_some _ e
  have offe2 : ∀ p ∈ (h1.objs.size, Res.lst []) :: led, p.1 ≠ I := fun p hp => by
    rcases List.mem_cons.mp hp with rfl | hp
    · exact Nat.ne_of_gt hlte
    · exact offe p hp
  have hli1 : I2 < h1.objs.size := by obtain ⟨o, ho, _⟩ := hI; exact Heap.lt_size ho
  have offi2 : ∀ p ∈ (h1.objs.size, Res.lst []) :: led, p.1 ≠ I2 := fun p hp => by
    rcases List.mem_cons.mp hp with rfl | hp
    · exact Nat.ne_of_gt hli1
    · exact offi p hp
  have hlt2 : I < (h1.push { cls := .type "list", dict := none, data := .seq ([] : List Value).toArray }).objs.size := Heap.lt_size hE2
  have hli2 : I2 < (h1.push { cls := .type "list", dict := none, data := .seq ([] : List Value).toArray }).objs.size := by obtain ⟨o, ho, _⟩ := hI2; exact Heap.lt_size ho
  generalize h1.push { cls := .type "list", dict := none, data := .seq ([] : List Value).toArray } = H2 at hns₁ hsb₁ F2 N2 hE2 hI2 hlt2 hli2 ⊢
  have hk : H2.StaysIn h₁ := fun b o e => hsb₁.extBut b o (Nat.ne_of_lt (Heap.lt_size e)) (Heap.get?_push_of_some _ e)
  have F3 : Fr g L h₁ m := fr_stays F2 hk
  have N3 : Led w g L h₁ ((H2.objs.size, .nsp fun x => ([] : List (Str × Value)).reverse.lookup x) :: (h1.objs.size, .lst []) :: led) := N2.grown F2 hk (Nat.le_refl _) hns₁
  have offe3 : ∀ p ∈ (H2.objs.size, Res.nsp fun x => ([] : List (Str × Value)).reverse.lookup x) :: (h1.objs.size, Res.lst []) :: led, p.1 ≠ I := fun p hp => by
    rcases List.mem_cons.mp hp with rfl | hp
    · exact Nat.ne_of_gt hlt2
    · exact offe2 p hp
  have offi3 : ∀ p ∈ (H2.objs.size, Res.nsp fun x => ([] : List (Str × Value)).reverse.lookup x) :: (h1.objs.size, Res.lst []) :: led, p.1 ≠ I2 := fun p hp => by
    rcases List.mem_cons.mp hp with rfl | hp
    · exact Nat.ne_of_gt hli2
    · exact offi2 p hp
  have hE3 : IsEnum h₁ I I2 0 .none := hk _ _ hE2
  have hI3 : IsTupIter h₁ I2 t 0 := tupIter_at hI2 fun o e => hk _ _ e
  generalize (fun x => ([] : List (Str × Value)).reverse.lookup x) = mC0 at N3 offe3 offi3
  generalize H2.objs.size = C at N3 offe3 offi3 ⊢
  generalize h1.objs.size = D at N3 offe3 offi3 ⊢
  have hCe : C ≠ I := offe3 (C, Res.nsp mC0) (.head _)
  have hCi : C ≠ I2 := offi3 (C, Res.nsp mC0) (.head _)
  have hDe : D ≠ I := offe3 (D, Res.lst []) (.tail _ (.head _))
  have hDi : D ≠ I2 := offi3 (D, Res.lst []) (.tail _ (.head _))
  have St0 : (∃ old, IsEnum h₁ I I2 (0 : Nat) old) ∧ IsTupIter h₁ I2 t 0 ∧ IsTup h₁ t vs.toArray := ⟨⟨_, hE3⟩, hI3, N3.get (r := .tup vs) (.tail _ (.tail _ mt))⟩
  have loop : ∀ tk, codeAny (model PR w) A (.compLoop (.ListComp elt [⟨.Tuple [.Name x px, .Name y py] kk tp, iter, [], 0⟩] scope pos) 0 (.ref I) (.ref D) (compEnvC scope cl C env)) (RR (.ref D) C) ⟨h₁, G, Dr, tk, O⟩ := by
    intro tk
    refine LCp.codeAny_compLoop_pair
      (ESt w g L m I I2 C D t vs led J G Dr O) ?_ (vs.length + 1)
      ⟨h₁, tk, 0, [], mC0, rfl, Nat.zero_le _, rfl, rfl, St0, F3, N3, hJ⟩
    rintro k s' ⟨h', tk, i, ys, mC, rfl, hi, rfl, hyl, hst, F', N', hJ'⟩
    have oe : ∀ p ∈ (C, Res.nsp mC) :: (D, Res.lst ys) :: led, p.1 ≠ I ∧ p.1 ≠ I2 := fun p hp => by
      rcases List.mem_cons.mp hp with rfl | hp
      · exact ⟨hCe, hCi⟩
      · rcases List.mem_cons.mp hp with rfl | hp
        · exact ⟨hDe, hDi⟩
        · exact ⟨offe p hp, offi p hp⟩
    have step2 : ∀ {ha hb : Heap}, Fr g L ha m → Led w g L ha ((C, .nsp mC) :: (D, .lst ys) :: led) → (∀ b o, b ∉ [I, I2] → ha.get? b = some o → hb.get? b = some o) → Fr g L hb m ∧ Led w g L hb ((C, .nsp mC) :: (D, .lst ys) :: led) := by
      intro ha hb Fa Na hk₂
      refine ⟨⟨Fa.ns.at' fun o e => hk₂ _ o (by simp [Ne.symm fe.1, Ne.symm fi.1]) e, fun b o e => hk₂ b o (fun q => ?_) (Fa.keep b o e), Fa.above⟩, ⟨fun p hp => ⟨at_of (Na.N p hp).1 fun o e => hk₂ _ o (by simp [(oe p hp).1, (oe p hp).2]) e, (Na.N p hp).2⟩, Na.D, Na.B⟩⟩
      simp only [List.mem_cons, List.not_mem_nil, or_false] at q
      rcases q with rfl | rfl
      · rw [fe.2] at e; cases e
      · rw [fi.2] at e; cases e
    by_cases hlt : i < vs.length
    · refine W.item i _ _ _ (by simpa using hlt) hst fun T vals h₂ tk₂ hPt hge hT hmid hk₂ => ?_
      obtain ⟨u, v, hv, rfl⟩ := hPt
      have hv' : vs[i]? = some v := by simpa using hv
      obtain ⟨F4, N4⟩ := step2 F' N' hk₂
      have hTw := W.apart i T _ hmid
      dsimp only
      refine W.go _ _ _ i T _ _ _ hmid fun h₃ hst₃ hk₃ => ?_
      obtain ⟨F5, N5⟩ := step2 F4 N4 hk₃
      have ht3 : IsTup h₃ T #[.int (i : Nat) u, v] := tup_at hT fun o e => hk₃ _ _ hTw e
      refine assign_Tuple_tuple hh ht3 rfl rfl fun h₅ he => ?_
      have he' : h₃.StaysIn h₅ := fun b o e => he b o (Nat.ne_of_lt (Heap.lt_size e)) e
      have F6 := fr_stays F5 he'
      have N6 := N5.stays he'
      have hst5 : (∃ old, IsEnum h₅ I I2 ((i + 1 : Nat) : Int) old) ∧ IsTupIter h₅ I2 t (i + 1) ∧ IsTup h₅ t vs.toArray := by
        obtain ⟨⟨old, h1⟩, h2, h3⟩ := hst₃
        exact ⟨⟨old, he' _ _ h1⟩, tupIter_at h2 fun o e => he' _ _ e, tup_at h3 fun o e => he' _ _ e⟩
      refine assignInOrder_cons (wpAny_assign_Name (wpAny_storeName_local (lookup_relabel_local hx) (N6.get (a := C) (r := .nsp mC) (.head _)) (fun h₆ hn₆ hs₆ => ?_) (by simp [compEnvC, relabel, hkind])))
      obtain ⟨F7, N7⟩ := Led.upd0 (r' := .nsp fun z => if z = x then some (.int (i : Nat) u) else mC z) N6 F6 hs₆ hn₆
      refine assignInOrder_cons (wpAny_assign_Name (wpAny_storeName_local (lookup_relabel_local hy) hn₆ (fun h₇ hn₇ hs₇ => ?_) (by simp [compEnvC, relabel, hkind])))
      obtain ⟨F8, N8⟩ := Led.upd0 (r' := .nsp fun z => if z = y then some v else if z = x then some (.int (i : Nat) u) else mC z) N7 F7 hs₇ hn₇
      refine assignInOrder_nil ?_
      obtain ⟨⟨old, hE7⟩, hI7, _⟩ : (∃ old, IsEnum h₇ I I2 ((i + 1 : Nat) : Int) old) ∧ IsTupIter h₇ I2 t (i + 1) ∧ IsTup h₇ t vs.toArray := by
        obtain ⟨⟨old, h1⟩, h2, h3⟩ := hst5
        have q : ∀ b o, b ≠ C → h₅.get? b = some o → h₇.get? b = some o := fun b o n e => (hs₇.2 b n).trans ((hs₆.2 b n).trans e)
        exact ⟨⟨old, q _ _ (Ne.symm hCe) h1⟩, tupIter_at h2 fun o e => q _ _ (Ne.symm hCi) e, N8.get (r := .tup vs) (.tail _ (.tail _ mt))⟩
      obtain ⟨oI2, hoI2, hcI2, hdI2⟩ := id hI7
      obtain ⟨oI, hoI, eoI⟩ : ∃ o, h₇.get? I = some o ∧ o = ({ cls := .type "enumerate", dict := none, data := .fields #[.none, .bool false, .ref I2, rawInt ((i + 1 : Nat) : Int), .none, old], slots := #[] } : Obj) := ⟨_, hE7, rfl⟩
      have N9 : Led w g L h₇ ((I, .raw oI) :: (I2, .raw oI2) :: (C, .nsp fun z => if z = y then some v else if z = x then some (.int (i : Nat) u) else mC z) :: (D, .lst ys) :: led) := by
        refine ⟨fun p hp => ?_, ?_, N8.B⟩
        · rcases List.mem_cons.mp hp with rfl | hp
          · exact ⟨hoI, he3, fe⟩
          · rcases List.mem_cons.mp hp with rfl | hp
            · exact ⟨hoI2, hg3, fi⟩
            · exact N8.N p hp
        · have D8 := N8.D
          have k1 : ∀ p ∈ (C, Res.nsp fun z => if z = y then some v else if z = x then some (.int (i : Nat) u) else mC z) :: (D, Res.lst ys) :: led, p.1 ≠ I ∧ p.1 ≠ I2 := fun p hp => by
            rcases List.mem_cons.mp hp with rfl | hp
            · exact ⟨hCe, hCi⟩
            · exact oe p (.tail _ hp)
          rw [keys_cons, keys_cons, List.nodup_cons, List.nodup_cons]
          refine ⟨fun z => ?_, fun z => ?_, D8⟩
          · rcases List.mem_cons.mp z with z | z
            · exact hei z
            · obtain ⟨p, hp, e⟩ := List.mem_map.mp z
              exact (k1 p hp).1 e
          · obtain ⟨p, hp, e⟩ := List.mem_map.mp z
            exact (k1 p hp).2 e
      refine wpAny_mono (turn I I2 C D i v u ys _ _ oI2 h₇ _ _ hv' hJ' (by simp [hxy]) (by simp) F8 N9) (fun val s₄ hs4 => ?_) fun _ _ e => e
      obtain ⟨hJ5, h₈, tk₈, rfl, F9, N10⟩ := hs4
      refine appendM F9 N10 (l := D) (vs := ys) (.tail _ (.tail _ (.tail _ (.head _)))) (by omega) fun h₉ led9 F10 N11 mD hk9 => ?_
      have hIr := N11.get (a := I) (r := .raw oI) (hk9 _ (.head _) (by simp))
      have hI2r := N11.get (a := I2) (r := .raw oI2) (hk9 _ (.tail _ (.head _)) (by simp))
      have hmem : ∀ p ∈ (C, Res.nsp fun z => if z = y then some v else if z = x then some (.int (i : Nat) u) else mC z) :: (D, Res.lst (ys ++ [val])) :: led, p ∈ led9 := fun p hp => by
        rcases List.mem_cons.mp hp with rfl | hp
        · exact hk9 _ (.tail _ (.tail _ (.head _))) (by simp)
        · rcases List.mem_cons.mp hp with rfl | hp
          · exact mD
          · refine hk9 _ (.tail _ (.tail _ (.tail _ (.tail _ hp)))) fun e => ?_
            have := (N8.subl (List.sublist_cons_self _ _)).off p hp
            exact this (by rw [e])
      have N12 : Led w g L h₉ ((C, Res.nsp fun z => if z = y then some v else if z = x then some (.int (i : Nat) u) else mC z) :: (D, Res.lst (ys ++ [val])) :: led) := ⟨fun p hp => N11.N p (hmem p hp), N8.D, N11.B⟩
      refine ⟨vs.length + 1 - (i + 1), by omega, h₉, tk₈, i + 1, ys ++ [val], _, rfl, hlt, rfl, by simp [hyl], ⟨⟨old, ?_⟩, ⟨oI2, hI2r, hcI2, hdI2⟩, N12.get (r := .tup vs) (.tail _ (.tail _ mt))⟩, F10, N12, hJ5⟩
      rw [eoI] at hIr
      exact hIr
    · have hin : i = vs.length := by omega
      subst hin
      refine W.done _ _ _ (by simpa using hst) fun h₂ tk₂ hk₂ => ?_
      obtain ⟨F4, N4⟩ := step2 F' N' hk₂
      exact done C D mC ys h₂ tk₂ hJ' F4 N4
  exact codeAny_compStart_list (loop _) (W.self 0 _ _ _ St0 (loop _))
end
set_option linter.unusedVariables false
section
variable {w : World} {A : Around} {E : Value → Shared → Prop} {h : Heap} {G : Array GenState} {D : Drawn} {tk : Nat} {O : OsState} {env : Env} {g : Heap} {L : Addr} {x : Str} {px : Pos} {body : List Stmt} {Q : Flow → Shared → Prop} {m : Str → Option Value} {led : Ls}
theorem loopRC {I c : Addr} {n : Nat} {P : Nat → Value → Prop} {It : Nat → Heap → Prop} {C₀ : Heap → Prop} (K : Wk w A I n P It C₀) (hk : env.scope.kind = .function) (hl : env.kindOf x = some .cell) (hc : env.cells.lookup x = some c)
    (hE : PassesOwn (model PR w) A env E)
    (h0 : It 0 h) (F : Fr g env.locals h m) (N : Led w g env.locals h led) (fI : I ≠ env.locals ∧ g.get? I = none) (h3 : 3 < I) (off : ∀ p ∈ led, p.1 ≠ I)
    (J : Nat → (Str → Option Value) → Ls → Prop) (hJ : J 0 m led) (hcel : ∀ i m led, J i m led → ∃ v, (c, Res.cel v) ∈ led)
    (hC : ∀ h, C₀ h)
    (turn : ∀ i v m₁ led₁ led₂ oI h tk, i < n → P i v → J i m₁ led₁ → (c, Res.cel (some v)) ∈ led₂ → (∀ p ∈ led₁, (∀ v, p ≠ (c, Res.cel v)) → p ∈ led₂) → Fr g env.locals h m₁ → Led w g env.locals h ((I, .raw oI) :: led₂) →
      wpAny (model PR w) A (execs body env) (TurnEnd w g env.locals I oI (J (i + 1)) G D O Q) E ⟨h, G, D, tk, O⟩)
    (done : ∀ m₁ led₁ h tk, J n m₁ led₁ → Fr g env.locals h m₁ → Led w g env.locals h led₁ → Q .next ⟨h, G, D, tk, O⟩) :
    codeAny (model PR w) A (.forLoop (.Name x px) (.ref I) body [] env) (fun r s' => match r with | .ok f => Q f s' | .error e => cameBackBy (model PR w) A env E e s') ⟨h, G, D, tk, O⟩ := by
  refine codeAny_forLoop
    (LSt w g env.locals I n It J G D O) ?_ (n + 1)
    ⟨h, tk, m, led, 0, rfl, h0, F, N, off, hJ, Nat.zero_le _, rfl⟩
  rintro k s' ⟨h', tk, m', led', i, rfl, hit, F', N', off', hJ', hi, rfl⟩
  by_cases hlt : i < n
  · refine K.item i _ _ _ hlt hit (hC _) fun v h₁ tk₁ hP hit₁ hk₁ => ?_
    obtain ⟨F₁, N₁⟩ := next_keeps F' N' fI off' hk₁
    obtain ⟨v0, hm⟩ := hcel _ _ _ hJ'
    have hcI : c ≠ I := off' _ hm
    obtain ⟨oI, hoI⟩ := K.ex _ _ hit₁
    have N₂ : Led w g env.locals h₁ ((I, .raw oI) :: led') := by
      refine ⟨fun p hp => ?_, ?_, N₁.B⟩
      · rcases List.mem_cons.mp hp with rfl | hp
        · exact ⟨hoI, h3, fI⟩
        · exact N₁.N p hp
      · rw [keys_cons, List.nodup_cons]
        refine ⟨fun z => ?_, N₁.D⟩
        obtain ⟨p, hp, e⟩ := List.mem_map.mp z
        exact off' p hp e
    refine wpAny_assign_Name (stCM F₁ N₂ (.tail _ hm) hk hl hc fun h₂ led₂ F₂ N₃ hcv hk₂ => ?_)
    have mI : (I, Res.raw oI) ∈ led₂ := hk₂ _ (.head _) (by simp)
    obtain ⟨led₃, N₄, k₃⟩ := N₃.front mI
    have hit₂ : It (i + 1) h₂ := K.loc _ _ _ hit₁ fun o e => by rw [hoI] at e; cases e; exact N₃.get (a := I) (r := .raw oI) mI
    refine wpAny_mono (wpAny_passesOwn hE (turn i v m' led' led₃ oI h₂ tk₁ hlt hP hJ' (k₃ _ hcv (by simp)) (fun p hp hn => k₃ _ (hk₂ _ (.tail _ hp) (hn _)) fun e => off' p hp (by rw [e])) F₂ N₄)) (fun f s₃ h₃ => ?_) fun _ _ e => e
    have fin : TNext w g env.locals I oI (J (i + 1)) G D O s₃ →
        ∃ k', k' < n + 1 - i ∧ LSt w g env.locals I n It J G D O k' s₃ := by
      rintro ⟨h₄, tk₄, m₄, pre, post, rfl, F₄, N₄, J₄⟩
      refine ⟨n + 1 - (i + 1), by omega, h₄, tk₄, m₄, pre ++ post, i + 1, rfl, K.loc _ _ _ hit₁ fun o e => ?_, F₄, N₄.subl ?_, N₄.off2, J₄, hlt, rfl⟩
      · rw [hoI] at e; cases e; exact N₄.get (a := I) (r := .raw oI) (by simp)
      · exact (List.sublist_cons_self _ _).append_left pre
    cases f with
    | ret v => exact h₃
    | brk => exact h₃
    | cont => exact fin h₃
    | next => exact fin h₃
  · have hin : i = n := by omega
    subst hin
    refine K.done _ _ _ hit (hC _) fun h₁ tk₁ hk₁ => wpAny_execs_nil ?_
    obtain ⟨F₁, N₁⟩ := next_keeps F' N' fI off' hk₁
    exact done m' led' h₁ tk₁ hJ' F₁ N₁
theorem forRangeC {r c : Addr} {a b : Int} {t u tv : Tok} (hh : A.handled = none) (hk : env.scope.kind = .function) (hl : env.kindOf x = some .cell) (hc : env.cells.lookup x = some c)
    (hE : PassesOwn (model PR w) A env E) (hL : env.locals = L) (F : Fr g L h m) (N : Led w g L h led) (n : Nat) (hr : IsRange h r a b 1 t u tv) (hb : b = a + n) (h1 : 0 ≤ a) (h2 : b < 2 ^ 62)
    (J : Nat → (Str → Option Value) → Ls → Prop) (hJ : J 0 m led) (hcel : ∀ i m led, J i m led → ∃ v, (c, Res.cel v) ∈ led)
    (turn : ∀ I i t m₁ led₁ led₂ oI h tk, i < n → J i m₁ led₁ → (c, Res.cel (some (.int (a + i) t))) ∈ led₂ → (∀ p ∈ led₁, (∀ v, p ≠ (c, Res.cel v)) → p ∈ led₂) → Fr g L h m₁ → Led w g L h ((I, .raw oI) :: led₂) →
      wpAny (model PR w) A (execs body env) (TurnEnd w g L I oI (J (i + 1)) G D O Q) E ⟨h, G, D, tk, O⟩)
    (done : ∀ m₁ led₁ h tk, J n m₁ led₁ → Fr g L h m₁ → Led w g L h led₁ → Q .next ⟨h, G, D, tk, O⟩) :
    wpAny (model PR w) A (pyIter (.ref r)) (fun it s₂ => ForAt w A env x px body Q E it s₂) E ⟨h, G, D, tk, O⟩ := by
  subst hb hL
  refine wpAny_pyIter_range hr (small_one (by omega) (by omega) (by omega) (by omega)) (loopRC (Wk.range hh _ a 1 n) hk hl hc hE (by rw [size1]; show IsRangeIter _ _ (a + ((0 : Nat) : Int) * 1) ((n : Int) - ((0 : Nat) : Int)) 1; rw [show a + ((0 : Nat) : Int) * 1 = a by simp, show (n : Int) - ((0 : Nat) : Int) = n by simp]; exact Heap.get?_push_size _ rfl) (fr_push F _) (N.stays (stays_push _ _)) (fresh_none F (size_none _)) (N.gt F) (fun p hp => Nat.ne_of_lt (N.size p hp)) J hJ hcel (fun _ => trivial) (fun i v m₁ led₁ led₂ oI h tk hi hP hJ' hcv hk2 F' N' => ?_) done)
  obtain ⟨t, rfl⟩ := hP
  rw [Int.mul_one] at hcv
  exact turn _ i t m₁ led₁ led₂ oI h tk hi hJ' hcv hk2 F' N'
end
local macro_rules | `(tactic| walk_at "S") => `(tactic| ((with_reducible refine' compSTA ?_ ?swE ?clE ?kiE ?naE ?hsE); (case swE => exact rfl); (case clE => exact rfl); (case kiE => exact rfl); (case naE => decide); (case hsE => intro _; exact rfl)))
set_option linter.unusedVariables false
def Wi (w0 w1 w2 i : Nat) : Nat := match i with | 0 => w0 | 1 => w1 | _ => w2
def lowi (i : Nat) : Nat := if i = 1 then 1 else 0
def lessi (w0 w1 w2 i j : Nat) : Nat := Wi w0 w1 w2 j - (if j = i then 1 else 0)
theorem wi_at {w0 w1 w2 i : Nat} {t0 t1 t2 : Tok} (h : i < 3) : ∃ t, ([.int (w0 : Int) t0, .int (w1 : Int) t1, .int (w2 : Int) t2] : List Value)[i]? = some (.int (Wi w0 w1 w2 i : Int) t) := by
  match i, h with
  | 0, _ => exact ⟨_, rfl⟩
  | 1, _ => exact ⟨_, rfl⟩
  | 2, _ => exact ⟨_, rfl⟩
def lessZ (w0 w1 w2 i : Nat) : List Int := [(w0 : Int) - (if decide ((0 : Int) = 0 + (i : Int)) = true then 1 else 0), (w1 : Int) - (if decide ((1 : Int) = 0 + (i : Int)) = true then 1 else 0), (w2 : Int) - (if decide ((2 : Int) = 0 + (i : Int)) = true then 1 else 0)]
theorem lessZ_at {w0 w1 w2 i j : Nat} (h : j < 3) : (lessZ w0 w1 w2 i)[j]? = some ((Wi w0 w1 w2 j : Int) - (if decide (((j : Nat) : Int) = 0 + (i : Int)) = true then 1 else 0)) := by
  match j, h with
  | 0, _ => rfl
  | 1, _ => rfl
  | 2, _ => rfl
theorem lessZ_nat {w0 w1 w2 i : Nat} (hi : i < 3) (h : 0 < Wi w0 w1 w2 i) : lessZ w0 w1 w2 i = [((lessi w0 w1 w2 i 0 : Nat) : Int), ((lessi w0 w1 w2 i 1 : Nat) : Int), ((lessi w0 w1 w2 i 2 : Nat) : Int)] := by
  match i, hi with
  | 0, _ => simp only [Wi] at h; simp [lessZ, lessi, Wi]; omega
  | 1, _ => simp only [Wi] at h; simp [lessZ, lessi, Wi]; omega
  | 2, _ => simp only [Wi] at h; simp [lessZ, lessi, Wi]; omega
theorem LB.cell {L : Addr} {tab : List (Int × E3)} {p c d : Addr} {led led' : Ls} {v : Option Value} (x : LB L tab p c d led) (hc : (L + 3, Res.cel v) ∈ led') (k : ∀ q ∈ led, (∀ v, q ≠ (L + 3, Res.cel v)) → q ∈ led') : LB L tab p c d led' := by
  obtain ⟨a, b, _, e, f, kvs, h, i⟩ := x
  exact ⟨k _ a (by simp), k _ b (by simp), ⟨v, hc⟩, e.sub fun _ _ q => k _ q (by simp), f, kvs, k _ h (by simp), i.mono fun _ _ ⟨z1, a, tw, u1, u2, z2, z3⟩ => ⟨z1, a, tw, u1, u2, z2, k _ z3 (fun _ e => by cases (congrArg Prod.snd e))⟩⟩
theorem law6
  {w : World} {mg mb : Str → Option Value} {me : ExcName → Option Value} {A : Around} {g h : Heap} {G : Array GenState} {D : Drawn} {tk : Nat} {O : OsState} {L fa : Addr} {cd : Value} {m : Str → Option Value} {led : Ls} {Q : Flow → Shared → Prop}
  (X : (hd.heap_1 w.params).In g) (T : TopH mg mb me g) (hh : A.handled = none) (hdp : A.depth + 150 < recursionLimit) (hu : A.units + 600 < cLine) (hfr : A.frames = some []) (F : Fr g L h m) (N : Led w g L h led)
  {p c d de wt : Addr} {kve : List (Int × Value)} {tab : List (Int × E3)} {w0 w1 w2 : Nat} (hT : TabFacts tab) (B : LB L tab p c d led) (EN : EE de d kve tab led) (W : EW de wt w0 w1 w2 m led)
  (hw : w0 ≤ 8 ∧ w1 ≤ 8 ∧ w2 ≤ 8) (hN : ∀ i < 3, lowi i < Wi w0 w1 w2 i → ¬ ∀ p ∈ tab, fitE (lessi w0 w1 w2 i 0) (lessi w0 w1 w2 i 1) (lessi w0 w1 w2 i 2) p.2)
  (hq : ∀ h tk led m, Fr g L h m → Led w g L h led → LB L tab p c d led → 
    wpAny (model PR w) (A.deeper (lawEnv w.params L fa cd)) (execs ((lawBody w.params).drop 10) (lawEnv w.params L fa cd)) Q (fun _ _ => False) ⟨h, G, D, tk, O⟩) :
  wpAny (model PR w) (A.deeper (lawEnv w.params L fa cd)) (execs ((lawBody w.params).drop 9) (lawEnv w.params L fa cd)) Q (fun _ _ => False) ⟨h, G, D, tk, O⟩:= by
  obtain ⟨W1, W2, t0, t1, t2, mw⟩ := W
  have h9 := hT.l9
  refine' law_cut ?ho ?_
  case ho => k_is
  dsimp only [List.drop]
  repeat walk_at "S"
  refine rangeR1 F N fun h tk rg u0 u1 u2 F N hr => ?_
  with_reducible refine' forRangeC ?_ ?_ ?_ ?_ ?_ ?_ F N 3 hr (by omega) (by omega) (by omega) (fun i m led => LB L tab p c d led ∧ EE de d kve tab led ∧ EW de wt w0 w1 w2 m led) ?_ ?_ ?_ ?_
  · exact L + 3
  · exact hh
  · exact rfl
  · exact rfl
  · exact rfl
  · exact PassesOwn.never
  · exact rfl
  · exact ⟨B, EN, W1, W2, t0, t1, t2, mw⟩
  · exact fun i m led ⟨B, _⟩ => B.2.2.1
  · clear F N B EN W1 W2 mw
    rintro I i t m₁ led₁ led₂ oI h tk hi ⟨B, EN, W1, W2, t0, t1, t2, mw⟩ hcv hk2 F N
    replace B := B.cell hcv hk2
    replace EN := EN.sub (fun h => hk2 _ h (by simp)) fun q hq ⟨o, ho⟩ => hk2 q hq fun _ e => by rw [e] at ho; cases ho
    replace mw := hk2 _ mw (by simp)
    have off := N.off
    have hcs := N.mt hcv
    clear hk2
    repeat walk_at "S"
    repeat walk_at "S"
    with_reducible refine' compEnum ?_ F N (List.Mem.tail _ mw) ?_ ?_ ?_ ?_ ?_ ?_ (fun j ys => A2 IV ys ((lessZ w0 w1 w2 i).take j)) ?_ ?_ ?_
    · exact hh
    · decide
    · exact rfl
    · exact rfl
    · exact rfl
    · decide
    · simp
    · exact .nil
    · clear F N
      rintro I1 I2 C D j v u ys mC oI1 oI2 h tk E' hv hJ hm1 hm2 F N
      have hcs' : (L + 3, Res.cel (some (.int (0 + (i : Int)) t))) ∈ _ := N.mt (.tail _ (.tail _ (.tail _ hcs)))
      obtain ⟨tv, rfl⟩ : ∃ tv, v = .int (Wi w0 w1 w2 j : Int) tv := by
        obtain ⟨t, e⟩ := wi_at (w0 := w0) (w1 := w1) (w2 := w2) (i := j) (t0 := t0) (t1 := t1) (t2 := t2) (by have := (List.getElem?_eq_some_iff.mp hv).1; simpa using this)
        rw [hv] at e
        exact ⟨t, Option.some.inj e⟩
      repeat walk_at "S"
      refine call_int_bool ?_
      repeat walk_at "S"
      refine ⟨?_, _, _, rfl, F, N⟩
      rw [take_snoc (lessZ_at (by have := (List.getElem?_eq_some_iff.mp hv).1; simpa using this))]
      exact hJ.snoc ⟨_, rfl⟩
    · clear F N
      rintro C D mC ys h tk hJ F N
      refine doneA rfl rfl rfl F N ?_
      clear F N
      intro h tk F N
      try dsimp only
      have hY : A2 IV ys (lessZ w0 w1 w2 i) := hJ
      have hcs := N.mt (.tail _ hcv)
      obtain ⟨tv, hwi⟩ := wi_at (w0 := w0) (w1 := w1) (w2 := w2) (t0 := t0) (t1 := t1) (t2 := t2) hi
      repeat walk_at "S"
      refine tItem (N.get (r := .tup _) (.tail _ (.tail _ mw))) (by omega) (by omega) (by rw [show (0 + (i : Int)).toNat = i by omega]; exact hwi) ?_ rfl
      repeat walk_at "S"
      refine iteB (fun hc1 => ?pos) (fun hc1 => ?neg)
      case' pos =>
        have hlo : ((lowi i : Nat) : Int) = 1 := by unfold lowi; rw [if_pos (by omega)]; rfl
        repeat walk_at "S"
      case' neg =>
        have hlo : ((lowi i : Nat) : Int) = 0 := by unfold lowi; rw [if_neg (by omega)]; rfl
        repeat walk_at "S"
      all_goals
        refine iteB (fun hc2 => ?_) (fun hc2 => ?_)
        focus
          have hgt : lowi i < Wi w0 w1 w2 i := by omega
          have EN' := EN.all fun q hq => N.mt (.tail _ hq)
          have hNv : Nums h (.ref D) [((lessi w0 w1 w2 i 0 : Nat) : Int), ((lessi w0 w1 w2 i 1 : Nat) : Int), ((lessi w0 w1 w2 i 2 : Nat) : Int)] := ⟨D, ys, rfl, by rw [← lessZ_nat hi (by omega)]; exact hY, .inl (led_list N N.m0)⟩
          have hle : lessi w0 w1 w2 i 0 + lessi w0 w1 w2 i 1 + lessi w0 w1 w2 i 2 < 2 ^ 10 := by
            have a0 : lessi w0 w1 w2 i 0 ≤ w0 := Nat.sub_le _ _
            have a1 : lessi w0 w1 w2 i 1 ≤ w1 := Nat.sub_le _ _
            have a2 : lessi w0 w1 w2 i 2 ≤ w2 := Nat.sub_le _ _
            omega
          repeat walk_at "S"
          refine ⟨X.keeps F.keep, ?_⟩
          refine narrow_c X T F.keep (by show A.handled = _; exact hh) (by show A.depth + _ + _ < _; omega) (by show A.units + 3 + _ < _; omega) (Around.frames_deeper hfr) ((ffr_nil g).cons F rfl rfl) (frs_new F rfl) (N.get (r := .dct kve) EN'.1) (N.hi EN'.1) N.has EN'.2.1 hNv hle (by omega) hT.l1 (asc_le hT.ok.asc) (fun p hp => by have := hT.ok.ok p hp; exact ⟨this.2.2.1, by omega, by omega⟩) (fun h' tk' kf hf => absurd hf (hN i hi hgt)) (fun h tk kf _ => ?_)
          replace N := led_kept N rfl kf
          replace F := fr_kept F rfl kf
          clear EN' hNv kf
          repeat walk_at "S"
          rw [if_neg (by decide)]
          repeat walk_at "S"
        rotate_left
        focus
          repeat walk_at "S"
        all_goals
          refine turnM F N (.tail _ (.head _)) fun led3 hk3 => ?_
          have k1 : ∀ q ∈ led₂, q ∈ led3 := fun q hq => hk3 q (.tail _ (.tail _ hq)) (fun e => off q hq (by rw [e]))
          exact ⟨B.sub k1, EN.all k1, W1, W2, t0, t1, t2, k1 _ mw⟩
  · clear F N B EN W1 W2 mw
    rintro m₁ led₁ h tk ⟨B, EN, W⟩ F N
    try dsimp only
    try (with_reducible refine' Seal.next ?K ?_; case K => with_reducible assumption)
    refine' law_uncut (P := w.params) (A := A) (L := L) (fa := fa) (cd := cd) ?ho 10 ?hb ?he ?_
    case ho => k_is
    case hb => rfl
    case he => rfl
    exact hq _ _ _ _ F N B
set_option linter.unusedVariables false
section
variable {w : World} {A : Around} {E : Value → Shared → Prop} {h : Heap} {G : Array GenState} {D : Drawn} {tk : Nat} {O : OsState} {env : Env} {g : Heap} {L : Addr} {m : Str → Option Value} {led : Ls}
theorem dict1 {kx vx : Expr} {pos : Pos} {Q : Value → Shared → Prop} (F : Fr g L h m) (N : Led w g L h led)
    (hq : ∀ d h', Fr g L h' m → Led w g L h' ((d, .dct []) :: led) → wpAny (model PR w) A (eval kx env) (fun kv s₁ => wpAny (model PR w) A (eval vx env) (fun vv s₂ => ∃ k t h₂ tk₂ led₂, kv = .int k t ∧ s₂ = ⟨h₂, G, D, tk₂, O⟩ ∧ Fr g L h₂ m ∧ Led w g L h₂ led₂ ∧ (d, Res.dct []) ∈ led₂ ∧
      ∀ h₃ tk₃ led₃, Fr g L h₃ m → Led w g L h₃ led₃ → (d, Res.dct [(k, vv)]) ∈ led₃ → (∀ p ∈ led₂, p ≠ (d, Res.dct []) → p ∈ led₃) → Q (.ref d) ⟨h₃, G, D, tk₃, O⟩) E s₁) E ⟨h', G, D, tk, O⟩) :
    wpAny (model PR w) A (eval (.Dict [some kx] [vx] pos) env) Q E ⟨h, G, D, tk, O⟩ := by
  refine wpAny_Dict_walk (knd := intKind PR w) rfl rfl (by simp) (by simp) (pairTrees_cons_walk ?_)
  have F1 := fr_push F { cls := .type "dict", data := .dict #[] }
  have N1 : Led w g L _ ((h.objs.size, .dct []) :: led) := N.push F (o := { cls := .type "dict", data := .dict #[] }) (Heap.DictOf.new h)
  refine wpAny_mono (hq _ _ F1 N1) (fun kv s₁ h₁ => wpAny_mono h₁ (fun vv s₂ h₂ => ?_) fun _ _ e => e) fun _ _ e => e
  obtain ⟨k, t, h₂, tk₂, led₂, rfl, rfl, F2, N2, mD, hq⟩ := h₂
  refine pairTrees_nil_walk ⟨[(k, vv)], ?_, N2.get (r := .dct []) mD, fun h' hd hs => ?_⟩
  · exact ⟨intKind_is _ _ _ _, rfl, trivial⟩
  · obtain ⟨led3, F3, N3, m3, k3⟩ := updM (r' := .dct [(k, vv)]) F2 N2 mD hs hd
    exact hq _ _ _ F3 N3 m3 k3
end
theorem law7
  {w : World} {mg mb : Str → Option Value} {me : ExcName → Option Value} {A : Around} {g h : Heap} {G : Array GenState} {D : Drawn} {tk : Nat} {O : OsState} {L fa : Addr} {cd : Value} {m : Str → Option Value} {led : Ls} {Q : Flow → Shared → Prop}
  (X : (hd.heap_1 w.params).In g) (T : TopH mg mb me g) (hh : A.handled = none) (hdp : A.depth + 150 < recursionLimit) (hu : A.units + 600 < cLine) (hfr : A.frames = some []) (F : Fr g L h m) (N : Led w g L h led)
  {p c d : Addr} {tab : List (Int × E3)} (B : LB L tab p c d led)
  (hq : ∀ h tk led, Fr g L h m → Led w g L h led → LB L tab p c d led → 
    wpAny (model PR w) (A.deeper (lawEnv w.params L fa cd)) (execs ((lawBody w.params).drop 11) (lawEnv w.params L fa cd)) Q (fun _ _ => False) ⟨h, G, D, tk, O⟩) :
  wpAny (model PR w) (A.deeper (lawEnv w.params L fa cd)) (execs ((lawBody w.params).drop 10) (lawEnv w.params L fa cd)) Q (fun _ _ => False) ⟨h, G, D, tk, O⟩:= by
  refine' law_cut ?ho ?_
  case ho => k_is
  dsimp only [List.drop]
  repeat walk_at "S"
  refine dict1 F N fun d1 h F N => ?_
  have offd := N.off
  repeat walk_at "S"
  refine ⟨X.keeps F.keep, ?_⟩
  refine entry_c X T F.keep (by show A.handled = _; exact hh) (by show A.depth + _ + _ < _; omega) (by show A.units + 3 + _ < _; omega) fun h tk x dd es nn st' hnew hent => ?_
  replace N := N.call F st' hnew
  replace F := fr_stays F st'
  refine ⟨_, _, _, _, _, rfl, rfl, F, N, .tail _ (.tail _ (.head _)), ?_⟩
  clear F N
  intro h tk led1 F N m1 k1
  have kB : ∀ q ∈ led, q ∈ led1 := fun q hq => k1 q (.tail _ (.tail _ (.tail _ hq))) (fun e => offd q hq (by rw [e]))
  replace B := B.sub kB
  have hE : EntR led1 (.ref x) (1, (0 : Int) - 1, (0 : Int)) := ⟨_, _, _, hent.sub fun q hq => by
    rcases List.mem_cons.mp hq with rfl | hq
    · exact k1 _ (.head _) (by simp)
    · rw [List.mem_singleton.mp hq]; exact k1 _ (.tail _ (.head _)) (by simp)⟩
  clear k1 kB offd hent hnew
  repeat walk_at "S"
  with_reducible refine newTupleR F N (by rw [sizeLine_eq]; exact Nat.le_of_ble_eq_true rfl) fun wt h F N => ?_
  repeat (first | (with_reducible refine' Seal.ret ?K ?_; case K => with_reducible assumption) | with_reducible refine turnRet ?_)
  repeat walk_at "S"
  refine ⟨X.keeps F.keep, ?_⟩
  refine narrow_c X T F.keep (by show A.handled = _; exact hh) (by show A.depth + _ + _ < _; omega) (by show A.units + 3 + _ < _; omega) (tab := [((1 : Int), (1, (0 : Int) - 1, (0 : Int)))]) (w0 := 0) (w1 := 1) (w2 := 0) (Around.frames_deeper hfr) ((ffr_nil g).cons F rfl rfl) (frs_new F rfl) (N.get (r := .dct _) (.tail _ m1)) (N.hi (.tail _ m1)) N.has (.cons ⟨rfl, hE.sub fun q hq => .tail _ hq⟩ .nil) ⟨wt, _, rfl, .cons ⟨_, rfl⟩ (.cons ⟨_, rfl⟩ (.cons ⟨_, rfl⟩ .nil)), .inr (N.get (r := .tup _) N.m0)⟩ (by decide) (by simp) (by simp) (by simp) (by simp) (fun h' tk' kf hf => absurd (hf _ (.head _)) (by simp [fitE])) (fun h tk kf _ => ?_)
  replace N := led_kept N rfl kf
  replace B := B.sub fun q hq => N.mt hq
  replace F := fr_kept F rfl kf
  repeat walk_at "S"
  rw [if_neg (by decide)]
  clear kf hE m1 st'
  repeat walk_at "S"
  refine dict1 F N fun d2 h F N => ?_
  have offd := N.off
  repeat walk_at "S"
  refine ⟨X.keeps F.keep, ?_⟩
  refine entry_c X T F.keep (by show A.handled = _; exact hh) (by show A.depth + _ + _ < _; omega) (by show A.units + 3 + _ < _; omega) fun h tk x2 dd2 es2 nn2 st' hnew hent => ?_
  replace N := N.call F st' hnew
  replace F := fr_stays F st'
  refine ⟨_, _, _, _, _, rfl, rfl, F, N, .tail _ (.tail _ (.head _)), ?_⟩
  clear F N
  intro h tk led2 F N m1 k2
  have kB : ∀ q ∈ _, q ∈ led2 := fun q hq => k2 q (.tail _ (.tail _ (.tail _ hq))) (fun e => offd q hq (by rw [e]))
  replace B := B.sub kB
  have hE : EntR led2 (.ref x2) (1, (1 : Int), (0 : Int) - 256) := ⟨_, _, _, hent.sub fun q hq => by
    rcases List.mem_cons.mp hq with rfl | hq
    · exact k2 _ (.head _) (by simp)
    · rw [List.mem_singleton.mp hq]; exact k2 _ (.tail _ (.head _)) (by simp)⟩
  repeat walk_at "S"
  with_reducible refine newTupleR F N (by rw [sizeLine_eq]; exact Nat.le_of_ble_eq_true rfl) fun wt2 h F N => ?_
  repeat (first | (with_reducible refine' Seal.ret ?K ?_; case K => with_reducible assumption) | with_reducible refine turnRet ?_)
  repeat walk_at "S"
  refine ⟨X.keeps F.keep, ?_⟩
  refine narrow_c X T F.keep (by show A.handled = _; exact hh) (by show A.depth + _ + _ < _; omega) (by show A.units + 3 + _ < _; omega) (tab := [((1 : Int), (1, (1 : Int), (0 : Int) - 256))]) (w0 := 0) (w1 := 1) (w2 := 1) (Around.frames_deeper hfr) ((ffr_nil g).cons F rfl rfl) (frs_new F rfl) (N.get (r := .dct _) (.tail _ m1)) (N.hi (.tail _ m1)) N.has (.cons ⟨rfl, hE.sub fun q hq => .tail _ hq⟩ .nil) ⟨wt2, _, rfl, .cons ⟨_, rfl⟩ (.cons ⟨_, rfl⟩ (.cons ⟨_, rfl⟩ .nil)), .inr (N.get (r := .tup _) N.m0)⟩ (by decide) (by simp) (by simp) (by simp) (by simp) (fun h' tk' kf hf => absurd (hf _ (.head _)) (by simp [fitE])) (fun h tk kf _ => ?_)
  replace N := led_kept N rfl kf
  replace B := B.sub fun q hq => N.mt hq
  replace F := fr_kept F rfl kf
  repeat walk_at "S"
  rw [if_neg (by decide)]
  iterate 3 walk_at "S"
  try (with_reducible refine' Seal.next ?K ?_; case K => with_reducible assumption)
  refine' law_uncut (P := w.params) (A := A) (L := L) (fa := fa) (cd := cd) ?ho 11 ?hb ?he ?_
  case ho => k_is
  case hb => rfl
  case he => rfl
  exact hq _ _ _ F N B
set_option linter.unusedVariables false
section
variable {w : World} {A : Around} {E : Value → Shared → Prop} {h : Heap} {G : Array GenState} {D : Drawn} {tk : Nat} {O : OsState} {g : Heap} {L : Addr} {m : Str → Option Value} {led : Ls}
theorem minD {d : Addr} {kvs : List (Int × Value)} {k0 : Int} {x0 : Value} {Q : Value → Shared → Prop} (hh : A.handled = none) (F : Fr g L h m) (N : Led w g L h led) (hd3 : 3 < d) (hm : h.DictOf (intKind PR w) d kvs) (hasc : (kvs.map (·.1)).Pairwise (· < ·)) (h0 : kvs[0]? = some (k0, x0))
    (hq : ∀ h' tk' t, Fr g L h' m → Led w g L h' led → Q (.int k0 t) ⟨h', G, D, tk', O⟩) : wpAny (model PR w) A (call (.builtin "min") [.ref d]) Q E ⟨h, G, D, tk, O⟩ := by
  obtain ⟨ep, hat⟩ := hm.dictAt
  have hlt : d < h.objs.size := hat.lt_size
  have hlen : 0 < kvs.length := (List.getElem?_eq_some_iff.mp h0).1
  let ky : Nat → Int := fun i => ((kvs[i]?).map (·.1)).getD 0
  have hky : ∀ i k x, kvs[i]? = some (k, x) → ky i = k := fun i k x e => by show ((kvs[i]?).map (·.1)).getD 0 = k; rw [e]; rfl
  have hbest : ∀ i, i < kvs.length → argBest (fun a b => decide (ky a < ky b)) i = 0 := by
    intro i
    induction i with
    | zero => intro _; rfl
    | succ i ih =>
      intro hi
      have e := ih (by omega)
      simp only [argBest, e]
      rw [if_neg]
      intro z
      have z := of_decide_eq_true z
      have q := List.pairwise_iff_getElem.mp hasc 0 (i + 1) (by simpa using hlen) (by simpa using hi) (by omega)
      rw [List.getElem_map, List.getElem_map] at q
      have e1 : ky (i + 1) = (kvs[i + 1]'hi).1 := hky _ _ _ (List.getElem?_eq_getElem hi)
      have e2 : ky 0 = (kvs[0]'hlen).1 := hky _ _ _ (List.getElem?_eq_getElem hlen)
      rw [e1, e2] at z
      exact absurd z (Int.not_lt.mpr (Int.le_of_lt q))
  refine call_min_walk (wpAny_pyIter_dict (sysm hd3) hat ?_)
  refine ⟨h.objs.size, _, _, _, _, _, fun a b => decide (ky a < ky b), rfl, Walks.dictKeys (prog := PR) (w := w) (knd := intKind PR w) (A := A.in1) (by simp [hh]) h.objs.size d (Nat.ne_of_lt hlt) kvs ep, ?_, ?_, hlen, ?_, ?_⟩
  · exact ⟨⟨_, Heap.get?_push_size _ rfl, rfl, rfl⟩, hat.push _⟩
  · intro b hb
    show b < (h.push _).objs.size
    rw [Heap.size_push]
    simp only [List.mem_cons, List.not_mem_nil, or_false] at hb
    rcases hb with rfl | rfl
    · exact Nat.lt_succ_self _
    · exact Nat.lt_succ_of_lt hlt
  · intro i j v vb s Q' E' hv hb hQ
    obtain ⟨k, x, e, hk⟩ := hv
    obtain ⟨k', x', e', hk'⟩ := hb
    obtain ⟨t, rfl⟩ := Value.isInt_shape hk
    obtain ⟨t', rfl⟩ := Value.isInt_shape hk'
    dsimp only at hQ
    rw [hky _ _ _ e, hky _ _ _ e'] at hQ
    exact PyProof.Rows.lt_int hQ
  · intro v h' tk' hP hk
    rw [hbest _ (by omega)] at hP
    have kk : h.StaysIn h' := fun b o e => hk b o (by simpa using Nat.ne_of_lt (Heap.lt_size e)) (Heap.get?_push_of_some _ e)
    obtain ⟨k, x, e, hk⟩ := hP
    rw [h0] at e; cases e
    obtain ⟨t, rfl⟩ := Value.isInt_shape hk
    exact hq _ _ _ (fr_stays F kk) (N.stays kk)
end
set_option linter.unusedVariables false
theorem octs_succ (n k : Nat) : octs n (k + 1) = octs (n / 256) k ++ [(n % 256).toUInt8] := by
  unfold octs
  rw [List.range_succ, List.map_append]
  congr 1
  · refine List.map_congr_left fun j hj => ?_
    have hj := List.mem_range.mp hj
    rw [show k + 1 - 1 - j = (k - 1 - j) + 1 by omega, Nat.pow_succ, Nat.mul_comm, ← Nat.div_div_eq_div_mul]
  · simp
theorem beN_octs : ∀ (k n : Nat), n < 256 ^ k → beN (octs n k) = n
  | 0, n, h => by
    have : n = 0 := by simpa using h
    subst this; rfl
  | k + 1, n, h => by
    rw [octs_succ, beN_snoc, beN_octs k (n / 256) (by rw [Nat.pow_succ] at h; omega)]
    have : ((n % 256).toUInt8).toNat = n % 256 := by
      rw [Nat.toUInt8, UInt8.toNat_ofNat']
      omega
    rw [this]
    omega
set_option linter.unusedVariables false
theorem law8
  {w : World} {mg mb : Str → Option Value} {me : ExcName → Option Value} {A : Around} {g h : Heap} {G : Array GenState} {D : Drawn} {tk : Nat} {O : OsState} {L fa : Addr} {cd : Value} {m : Str → Option Value} {led : Ls} {Q : Flow → Shared → Prop}
  (X : (hd.heap_1 w.params).In g) (T : TopH mg mb me g) (hh : A.handled = none) (hdp : A.depth + 150 < recursionLimit) (hu : A.units + 600 < cLine) (hfr : A.frames = some []) (F : Fr g L h m) (N : Led w g L h led)
  {p c d : Addr} {tab : List (Int × E3)} (hT : TabFacts tab) (B : LB L tab p c d led)
  (hq : ∀ h tk led m, Fr g L h m → Led w g L h led → LB L tab p c d led → 
    wpAny (model PR w) (A.deeper (lawEnv w.params L fa cd)) (execs ((lawBody w.params).drop 13) (lawEnv w.params L fa cd)) Q (fun _ _ => False) ⟨h, G, D, tk, O⟩) :
  wpAny (model PR w) (A.deeper (lawEnv w.params L fa cd)) (execs ((lawBody w.params).drop 11) (lawEnv w.params L fa cd)) Q (fun _ _ => False) ⟨h, G, D, tk, O⟩:= by
  have hd := B.2.1
  obtain ⟨kvs, mk, hKT⟩ := id B.2.2.2.2.2
  have h1 := hT.l1
  have hnd : (kvs.map (·.1)).Nodup := let ⟨_, _, _, _, _, _, _, _, z⟩ := N.get (r := .dct kvs) mk; z
  obtain ⟨⟨k0, e0⟩, hq0⟩ : ∃ q, tab[0]? = some q := ⟨tab[0], List.getElem?_eq_getElem (by omega)⟩
  obtain ⟨⟨k2, ev⟩, hb, hk2, a, tw, u1, u2, rfl, ha⟩ := hKT.get' hq0
  dsimp only at hk2 ha
  subst hk2
  have hok := hT.ok.ok _ (List.mem_of_getElem? hq0)
  dsimp only at hok
  have hasc : (kvs.map (·.1)).Pairwise (· < ·) := by rw [hKT.fsts fun _ _ r => r.1]; exact hT.ok.asc
  obtain ⟨n, hn⟩ : ∃ n : Nat, e0.2.1 = (n : Int) := ⟨_, (Int.toNat_of_nonneg hok.2.2.2.1).symm⟩
  have hn64 : n < 2 ^ 64 := by omega
  refine' law_cut ?ho ?_
  case ho => k_is
  dsimp only [List.drop]
  repeat walk_at "S"
  refine minD hh F N (N.hi mk) (N.get (r := .dct kvs) mk) hasc hb fun h tk t F N => ?_
  repeat walk_at "S"
  refine dItem (kvs := kvs) (N.get (r := .dct kvs) mk) (valueAt_of_get hnd hb) (fun _ => ?_) rfl
  repeat walk_at "S"
  refine tItem (N.get (r := .tup _) ha) (by omega) (by omega) rfl ?_ rfl
  rw [hn]
  repeat walk_at "S"
  with_reducible refine' stR F N ?_ ?_ ?_ ?_
  · exact rfl
  · exact rfl
  · exact rfl
  clear F N; intro h tk F N
  try (with_reducible refine' Seal.next ?K ?_; case K => with_reducible assumption)
  repeat walk_at "S"
  refine ⟨X.keeps F.keep, ?_⟩
  refine field_octets_c X T F.keep (by show A.handled = _; exact hh) (by show A.depth + _ + _ < _; omega) (by show A.units + 3 + _ < _; omega) (k := 9) (Around.frames_deeper hfr) ((ffr_nil g).cons F rfl rfl) (by rw [Int.natAbs_natCast]; omega) (by decide) (fun h tk tb st' _ _ => ?_) (fun e a h' tk' th z => ?_)
  rotate_left
  · rw [Int.toNat_natCast] at z
    rcases z with z | z
    · omega
    · exact absurd (Nat.lt_of_lt_of_le hn64 (by decide : 2 ^ 64 ≤ 256 ^ 9)) (Nat.not_lt.mpr z)
  replace F := fr_stays F st'
  replace N := N.stays st'
  clear st'
  repeat walk_at "S"
  refine ⟨X.keeps F.keep, ?_⟩
  refine field_c X T F.keep (by show A.handled = _; exact hh) (by show A.depth + _ + _ < _; omega) (by show A.units + 3 + _ < _; omega) fun h tk tf st' => ?_
  replace F := fr_stays F st'
  replace N := N.stays st'
  clear st'
  repeat walk_at "S"
  have e9 : beN (octs (n : Int).toNat 9).toArray.toList = n := by
    rw [Int.toNat_natCast]
    exact beN_octs 9 n (Nat.lt_of_lt_of_le hn64 (by decide))
  rw [e9, if_neg (by simp)]
  have hwd : wd n ≤ 8 := (wd_le 8 n).mpr (Nat.lt_of_lt_of_le hn64 (by decide))
  repeat walk_at "S"
  refine ⟨X.keeps F.keep, ?_⟩
  refine width_of_c X T F.keep (by show A.handled = _; exact hh) (by show A.depth + _ + _ < _; omega) (by show A.units + 3 + _ < _; omega) fun h tk tw' st' => ?_
  replace F := fr_stays F st'
  replace N := N.stays st'
  clear st'
  repeat walk_at "S"
  refine ⟨X.keeps F.keep, ?_⟩
  refine field_octets_c X T F.keep (by show A.handled = _; exact hh) (by show A.depth + _ + _ < _; omega) (by show A.units + 3 + _ < _; omega) (k := wd n) (Around.frames_deeper hfr) ((ffr_nil g).cons F rfl rfl) (by rw [Int.natAbs_natCast]; omega) (by omega) (fun h tk tb st' _ _ => ?_) (fun e a h' tk' th z => ?_)
  rotate_left
  · rw [Int.toNat_natCast] at z
    rcases z with z | z
    · omega
    · exact absurd ((wd_le (wd n) n).mp (Nat.le_refl _)) (Nat.not_lt.mpr z)
  replace F := fr_stays F st'
  replace N := N.stays st'
  clear st'
  repeat walk_at "S"
  with_reducible refine newListR F N (by rw [sizeLine_eq]; exact Nat.le_of_ble_eq_true rfl) fun nl h F N => ?_
  repeat (first | (with_reducible refine' Seal.ret ?K ?_; case K => with_reducible assumption) | with_reducible refine turnRet ?_)
  repeat walk_at "S"
  have hlw : leastW [n] 0 = wd n := by simp [leastW]
  refine ⟨X.keeps F.keep, ?_⟩
  refine law_least_c X T F.keep (by show A.handled = _; exact hh) (by show A.depth + _ + _ < _; omega) (by show A.units + 3 + _ < _; omega) (ns := [n]) (low := 0) (led_list N N.m0) (.cons ⟨_, rfl⟩ .nil) (by simp) (by decide) (by rw [hlw]; omega) fun h tk tl st' => ?_
  replace F := fr_stays F st'
  replace N := N.stays st'
  clear st'
  rw [hlw]
  repeat walk_at "S"
  refine ⟨X.keeps F.keep, ?_⟩
  refine law_octets_c X T F.keep (by show A.handled = _; exact hh) (by show A.depth + _ + _ < _; omega) (by show A.units + 3 + _ < _; omega) (by omega) (by omega) fun h tk tb2 st' => ?_
  replace F := fr_stays F st'
  replace N := N.stays st'
  clear st'
  repeat walk_at "S"
  refine ne_bytes ?_
  rw [Int.toNat_natCast, show ((octs n (wd n)).toArray.toList != (octs n (wd n)).toArray.toList) = false by simp]
  iterate 5 walk_at "S"
  try (with_reducible refine' Seal.next ?K ?_; case K => with_reducible assumption)
  refine' law_uncut (P := w.params) (A := A) (L := L) (fa := fa) (cd := cd) ?ho 13 ?hb ?he ?_
  case ho => k_is
  case hb => rfl
  case he => rfl
  exact hq _ _ _ _ F N (B.sub fun q hq => .tail _ hq)
set_option linter.unusedVariables false
def PB (L p c : Addr) (led : Ls) : Prop := (L + 1, Res.cel (some (.ref p))) ∈ led ∧ PenL led p c ∧ p ≠ c
theorem PB.sub {L p c : Addr} {led led' : Ls} (x : PB L p c led) (k : ∀ q ∈ led, q ∈ led') : PB L p c led' := ⟨k _ x.1, x.2.1.sub fun _ _ q => k _ q, x.2.2⟩
theorem keepN {w : World} {g h : Heap} {L p c : Addr} {led led' : Ls} (N : Led w g L h led) (P : PenL led p c) (hk : ∀ q ∈ led, q.1 ≠ p → q.1 ≠ c → q ∈ led') : ∀ q ∈ led, (∀ vs, q.2 ≠ .lst vs) → q ∈ led' := fun q hq hn => by
  obtain ⟨_, _, _, _, _, _, a, b, _⟩ := P
  exact hk _ hq (N.ne hq a (hn _)) (N.ne hq b (hn _))
theorem PenL.keep3 {led led' : Ls} {p c I C D : Addr} {oI : Obj} {mC : Str → Option Value} {ys : List Value} (x : PenL led p c) (n1 : D ≠ p) (n2 : D ≠ c) (k : ∀ q ∈ led, q ≠ (I, Res.raw oI) → q ≠ (C, Res.nsp mC) → q ≠ (D, Res.lst ys) → q ∈ led') : PenL led' p c := by
  obtain ⟨cells, ns, cnt, rest, tc, tr, a, b, r⟩ := x
  exact ⟨cells, ns, cnt, rest, tc, tr, k _ a (by simp) (by simp) (fun e => n1 (congrArg Prod.fst e).symm), k _ b (by simp) (by simp) (fun e => n2 (congrArg Prod.fst e).symm), r⟩
def I256 (v : Value) (n : Int) : Prop := (∃ t, v = .int n t) ∧ 0 ≤ n ∧ n < 256
theorem law9
  {w : World} {mg mb : Str → Option Value} {me : ExcName → Option Value} {A : Around} {g h : Heap} {G : Array GenState} {D : Drawn} {tk : Nat} {O : OsState} {L fa : Addr} {cd : Value} {m : Str → Option Value} {led : Ls} {Q : Flow → Shared → Prop}
  (X : (hd.heap_1 w.params).In g) (T : TopH mg mb me g) (hh : A.handled = none) (hdp : A.depth + 150 < recursionLimit) (hu : A.units + 600 < cLine) (hfr : A.frames = some []) (F : Fr g L h m) (N : Led w g L h led)
  {p c : Addr} (B : PB L p c led)
  (hq : ∀ h tk led (b : Array UInt8) tb, Fr g L h (fun y => if y = Str.ofString "octets" then some (.bytes b tb) else m y) → Led w g L h led → PB L p c led → b.size < 24 →
    wpAny (model PR w) (A.deeper (lawEnv w.params L fa cd)) (execs ((lawBody w.params).drop 14) (lawEnv w.params L fa cd)) Q (fun _ _ => False) ⟨h, G, D, tk, O⟩) :
  wpAny (model PR w) (A.deeper (lawEnv w.params L fa cd)) (execs ((lawBody w.params).drop 13) (lawEnv w.params L fa cd)) Q (fun _ _ => False) ⟨h, G, D, tk, O⟩:= by
  obtain ⟨hp, P, ne⟩ := id B
  refine' law_cut ?ho ?_
  case ho => k_is
  dsimp only [List.drop]
  repeat walk_at "S"
  have kt := fun led' hk => keepN (led' := led') N P hk
  refine ⟨X.keeps F.keep, ?_⟩
  refine draw_c X T F.keep (by show A.handled = _; exact hh) (by show A.depth + _ + _ < _; omega) (by show A.units + 3 + _ < _; omega) (P.none N).1 (P.none N).2 (P.at N ne) (many := 24) (by decide) (by decide) fun h tk r tr pa hb hr => ?_
  obtain ⟨led, F, N, P, hk⟩ := penBack P F N hb pa
  clear hb pa
  replace hp := kt _ hk _ hp (by simp)
  clear kt hk B
  repeat walk_at "S"
  refine rangeR1 F N fun h tk rg t1 t2 t3 F N hrg => ?_
  with_reducible refine' compRange ?hh F N r hrg (by omega) (by omega) (by omega) ?ce ?ki ?hx ?hn (fun i ys led => (L + 1, Res.cel (some (.ref p))) ∈ led ∧ PenL led p c ∧ ys.length = i ∧ ∃ ns, A2 I256 ys ns) ?_ ?_ ?_
  case hh => exact hh
  case ce => decide
  case ki => exact rfl
  case hx => exact rfl
  case hn => omega
  · exact ⟨hp, P, rfl, [], .nil⟩
  · clear F N hrg hp P
    rintro I C D i t ys mC led₁ oI h tk E' hi ⟨hp, P, hyl, ns, hY⟩ hm F N
    have nD := PenL.offN P ((N.subl (List.sublist_cons_self _ _)).subl (List.sublist_cons_self _ _))
    replace P := P.sub fun _ _ q => N.mt (.tail _ (.tail _ q))
    replace hp := N.mt (.tail _ (.tail _ hp))
    have mI := N.m0
    have mC' := N.m1
    have mD := N.m2
    refine wpAny_tests_nil ?_
    repeat walk_at "S"
    have kt := fun led' hk => keepN (led' := led') N P hk
    refine ⟨X.keeps F.keep, ?_⟩
    refine draw_c X T F.keep (by show A.handled = _; exact hh) (by show A.depth + _ + _ < _; omega) (by show A.units + 3 + _ < _; omega) (P.none N).1 (P.none N).2 (P.at N ne) (many := 256) (by decide) (by decide) fun h tk x u pa hb hx => ?_
    obtain ⟨led, F, N, P, hk⟩ := penBack P F N hb pa
    clear hb pa
    replace hp := kt _ hk _ hp (by simp)
    replace mI := kt _ hk _ mI (by simp)
    replace mC' := kt _ hk _ mC' (by simp)
    replace mD := hk _ mD nD.1 nD.2
    clear kt hk
    repeat walk_at "S"
    with_reducible refine newListR F N (by rw [sizeLine_eq]; exact Nat.le_of_ble_eq_true rfl) fun q h F N => ?_
    repeat (first | (with_reducible refine' Seal.ret ?K ?_; case K => with_reducible assumption) | with_reducible refine turnRet ?_)
    have nq := PenL.offN P N
    have nDq := N.off _ mD
    replace P := P.consN N
    replace hp := N.mt hp
    repeat walk_at "S"
    have kt := fun led' hk => keepN (led' := led') N P hk
    refine ⟨X.keeps F.keep, ?_⟩
    refine pick_c X T F.keep (by show A.handled = _; exact hh) (by show A.depth + _ + _ < _; omega) (by show A.units + 3 + _ < _; omega) (P.none N).1 (P.none N).2 (P.at N ne) (led_list N (.head _)) nq.1 nq.2 (by simp) (by simp) fun h tk v pa hb hv => ?_
    obtain ⟨led, F, N, P, hk⟩ := penBack P F N hb pa
    clear hb pa
    replace hp := kt _ hk _ hp (by simp)
    replace mI := kt _ hk _ (.tail _ mI) (by simp)
    replace mC' := kt _ hk _ (.tail _ mC') (by simp)
    replace mD := hk _ (.tail _ mD) nD.1 nD.2
    clear kt hk
    repeat walk_at "S"
    obtain ⟨n, hn⟩ : ∃ n, I256 v n := by
      simp only [List.mem_cons, List.not_mem_nil, or_false] at hv
      rcases hv with rfl | rfl | rfl | rfl | rfl | rfl
      · exact ⟨0, ⟨_, rfl⟩, by decide, by decide⟩
      · exact ⟨1, ⟨_, rfl⟩, by decide, by decide⟩
      · exact ⟨2, ⟨_, rfl⟩, by decide, by decide⟩
      · exact ⟨3, ⟨_, rfl⟩, by decide, by decide⟩
      · exact ⟨255, ⟨_, rfl⟩, by decide, by decide⟩
      · exact ⟨_, ⟨_, rfl⟩, by omega, by omega⟩
    exact cEnd F N mI mC' mD fun led2 hk2 => ⟨hk2 _ hp (by simp) (by simp) (by simp), P.keep3 nD.1 nD.2 hk2, by simp [hyl], _, hY.snoc hn⟩
  · clear F N hrg hp P
    rintro D ys led₁ h tk ⟨hp, P, hyl, ns, hY⟩ F N
    repeat walk_at "S"
    have hI : A2 IV ys ns := hY.mono fun _ _ r => r.1
    refine call_bytes_ints (led_list N (.head _)) hI.ints ?_ (by rw [sizeLine_eq]; omega) hh fun h' t tk' st' => ?_
    · intro y hy
      obtain ⟨j, hj⟩ := List.mem_iff_getElem?.mp hy
      obtain ⟨_, _, z⟩ := hY.get' hj
      exact z.2
    replace N := N.stays st'
    replace F := fr_stays F st'
    repeat walk_at "S"
    with_reducible refine' stR F N ?_ ?_ ?_ ?_
    · exact rfl
    · exact rfl
    · exact rfl
    clear F N; intro h tk F N
    try (with_reducible refine' Seal.next ?K ?_; case K => with_reducible assumption)
    try (with_reducible refine' Seal.next ?K ?_; case K => with_reducible assumption)
    refine' law_uncut (P := w.params) (A := A) (L := L) (fa := fa) (cd := cd) ?ho 14 ?hb ?he ?_
    case ho => k_is
    case hb => rfl
    case he => rfl
    refine hq _ _ _ _ _ F N ⟨.tail _ hp, P.consN N, ne⟩ ?_
    rw [byteArr_size, ← hI.len]; omega
set_option linter.unusedVariables false
def PL (ru : Addr) (ps : List (Nat × Nat)) (led : Ls) : Prop := ∃ rv, (ru, Res.lst rv) ∈ led ∧ A2 IV rv (flat ps)
theorem law10
  {w : World} {mg mb : Str → Option Value} {me : ExcName → Option Value} {A : Around} {g h : Heap} {G : Array GenState} {D : Drawn} {tk : Nat} {O : OsState} {L fa : Addr} {cd : Value} {m : Str → Option Value} {led : Ls} {Q : Flow → Shared → Prop}
  (X : (hd.heap_1 w.params).In g) (T : TopH mg mb me g) (hh : A.handled = none) (hdp : A.depth + 150 < recursionLimit) (hu : A.units + 600 < cLine) (hfr : A.frames = some []) (F : Fr g L h m) (N : Led w g L h led)
  {p c : Addr} {b : Array UInt8} {tb : Tok} (B : PB L p c led) (hb : b.size < 24) (hbm : m (Str.ofString "octets") = some (.bytes b tb))
  (hq : ∀ h tk led m (x y z : Nat) t0 t1 t2 dr ru ps, Fr g L h m → Led w g L h led → m (Str.ofString "octets") = some (.bytes b tb) → m (Str.ofString "drawn") = some (.ref dr) → (dr, Res.lst [.int (x : Int) t0, .int (y : Int) t1, .int (z : Int) t2]) ∈ led → x < 3 → y < 4 → z < 3 →
    m (Str.ofString "places") = some (.ref ru) → PL ru ps led → ps.length < 4 → (∀ q ∈ ps, q.1 < 9 ∧ q.2 < 5) →
    wpAny (model PR w) (A.deeper (lawEnv w.params L fa cd)) (execs ((lawBody w.params).drop 17) (lawEnv w.params L fa cd)) Q (fun _ _ => False) ⟨h, G, D, tk, O⟩) :
  wpAny (model PR w) (A.deeper (lawEnv w.params L fa cd)) (execs ((lawBody w.params).drop 14) (lawEnv w.params L fa cd)) Q (fun _ _ => False) ⟨h, G, D, tk, O⟩:= by
  obtain ⟨hp, P, ne⟩ := id B
  clear B
  refine' law_cut ?ho ?_
  case ho => k_is
  dsimp only [List.drop]
  repeat walk_at "S"
  have kt := fun led' hk => keepN (led' := led') N P hk
  refine ⟨X.keeps F.keep, ?_⟩
  refine draw_c X T F.keep (by show A.handled = _; exact hh) (by show A.depth + _ + _ < _; omega) (by show A.units + 3 + _ < _; omega) (P.none N).1 (P.none N).2 (P.at N ne) (many := 3) (by decide) (by decide) fun h tk x t0 pa hb hx => ?_
  obtain ⟨led, F, N, P, hk⟩ := penBack P F N hb pa
  clear hb pa
  replace hp := kt _ hk _ hp (by simp)
  clear kt hk
  repeat walk_at "S"
  have kt := fun led' hk => keepN (led' := led') N P hk
  refine ⟨X.keeps F.keep, ?_⟩
  refine draw_c X T F.keep (by show A.handled = _; exact hh) (by show A.depth + _ + _ < _; omega) (by show A.units + 3 + _ < _; omega) (P.none N).1 (P.none N).2 (P.at N ne) (many := 4) (by decide) (by decide) fun h tk y t1 pa hb hy => ?_
  obtain ⟨led, F, N, P, hk⟩ := penBack P F N hb pa
  clear hb pa
  replace hp := kt _ hk _ hp (by simp)
  clear kt hk
  repeat walk_at "S"
  have kt := fun led' hk => keepN (led' := led') N P hk
  refine ⟨X.keeps F.keep, ?_⟩
  refine draw_c X T F.keep (by show A.handled = _; exact hh) (by show A.depth + _ + _ < _; omega) (by show A.units + 3 + _ < _; omega) (P.none N).1 (P.none N).2 (P.at N ne) (many := 3) (by decide) (by decide) fun h tk z t2 pa hb hz => ?_
  obtain ⟨led, F, N, P, hk⟩ := penBack P F N hb pa
  clear hb pa
  replace hp := kt _ hk _ hp (by simp)
  clear kt hk
  repeat walk_at "S"
  with_reducible refine newListR F N (by rw [sizeLine_eq]; exact Nat.le_of_ble_eq_true rfl) fun dr h F N => ?_
  repeat (first | (with_reducible refine' Seal.ret ?K ?_; case K => with_reducible assumption) | with_reducible refine turnRet ?_)
  repeat walk_at "S"
  with_reducible refine' stR F N ?_ ?_ ?_ ?_
  · exact rfl
  · exact rfl
  · exact rfl
  clear F N; intro h tk F N
  try (with_reducible refine' Seal.next ?K ?_; case K => with_reducible assumption)
  repeat walk_at "S"
  have ndr := PenL.offN P N
  replace P := P.consN N
  replace hp := N.mt hp
  have mdr := N.m0
  with_reducible refine newListR F N (by rw [sizeLine_eq]; exact Nat.le_of_ble_eq_true rfl) fun ru0 h F N => ?_
  repeat (first | (with_reducible refine' Seal.ret ?K ?_; case K => with_reducible assumption) | with_reducible refine turnRet ?_)
  repeat walk_at "S"
  with_reducible refine' stR F N ?_ ?_ ?_ ?_
  · exact rfl
  · exact rfl
  · exact rfl
  clear F N; intro h tk F N
  try (with_reducible refine' Seal.next ?K ?_; case K => with_reducible assumption)
  have nru := PenL.offN P N
  replace P := P.consN N
  replace hp := N.mt hp
  replace mdr := N.mt mdr
  have mru := N.m0
  repeat walk_at "S"
  have kt := fun led' hk => keepN (led' := led') N P hk
  refine ⟨X.keeps F.keep, ?_⟩
  refine draw_c X T F.keep (by show A.handled = _; exact hh) (by show A.depth + _ + _ < _; omega) (by show A.units + 3 + _ < _; omega) (P.none N).1 (P.none N).2 (P.at N ne) (many := 4) (by decide) (by decide) fun h tk n tn pa hb hn => ?_
  obtain ⟨led, F, N, P, hk⟩ := penBack P F N hb pa
  clear hb pa
  replace hp := kt _ hk _ hp (by simp)
  replace mdr := hk _ mdr ndr.1 ndr.2
  replace mru := hk _ mru nru.1 nru.2
  clear kt hk
  repeat walk_at "S"
  refine rangeR1 F N fun h tk rg t3 t4 t5 F N hrg => ?_
  with_reducible refine' forRange1 ?_ ?_ ?_ ?_ ?_ F N n hrg (by omega) (by omega) (by omega) (fun i m led => (L + 1, Res.cel (some (.ref p))) ∈ led ∧ PenL led p c ∧ (dr, Res.lst [.int (x : Int) t0, .int (y : Int) t1, .int (z : Int) t2]) ∈ led ∧ m (Str.ofString "octets") = some (.bytes b tb) ∧ m (Str.ofString "drawn") = some (.ref dr) ∧ ∃ ru ps, m (Str.ofString "places") = some (.ref ru) ∧ ru ≠ p ∧ ru ≠ c ∧ PL ru ps led ∧ ps.length = i ∧ (∀ q ∈ ps, q.1 < 9 ∧ q.2 < 5)) ?_ ?_ ?_
  · exact hh
  · exact rfl
  · exact rfl
  · first | exact PassesOwn.never | exact passE1 (Around.frames_deeper hfr) rfl
  · exact rfl
  · exact ⟨hp, P, mdr, hbm, rfl, ru0, [], rfl, nru.1, nru.2, ⟨[], mru, .nil⟩, rfl, fun q hq => nomatch hq⟩
  · clear F N hrg hp P mdr mru nru
    rintro I i t m₁ led₁ oI h tk hi ⟨hp, P, mdr, m1, m2, ru, ps, m3, nr1, nr2, ⟨rv, mrv, hrv⟩, hpl, hps⟩ F N
    have mI := N.m0
    replace P := P.consN N
    replace hp := N.mt hp
    replace mdr := N.mt mdr
    replace mrv := N.mt mrv
    repeat walk_at "S"
    have kt := fun led' hk => keepN (led' := led') N P hk
    refine ⟨X.keeps F.keep, ?_⟩
    refine draw_c X T F.keep (by show A.handled = _; exact hh) (by show A.depth + _ + _ < _; omega) (by show A.units + 3 + _ < _; omega) (P.none N).1 (P.none N).2 (P.at N ne) (many := 9) (by decide) (by decide) fun h tk u1 v1 pa hb hu1 => ?_
    obtain ⟨led, F, N, P, hk⟩ := penBack P F N hb pa
    clear hb pa
    replace hp := kt _ hk _ hp (by simp)
    replace mI := kt _ hk _ mI (by simp)
    replace mdr := hk _ mdr ndr.1 ndr.2
    replace mrv := hk _ mrv nr1 nr2
    clear kt hk
    repeat walk_at "S"
    have kt := fun led' hk => keepN (led' := led') N P hk
    refine ⟨X.keeps F.keep, ?_⟩
    refine draw_c X T F.keep (by show A.handled = _; exact hh) (by show A.depth + _ + _ < _; omega) (by show A.units + 3 + _ < _; omega) (P.none N).1 (P.none N).2 (P.at N ne) (many := 5) (by decide) (by decide) fun h tk u2 v2 pa hb hu2 => ?_
    obtain ⟨led, F, N, P, hk⟩ := penBack P F N hb pa
    clear hb pa
    replace hp := kt _ hk _ hp (by simp)
    replace mI := kt _ hk _ mI (by simp)
    replace mdr := hk _ mdr ndr.1 ndr.2
    replace mrv := hk _ mrv nr1 nr2
    clear kt hk
    repeat walk_at "S"
    with_reducible refine newListR F N (by rw [sizeLine_eq]; exact Nat.le_of_ble_eq_true rfl) fun nl h F N => ?_
    repeat (first | (with_reducible refine' Seal.ret ?K ?_; case K => with_reducible assumption) | with_reducible refine turnRet ?_)
    repeat walk_at "S"
    have hvl : rv.length = 2 * ps.length := by rw [hrv.len, flat_len]
    refine addL F N (led_list N (.tail _ mrv)) (led_list N N.m0) (by simp; omega) fun ka h F N => ?_
    repeat walk_at "S"
    with_reducible refine' stR F N ?_ ?_ ?_ ?_
    · exact rfl
    · exact rfl
    · exact rfl
    clear F N; intro h tk F N
    try (with_reducible refine' Seal.next ?K ?_; case K => with_reducible assumption)
    repeat walk_at "S"
    have P2 := P.consN (N.subl (List.sublist_cons_self _ _))
    have nka := PenL.offN P2 N
    refine turnM F N (.tail _ (.tail _ mI)) fun led3 hk3 => ⟨hk3 _ (.tail _ (.tail _ hp)) (by simp), (P2.consN N).sub fun _ _ q => hk3 _ q (by simp), hk3 _ (.tail _ (.tail _ mdr)) (by simp), m1, m2, ka, ps ++ [(u1, u2)], rfl, nka.1, nka.2, ⟨_, hk3 _ (.head _) (by simp), ?_⟩, by simp [hpl], fun q hq => ?_⟩
    · have e : flat (ps ++ [(u1, u2)]) = flat ps ++ [(u1 : Int), (u2 : Int)] := by simp [flat]
      rw [e]
      exact hrv.app (.cons ⟨_, rfl⟩ (.cons ⟨_, rfl⟩ .nil))
    · rcases List.mem_append.mp hq with hq | hq
      · exact hps q hq
      · rw [List.mem_singleton.mp hq]; exact ⟨hu1, hu2⟩
  · clear F N hrg hp P mdr mru nru
    rintro m₁ led₁ h tk ⟨hp, P, mdr, m1, m2, ru, ps, m3, nr1, nr2, hpl, hpn, hps⟩ F N
    try dsimp only
    try (with_reducible refine' Seal.next ?K ?_; case K => with_reducible assumption)
    refine' law_uncut (P := w.params) (A := A) (L := L) (fa := fa) (cd := cd) ?ho 17 ?hb ?he ?_
    case ho => k_is
    case hb => rfl
    case he => rfl
    exact hq _ _ _ _ x y z t0 t1 t2 dr ru ps F N m1 m2 mdr hx hy hz m3 hpl (by omega) hps
set_option linter.unusedVariables false
theorem sum_small {ps : List (Nat × Nat)} (h : ∀ q ∈ ps, q.1 < 9 ∧ q.2 < 5) : (ps.map (·.2)).sum ≤ 5 * ps.length := by
  induction ps with
  | nil => simp
  | cons p r ih =>
    have := ih fun q hq => h q (.tail _ hq)
    have := (h p (.head _)).2
    simp only [List.map_cons, List.sum_cons, List.length_cons]; omega
theorem law11
  {w : World} {mg mb : Str → Option Value} {me : ExcName → Option Value} {A : Around} {g h : Heap} {G : Array GenState} {D : Drawn} {tk : Nat} {O : OsState} {L fa : Addr} {cd : Value} {m : Str → Option Value} {led : Ls} {Q : Flow → Shared → Prop}
  (X : (hd.heap_1 w.params).In g) (T : TopH mg mb me g) (hh : A.handled = none) (hdp : A.depth + 150 < recursionLimit) (hu : A.units + 600 < cLine) (hfr : A.frames = some []) (F : Fr g L h m) (N : Led w g L h led)
  {b : Array UInt8} {tb : Tok} {x y z : Nat} {t0 t1 t2 : Tok} {dr ru : Addr} {ps : List (Nat × Nat)} (hb : b.size < 24) (hbm : m (Str.ofString "octets") = some (.bytes b tb)) (hdm : m (Str.ofString "drawn") = some (.ref dr)) (mdr : (dr, Res.lst [.int (x : Int) t0, .int (y : Int) t1, .int (z : Int) t2]) ∈ led) (hx : x < 3) (hy : y < 4) (hz : z < 3)
  (hrm : m (Str.ofString "places") = some (.ref ru)) (hPL : PL ru ps led) (hpl : ps.length < 4) (hps : ∀ q ∈ ps, q.1 < 9 ∧ q.2 < 5)
  (hq : ∀ h' tk', Fr g L h' m → Q (.ret (.bool true)) ⟨h', G, D, tk', O⟩) :
  wpAny (model PR w) (A.deeper (lawEnv w.params L fa cd)) (execs ((lawBody w.params).drop 17) (lawEnv w.params L fa cd)) Q (fun _ _ => False) ⟨h, G, D, tk, O⟩:= by
  obtain ⟨rv, mrv, hrv⟩ := hPL
  have hs := sum_small hps
  refine' law_cut ?ho ?_
  case ho => k_is
  dsimp only [List.drop]
  repeat walk_at "S"
  refine ⟨X.keeps F.keep, ?_⟩
  refine heard_c X T F.keep (by show A.handled = _; exact hh) (by show A.depth + _ + _ < _; omega) (by show A.units + 3 + _ < _; omega) (w0 := x) (w1 := y) (w2 := z) (ps := ps) (Around.frames_deeper hfr) ((ffr_nil g).cons F rfl rfl) (frs_new F rfl) ⟨dr, _, rfl, .cons ⟨_, rfl⟩ (.cons ⟨_, rfl⟩ (.cons ⟨_, rfl⟩ .nil)), .inl (led_list N mdr)⟩ ⟨ru, rv, rfl, hrv, .inl (led_list N mrv)⟩ (by omega) (by omega) (by omega) (fun q hq => by have := hps q hq; omega) (by omega) fun h tk a l r0 r1 kf hnew hout => ?_
  replace N := N.callK F rfl kf hnew
  replace F := fr_kept F rfl kf
  replace mdr := List.mem_append_right ((a, Res.tup [r0, r1]) :: l) mdr
  replace mrv := List.mem_append_right ((a, Res.tup [r0, r1]) :: l) mrv
  have ma : (a, Res.tup [r0, r1]) ∈ ((a, Res.tup [r0, r1]) :: l) ++ led := .head _
  clear kf hnew
  repeat walk_at "S"
  refine ⟨X.keeps F.keep, ?_⟩
  refine given_c X T F.keep (by show A.handled = _; exact hh) (by show A.depth + _ + _ < _; omega) (by show A.units + 3 + _ < _; omega) (w0 := x) (w1 := y) (w2 := z) (ps := ps) (led_list N mdr) (.cons ⟨_, rfl⟩ (.cons ⟨_, rfl⟩ (.cons ⟨_, rfl⟩ .nil))) ⟨ru, rv, rfl, hrv, .inl (led_list N mrv)⟩ (by omega) (by omega) (by omega) (fun q hq => by have := hps q hq; omega) fun h tk a' l' r0' r1' st' hnew hout' => ?_
  replace N := N.call F st' hnew
  replace F := fr_stays F st'
  repeat walk_at "S"
  refine eqOuts (N.get (r := .tup _) (List.mem_append_right _ ma)) (N.get (r := .tup _) (.head _)) (hout.outH (w := w) (h := h) fun p hp => N.has p (List.mem_append_right _ (List.mem_append_left _ (.tail _ hp)))) (hout'.outH (w := w) (h := h) fun p hp => N.has p (List.mem_append_left _ (.tail _ hp))) (by show A.units + 3 + _ < _; omega) ?_
  repeat walk_at "S"
  exact hq _ _ F
set_option linter.unusedVariables false
/- the law in plain Lean -/
theorem leastW_snoc (ns : List Nat) (low n : Nat) : leastW (ns ++ [n]) low = max (leastW ns low) (wd n) := by simp [leastW]
theorem snoc_ind {α : Type} {P : List α → Prop} (h0 : P []) (hs : ∀ l a, P l → P (l ++ [a])) (l : List α) : P l := by
  have : ∀ n (l : List α), l.length = n → P l := by
    intro n
    induction n with
    | zero => intro l h; rw [List.length_eq_zero_iff.mp h]; exact h0
    | succ n ih =>
      intro l h
      rcases List.eq_nil_or_concat l with rfl | ⟨l', a, rfl⟩
      · simp at h
      · rw [List.concat_eq_append]
        exact hs _ _ (ih l' (by simpa using h))
  exact this _ l rfl
theorem ws_is (tab : List (Int × E3)) : wsOf tab = (w0L tab, leastW (onesL tab) 1, leastW (twosL tab) 0) := by
  refine snoc_ind (P := fun tab => wsOf tab = (w0L tab, leastW (onesL tab) 1, leastW (twosL tab) 0)) rfl (fun l a ih => ?_) tab
  rw [wsOf_snoc, ih]
  unfold wStep
  have e1 : onesL (l ++ [a]) = onesL l ++ [a.2.2.1.toNat] := by simp [onesL]
  have e2 : twosL (l ++ [a]) = twosL l ++ [a.2.2.2.toNat] := by simp [twosL]
  rw [e1, e2, leastW_snoc, leastW_snoc]
  have e0 : (if a.2.1 = 1 then w0L l else 1) = w0L (l ++ [a]) := by
    unfold w0L
    rw [List.all_append]
    by_cases h : a.2.1 = 1
    · have hb : (a.2.1 == 1) = true := by rw [h]; rfl
      rw [if_pos h, List.all_cons, List.all_nil, hb, Bool.true_and, Bool.and_true]
    · have hb : (a.2.1 == 1) = false := by simpa using h
      rw [if_neg h, List.all_cons, hb, Bool.false_and, Bool.and_false]
      rfl
  rw [e0]
theorem w0L_le (tab : List (Int × E3)) : w0L tab ≤ 1 := by unfold w0L; split <;> omega
theorem fit_all {tab : List (Int × E3)} (h : TabOk tab) : ∀ p ∈ tab, fitE (w0L tab) (leastW (onesL tab) 1) (leastW (twosL tab) 0) p.2 := by
  intro p hp
  have o := h.ok p hp
  refine ⟨fun h0 => ?_, fun h0 => ?_, ⟨o.2.2.2.1, ?_⟩, ⟨o.2.2.2.2.2.1, ?_⟩⟩
  · have : w0L tab = 1 := by have := w0L_le tab; omega
    rw [this]; omega
  · unfold w0L at h0
    split at h0
    · rename_i z
      have := List.all_eq_true.mp z p hp
      simpa using this
    · omega
  · exact (wd_le _ _).mp (((leastW_le _ _ _).mp (Nat.le_refl _)).2 _ (List.mem_map.mpr ⟨p, hp, rfl⟩))
  · exact (wd_le _ _).mp (((leastW_le _ _ _).mp (Nat.le_refl _)).2 _ (List.mem_map.mpr ⟨p, hp, rfl⟩))
theorem least_less {ns : List Nat} {low : Nat} (h : low < leastW ns low) : ∃ n ∈ ns, 256 ^ (leastW ns low - 1) ≤ n := by
  have h2 : ¬ leastW ns low ≤ leastW ns low - 1 := by omega
  rw [leastW_le] at h2
  have h3 : ¬ ∀ n ∈ ns, wd n ≤ leastW ns low - 1 := fun z => h2 ⟨by omega, z⟩
  simp only [Classical.not_forall] at h3
  obtain ⟨n, hn, hw⟩ := h3
  exact ⟨n, hn, Nat.le_of_not_lt fun z => hw ((wd_le _ _).mpr z)⟩
theorem narrow_all {tab : List (Int × E3)} : ∀ i < 3, lowi i < Wi (w0L tab) (leastW (onesL tab) 1) (leastW (twosL tab) 0) i →
    ¬ ∀ p ∈ tab, fitE (lessi (w0L tab) (leastW (onesL tab) 1) (leastW (twosL tab) 0) i 0) (lessi (w0L tab) (leastW (onesL tab) 1) (leastW (twosL tab) 0) i 1) (lessi (w0L tab) (leastW (onesL tab) 1) (leastW (twosL tab) 0) i 2) p.2 := by
  intro i hi hlow hf
  match i, hi with
  | 0, _ =>
    simp only [lowi, Wi] at hlow
    have h1 := w0L_le tab
    have e : w0L tab = 1 := by simp at hlow; omega
    have : tab.all (fun p => p.2.1 == 1) = true := List.all_eq_true.mpr fun p hp => by
      have := (hf p hp).2.1 (by simp [lessi, Wi, e])
      simpa using this
    unfold w0L at e
    rw [if_pos this] at e; omega
  | 1, _ =>
    have hlow : 1 < leastW (onesL tab) 1 := by simpa [lowi, Wi] using hlow
    obtain ⟨n, hn, hge⟩ := least_less hlow
    obtain ⟨p, hp, rfl⟩ := List.mem_map.mp hn
    have := (hf p hp).2.2.1.2
    have e : lessi (w0L tab) (leastW (onesL tab) 1) (leastW (twosL tab) 0) 1 1 = leastW (onesL tab) 1 - 1 := by simp [lessi, Wi]
    rw [e] at this
    omega
  | 2, _ =>
    have hlow : 0 < leastW (twosL tab) 0 := by simpa [lowi, Wi] using hlow
    obtain ⟨n, hn, hge⟩ := least_less hlow
    obtain ⟨p, hp, rfl⟩ := List.mem_map.mp hn
    have := (hf p hp).2.2.2.2
    have e : lessi (w0L tab) (leastW (onesL tab) 1) (leastW (twosL tab) 0) 2 2 = leastW (twosL tab) 0 - 1 := by simp [lessi, Wi]
    rw [e] at this
    omega
def expand (ps : List (Nat × Nat)) : List Nat := ps.flatMap fun p => (List.range p.2).map (p.1 + ·)
theorem expand_app (a b : List (Nat × Nat)) : expand (a ++ b) = expand a ++ expand b := by simp [expand]
theorem runs_ok (ks : List Nat) (h : ks.Pairwise (· < ·)) : expand (runsOf ks) = ks ∧ (∀ p ∈ runsOf ks, 1 ≤ p.2) ∧ (∀ n, (∀ k ∈ ks, k < n) → ∀ p ∈ (runsOf ks).getLast?, p.1 + p.2 ≤ n) := by
  revert h
  refine snoc_ind (P := fun ks => ks.Pairwise (· < ·) → expand (runsOf ks) = ks ∧ (∀ p ∈ runsOf ks, 1 ≤ p.2) ∧ (∀ n, (∀ k ∈ ks, k < n) → ∀ p ∈ (runsOf ks).getLast?, p.1 + p.2 ≤ n)) (fun _ => ⟨rfl, (fun p hp => nomatch hp), (fun n _ p hp => by simp [runsOf] at hp)⟩) (fun l k ih => ?_) ks
  intro h
  rw [List.pairwise_append] at h
  obtain ⟨e, c1, last⟩ := ih h.1
  have hk : ∀ x ∈ l, x < k := fun x hx => h.2.2 x hx k (by simp)
  rw [runsOf_snoc]
  rcases List.eq_nil_or_concat (runsOf l) with z | ⟨us, ⟨a, c⟩, z⟩
  · rw [z] at e ⊢
    have : l = [] := e.symm
    subst this
    refine ⟨by simp [rStep, expand], fun p hp => ?_, fun n hn p hp => ?_⟩
    · simp [rStep] at hp; subst hp; exact Nat.le_refl _
    · simp [rStep] at hp; subst hp
      exact hn k (by simp)
  · rw [List.concat_eq_append] at z
    have hle := last k hk (a, c) (by rw [z]; simp)
    rw [z] at e c1 ⊢
    rw [rStep_snoc]
    dsimp only at hle
    by_cases h1 : k = a + c
    · rw [if_pos h1]
      refine ⟨?_, fun p hp => ?_, fun n hn p hp => ?_⟩
      · rw [expand_app] at e ⊢
        have : expand [(a, c + 1)] = expand [(a, c)] ++ [a + c] := by simp [expand, List.range_succ]
        rw [this, ← List.append_assoc, e, h1]
      · rcases List.mem_append.mp hp with q | q
        · exact c1 p (List.mem_append_left _ q)
        · rw [List.mem_singleton.mp q]; exact Nat.le_add_left _ _
      · rw [List.getLast?_concat] at hp
        cases hp
        have := hn k (by simp)
        dsimp only; omega
    · rw [if_neg h1, if_pos (show k > a + c by omega)]
      refine ⟨?_, fun p hp => ?_, fun n hn p hp => ?_⟩
      · rw [expand_app, e]; simp [expand]
      · rcases List.mem_append.mp hp with q | q
        · exact c1 p q
        · rw [List.mem_singleton.mp q]; exact Nat.le_refl _
      · rw [List.getLast?_concat] at hp
        cases hp
        exact hn k (by simp)
set_option linter.unusedVariables false
theorem rowE_rowB {w0 w1 w2 : Nat} {e : E3} (h : fitE w0 w1 w2 e) (h3 : e.1 < 3) : rowE (rowB w0 w1 w2 e) w0 w1 = some e := by
  rw [← rowB_eq]
  have l0 := octs_len e.1 w0
  have l1 := octs_len e.2.1.toNat w1
  have t0 : (octs e.1 w0 ++ octs e.2.1.toNat w1 ++ octs e.2.2.toNat w2).take w0 = octs e.1 w0 := by
    rw [List.append_assoc, List.take_append_of_le_length (by omega), List.take_of_length_le (by omega)]
  have d0 : (octs e.1 w0 ++ octs e.2.1.toNat w1 ++ octs e.2.2.toNat w2).drop w0 = octs e.2.1.toNat w1 ++ octs e.2.2.toNat w2 := by
    rw [List.append_assoc, List.drop_append_of_le_length (by omega), List.drop_of_length_le (by omega), List.nil_append]
  have t1 : (octs e.2.1.toNat w1 ++ octs e.2.2.toNat w2).take w1 = octs e.2.1.toNat w1 := by
    rw [List.take_append_of_le_length (by omega), List.take_of_length_le (by omega)]
  have d1 : (octs e.1 w0 ++ octs e.2.1.toNat w1 ++ octs e.2.2.toNat w2).drop (w0 + w1) = octs e.2.2.toNat w2 := by
    rw [← List.drop_drop, d0, List.drop_append_of_le_length (by omega), List.drop_of_length_le (by omega), List.nil_append]
  obtain ⟨f1, f2, ⟨f3, f4⟩, f5, f6⟩ := h
  unfold rowE
  rw [t0, d0, t1, d1, beN_octs _ _ f4, beN_octs _ _ f6]
  have hw : (if 0 < w0 then beN (octs e.1 w0) else 1) = e.1 := by
    by_cases h0 : 0 < w0
    · rw [if_pos h0, beN_octs _ _ (f1 h0)]
    · rw [if_neg h0, f2 (by omega)]
  rw [hw]
  dsimp only
  rw [if_pos h3, Int.toNat_of_nonneg f3, Int.toNat_of_nonneg f5]
section
variable {w0 w1 w2 : Nat}
theorem goRun_list (bs : List UInt8) (hz : 0 < w0 + w1 + w2) : ∀ (A pre rest : List (Int × E3)) (n : Nat) (tail : List UInt8), bs = ((pre ++ A ++ rest).flatMap fun p => rowB w0 w1 w2 p.2) ++ tail →
    A.map (·.1) = (List.range A.length).map (fun i => ((n + i : Nat) : Int)) → ((pre ++ A).map (·.1)).Nodup → (∀ p ∈ A, fitE w0 w1 w2 p.2 ∧ p.2.1 < 3) →
    goRun bs w0 w1 w2 A.length n (pre.length * (w0 + w1 + w2), pre.map (·.1), pre) = .ok ((pre ++ A).length * (w0 + w1 + w2), (pre ++ A).map (·.1), pre ++ A)
  | [], pre, rest, n, tail, _, _, _, _ => by simp [goRun]
  | q :: A, pre, rest, n, tail, hb, hA, hn, hf => by
    rw [List.length_cons]
    unfold goRun
    have hq1 : q.1 = (n : Int) := by
      rw [List.length_cons, List.range_succ_eq_map] at hA
      simp at hA
      exact hA.1
    have hA' : A.map (·.1) = (List.range A.length).map (fun i => ((n + 1 + i : Nat) : Int)) := by
      rw [List.length_cons, List.range_succ_eq_map, List.map_cons, List.map_cons, List.map_map] at hA
      rw [(List.cons.inj hA).2]
      refine List.map_congr_left fun i _ => ?_
      simp; omega
    have hnot : (n : Int) ∉ pre.map (·.1) := by
      intro z
      rw [List.map_append, List.nodup_append] at hn
      exact hn.2.2 _ z _ (by simp [hq1]) rfl
    rw [if_neg hnot]
    have hrow : rowAt bs w0 w1 w2 (pre.length * (w0 + w1 + w2)) = some q.2 := by
      unfold rowAt
      have hl : (pre.flatMap fun p => rowB w0 w1 w2 p.2).length = pre.length * (w0 + w1 + w2) := rows_len w0 w1 w2 pre
      have e : bs = (pre.flatMap fun p => rowB w0 w1 w2 p.2) ++ (rowB w0 w1 w2 q.2 ++ (((A ++ rest).flatMap fun p => rowB w0 w1 w2 p.2) ++ tail)) := by
        rw [hb]; simp [List.flatMap_append]
      rw [e, List.drop_append_of_le_length (by omega), List.drop_of_length_le (by omega), List.nil_append, List.take_append_of_le_length (by rw [rowB_len]; omega), List.take_of_length_le (by rw [rowB_len]; omega)]
      exact rowE_rowB (hf q (.head _)).1 (hf q (.head _)).2
    rw [hrow]
    have hput : put pre (n : Int) (some q.2) = pre ++ [q] := by
      show pre ++ [((n : Int), q.2)] = pre ++ [q]
      rw [← hq1]
    dsimp only
    rw [hput]
    have ih := goRun_list bs hz A (pre ++ [q]) rest (n + 1) tail (by rw [hb]; simp) hA' (by simpa using hn) (fun p hp => hf p (.tail _ hp))
    have e1 : (pre ++ [q]).length * (w0 + w1 + w2) = pre.length * (w0 + w1 + w2) + (w0 + w1 + w2) := by
      rw [List.length_append, List.length_singleton, Nat.succ_mul]
    have e2 : (pre ++ [q]).map (·.1) = pre.map (·.1) ++ [(n : Int)] := by rw [List.map_append, ← hq1]; rfl
    rw [e1, e2] at ih
    rw [show ((n + 1 : Nat) : Int) = (n : Int) + 1 from rfl] at ih
    rw [ih]
    simp
theorem goRuns_list (bs : List UInt8) (hz : 0 < w0 + w1 + w2) : ∀ (ps : List (Nat × Nat)) (pre suf : List (Int × E3)) (tail : List UInt8), bs = ((pre ++ suf).flatMap fun p => rowB w0 w1 w2 p.2) ++ tail →
    suf.map (·.1) = (expand ps).map (fun (i : Nat) => (i : Int)) → ((pre ++ suf).map (·.1)).Nodup → (∀ p ∈ suf, fitE w0 w1 w2 p.2 ∧ p.2.1 < 3) →
    ∃ s, goRuns bs w0 w1 w2 ps (pre.length * (w0 + w1 + w2), pre.map (·.1), pre) = .ok s ∧ s.2.2 = pre ++ suf
  | [], pre, suf, tail, _, hk, _, _ => by
    have : suf = [] := by simpa [expand] using hk
    subst this
    exact ⟨_, rfl, by simp⟩
  | (a, c) :: r, pre, suf, tail, hb, hk, hn, hf => by
    have hex : expand ((a, c) :: r) = (List.range c).map (a + ·) ++ expand r := by simp [expand]
    rw [hex, List.map_append, List.map_map] at hk
    have hlen : c ≤ suf.length := by
      have := congrArg List.length hk
      simp at this; omega
    have hA : (suf.take c).map (·.1) = (List.range c).map (fun i => ((a + i : Nat) : Int)) := by
      rw [List.map_take, hk, List.take_append_of_le_length (by simp), List.take_of_length_le (by simp)]
      rfl
    have hB : (suf.drop c).map (·.1) = (expand r).map (fun (i : Nat) => (i : Int)) := by
      rw [List.map_drop, hk, List.drop_append_of_le_length (by simp), List.drop_of_length_le (by simp), List.nil_append]
    have hAl : (suf.take c).length = c := by rw [List.length_take]; omega
    have hsplit : suf = suf.take c ++ suf.drop c := (List.take_append_drop c suf).symm
    unfold goRuns
    have hbl : bs.length = (pre ++ suf).length * (w0 + w1 + w2) + tail.length := by rw [hb, List.length_append, rows_len]
    have hcond : ¬ (pre.length * (w0 + w1 + w2) + (w0 + w1 + w2) * c > bs.length ∨ (w0 + w1 + w2 = 0 ∧ c > 0)) := by
      rintro (z | ⟨z, _⟩)
      · have hm : (pre.length + suf.length) * (w0 + w1 + w2) = pre.length * (w0 + w1 + w2) + suf.length * (w0 + w1 + w2) := Nat.add_mul _ _ _
        rw [hbl, List.length_append, hm] at z
        have : (w0 + w1 + w2) * c ≤ suf.length * (w0 + w1 + w2) := by rw [Nat.mul_comm]; exact Nat.mul_le_mul_right _ hlen
        exact absurd z (Nat.not_lt.mpr (Nat.le_trans (Nat.add_le_add_left this _) (Nat.le_add_right _ _)))
      · omega
    dsimp only
    rw [if_neg hcond]
    have g := goRun_list bs hz (suf.take c) pre (suf.drop c) a tail (by rw [List.append_assoc, ← hsplit]; exact hb) (by rw [hAl]; exact hA) (by
      have : (pre ++ suf.take c).Sublist (pre ++ suf) := (List.take_sublist c suf).append_left pre
      exact (this.map _).nodup hn) (fun p hp => hf p (List.mem_of_mem_take hp))
    rw [hAl] at g
    rw [g]
    dsimp only
    obtain ⟨s, h1, h2⟩ := goRuns_list bs hz r (pre ++ suf.take c) (suf.drop c) tail (by rw [List.append_assoc, ← hsplit]; exact hb) hB (by rw [List.append_assoc, ← hsplit]; exact hn) (fun p hp => hf p (List.mem_of_mem_drop hp))
    exact ⟨s, h1, by rw [h2, List.append_assoc, ← hsplit]⟩
end
theorem given_rows {tab : List (Int × E3)} (hT : TabOk tab) : ∃ s, given ((tab.flatMap fun p => rowB (w0L tab) (leastW (onesL tab) 1) (leastW (twosL tab) 0) p.2) ++ [10]) (w0L tab) (leastW (onesL tab) 1) (leastW (twosL tab) 0) (runsOf (keysN tab)) = .ok s ∧ s.2.2 = tab := by
  have h1 : 1 ≤ leastW (onesL tab) 1 := ((leastW_le _ _ _).mp (Nat.le_refl _)).1
  obtain ⟨e, _, _⟩ := runs_ok (keysN tab) (keysN_asc hT)
  obtain ⟨s, a, b⟩ := goRuns_list (w0 := w0L tab) (w1 := leastW (onesL tab) 1) (w2 := leastW (twosL tab) 0) ((tab.flatMap fun p => rowB (w0L tab) (leastW (onesL tab) 1) (leastW (twosL tab) 0) p.2) ++ [10]) (by omega) (runsOf (keysN tab)) [] tab [10] rfl (by rw [e, keysN_cast hT]) (List.nodup_iff_pairwise_ne.mpr (hT.asc.imp fun h => Int.ne_of_lt h)) (fun p hp => ⟨fit_all hT p hp, (hT.ok p hp).2.2.1⟩)
  refine ⟨s, ?_, b⟩
  unfold given
  simpa using a
theorem runs_small {tab : List (Int × E3)} (hT : TabOk tab) (h9 : tab.length ≤ 9) : (runsOf (keysN tab)).length ≤ 9 ∧ (∀ p ∈ runsOf (keysN tab), p.1 + p.2 < 2 ^ 50) ∧ ((runsOf (keysN tab)).map (·.2)).sum ≤ 1000 := by
  have hkl : (keysN tab).length = tab.length := by unfold keysN; rw [List.length_map]
  obtain ⟨e, c1, _⟩ := runs_ok (keysN tab) (keysN_asc hT)
  refine ⟨Nat.le_trans (runs_len _) (by omega), fun p hp => ?_, ?_⟩
  · have : p.1 + (p.2 - 1) ∈ expand (runsOf (keysN tab)) := List.mem_flatMap.mpr ⟨p, hp, List.mem_map.mpr ⟨p.2 - 1, List.mem_range.mpr (by have := c1 p hp; omega), rfl⟩⟩
    rw [e] at this
    obtain ⟨q, hq, hq2⟩ := List.mem_map.mp this
    have := hT.ok q hq
    have := c1 p hp
    omega
  · have : ((runsOf (keysN tab)).map (·.2)).sum = (expand (runsOf (keysN tab))).length := by
      unfold expand
      rw [List.length_flatMap]
      congr 1
      refine List.map_congr_left fun p _ => by simp
    rw [this, e]; omega
set_option linter.unusedVariables false
theorem law_all
  {w : World} {mg mb : Str → Option Value} {me : ExcName → Option Value} {A : Around} {g h : Heap} {G : Array GenState} {D : Drawn} {tk : Nat} {O : OsState} {L fa : Addr} {cd : Value} {m : Str → Option Value} {led : Ls} {Q : Flow → Shared → Prop}
  (X : (hd.heap_1 w.params).In g) (T : TopH mg mb me g) (hh : A.handled = none) (hdp : A.depth + 150 < recursionLimit) (hu : A.units + 600 < cLine) (hfr : A.frames = some []) (F : Fr g L h m) (N : Led w g L h [(L + 3, .cel none), (L + 2, .cel none), (L + 1, .cel none)])
  {q : Addr} {vs : List Value} {ns : List Int} (hl : g.IsList q vs.toArray) (hA : A2 IV vs ns) (hz : vs.length ≤ 63) (hs : m (Str.ofString "script") = some (.ref q))
  (hq : ∀ h' tk' m, Fr g L h' m → Q (.ret (.bool true)) ⟨h', G, D, tk', O⟩) :
  wpAny (model PR w) (A.deeper (lawEnv w.params L fa cd)) (execs ((lawBody w.params).drop 0) (lawEnv w.params L fa cd)) Q (fun _ _ => False) ⟨h, G, D, tk, O⟩:= by
  refine law0 (led := []) X T hh hdp hu hfr F N hl hA hz hs fun h tk led p c d tab F N hT B => ?_
  refine law1 X T hh hdp hu hfr F N hT B fun h tk led de kve F N B EN => ?_
  refine law2 X T hh hdp hu hfr F N hT B EN fun h tk led wt t0 t1 t2 F N B EN mw => ?_
  have hw : w0L tab ≤ 8 ∧ leastW (onesL tab) 1 ≤ 8 ∧ leastW (twosL tab) 0 ≤ 8 := ⟨Nat.le_trans (w0L_le tab) (by decide), least_small (by decide) (ones_small hT.ok), least_small (by decide) (twos_small hT.ok)⟩
  refine law3 X T hh hdp hu hfr F N hT hw B EN ⟨rfl, rfl, t0, t1, t2, mw⟩ fun h tk led m F N B EN W R => ?_
  refine law4 X T hh hdp hu hfr F N hT B EN W R fun h tk led m ru F N B EN W R RU => ?_
  obtain ⟨s, g1, g2⟩ := given_rows hT.ok
  obtain ⟨r1, r2, r3⟩ := runs_small hT.ok hT.l9
  refine law5 X T hh hdp hu hfr F N hT B EN W R RU hw (ws_is tab) (fit_all hT.ok) rfl g1 g2 r1 r2 r3 fun h tk led F N B EN W => ?_
  refine law6 X T hh hdp hu hfr F N hT B EN W hw narrow_all fun h tk led m F N B => ?_
  refine law7 X T hh hdp hu hfr F N B fun h tk led F N B => ?_
  refine law8 X T hh hdp hu hfr F N hT B fun h tk led m F N B => ?_
  refine law9 X T hh hdp hu hfr F N ⟨B.1, B.2.2.2.1, B.2.2.2.2.1⟩ fun h tk led b tb F N B hb => ?_
  refine law10 X T hh hdp hu hfr F N B hb rfl fun h tk led m x y z t0 t1 t2 dr ru ps F N m1 m2 mdr hx hy hz m3 hPL hpl hps => ?_
  exact law11 X T hh hdp hu hfr F N hb m1 m2 mdr hx hy hz m3 hPL hpl hps fun h' tk' F => hq h' tk' _ F
set_option linter.unusedVariables false
local macro_rules | `(tactic| k_qdec) => `(tactic| decide +kernel)
theorem nodup3 (L : Addr) (a b c : Res) : (keys [(L + 3, a), (L + 2, b), (L + 1, c)]).Nodup := by
  simp [keys]
theorem main : PySem.Challenge.rw_nn0115_01.Holds := hdw (by
  k_go0
  rename Fr _ _ _ _ => F
  rename News _ _ _ _ => N0
  rename CellsAre _ _ _ => X0
  rename (hd.heap_1 _).In _ => X
  rename Top _ _ _ _ _ _ => T
  rename IntsAre _ _ => hI
  rename Heap.IsList _ _ _ => hL
  rename ¬ (63 : Int) < _ => h63
  rename _ = #[] => hg
  refine wpAny_mono (E := fun _ _ => False) ?_ (fun f s' hf => hf) (fun _ _ e => e.elim)
  rename World => w
  refine' law_uncut (P := w.params) (A := callerA) ?ho 0 ?hb ?he ?_
  case ho => k_is
  case hb => rfl
  case he => rfl
  refine law_all (led := []) X T rfl (by rw [depth_caller]; decide) (by rw [units_caller]; have := cLine_is; omega) rfl F ?_ hL (A2.ofInts hI) ?_ ?_ fun h' tk' m F' => ?_
  · rename_i e3 e2 e1
    have h3 := heapK X
    refine ⟨fun p hp => ?_, ?_, h3⟩
    · simp only [List.mem_cons, List.not_mem_nil, or_false] at hp
      rcases hp with rfl | rfl | rfl
      · exact ⟨⟨_, (N0 _ (.head _)).1, e3⟩, Nat.lt_succ_of_lt (Nat.lt_succ_of_lt (Nat.lt_succ_of_lt h3)), (N0 _ (.head _)).2.1, (N0 _ (.head _)).2.2⟩
      · exact ⟨⟨_, (N0 _ (.tail _ (.head _))).1, e2⟩, Nat.lt_succ_of_lt (Nat.lt_succ_of_lt h3), (N0 _ (.tail _ (.head _))).2.1, (N0 _ (.tail _ (.head _))).2.2⟩
      · exact ⟨⟨_, (N0 _ (.tail _ (.tail _ (.head _)))).1, e1⟩, Nat.lt_succ_of_lt h3, (N0 _ (.tail _ (.tail _ (.head _)))).2.1, (N0 _ (.tail _ (.tail _ (.head _)))).2.2⟩
    · exact nodup3 _ _ _ _
  · have := hI.length
    omega
  · rfl
  · refine goodW_bool F' hg (fun _ => rfl) ?_ rfl
    kernel_rfl)
end Mine
theorem PySem.Challenge.cw_nn0115_01_holds : PySem.Challenge.rw_nn0115_01.Holds :=
  Mine.main
