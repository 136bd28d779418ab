import PyProof.Rows.All
import Wide.All
import OpenK.AllK
import Wide.FinOn
import KE.KDictOf
import KE.KDictSum
import PySem.Challenge.RW_sy0060_01
open PySem PySem.W PySem.Calls PyProof.Rows
set_option Elab.async false
set_option maxRecDepth 100000
set_option maxHeartbeats 4000000
set_option linter.all false
set_option bootstrap.genMatcherCode false
set_option tactic.hygienic false
namespace Mine
section
theorem nos {α : Type} {x : α} {C : Prop} (e : none = some x) : C := by cases e
noncomputable def gB {α : Type} (b : Bool) (o : Option α) : Option α := cond b o none
theorem gB_k {α : Type} {b : Bool} {o : Option α} {r : α} (h : gB b o = some r) {G : Prop} (k : b = true → o = some r → G) : G := by
  induction b using Bool.casesOn with
  | false => exact nos h
  | true => exact k rfl h
theorem gB_of {α : Type} {b : Bool} {o : Option α} (h : b = true) : gB b o = o := by subst h; rfl
theorem ob_k {α β : Type} {o : Option α} {f : α → Option β} {r : β} (h : o.bind f = some r) {G : Prop} (k : ∀ a, o = some a → f a = some r → G) : G := by
  induction o using Option.casesOn with
  | none => exact nos h
  | some a => exact k a rfl h
theorem om_k {α β : Type} {o : Option α} {f : α → β} {r : β} (h : o.map f = some r) {G : Prop} (k : ∀ a, o = some a → f a = r → G) : G := by
  induction o using Option.casesOn with
  | none => exact nos h
  | some a => exact k a rfl (Option.some.inj h)
noncomputable def oP {α : Type} (o : Option α) (P : α → Prop) : Prop := Option.rec (motive := fun _ => Prop) False P o
theorem oP_k {α : Type} {o : Option α} {P : α → Prop} (q : oP o P) {G : Prop} (k : ∀ a, o = some a → P a → G) : G := by
  induction o using Option.casesOn with
  | none => exact q.elim
  | some a => exact k a rfl q
theorem oP_of {α : Type} {o : Option α} {P : α → Prop} {a : α} (e : o = some a) (q : P a) : oP o P := by subst e; exact q
theorem oP_up {α : Type} {o : Option α} {P P' : α → Prop} (q : oP o P) (k : ∀ a, P a → P' a) : oP o P' := oP_k q fun a e q => oP_of e (k a q)
noncomputable def bP (b : Bool) (P : Prop) : Prop := cond b P False
theorem bP_k {b : Bool} {P : Prop} (q : bP b P) {G : Prop} (k : b = true → P → G) : G := by
  induction b using Bool.casesOn with
  | false => exact q.elim
  | true => exact k rfl q
theorem bP_of {b : Bool} {P : Prop} (h : b = true) (q : P) : bP b P := by subst h; exact q
theorem bP_up {b : Bool} {P P' : Prop} (q : bP b P) (k : P → P') : bP b P' := bP_k q fun e q => bP_of e (k q)
theorem band_k {a b : Bool} (h : (a && b) = true) {G : Prop} (k : a = true → b = true → G) : G := by
  induction a using Bool.casesOn with
  | false => exact Bool.noConfusion h
  | true => exact k rfl h
theorem bc {G : Prop} (h : (G → False) → False) : G := Classical.byContradiction h
theorem bf {C : Prop} (h : false = true) : C := Bool.noConfusion h
inductive AV where
  | py (d : PyData)
  | ref (i : Nat)
  | mix (xs : List AV)
  | fro (p : Addr × Addr)
noncomputable def vD : AV → Option PyData
  | .py d => some d
  | .ref _ => none
  | .mix _ => none
  | .fro _ => none
inductive AO where
  | list (xs : List AV)
  | dict (es : List (PyData × AV))
  | inst (c : Nat) (fs : List (Str × AV))
noncomputable abbrev AH := List AO
noncomputable abbrev Mu := List (Addr × Addr)

mutual
inductive VR (μ : Mu) (h : Heap) : AV → Value → Prop
  | py {d v} : Reads h v d [] → VR μ h (.py d) v
  | ref {i p} : μ[i]? = some p → VR μ h (.ref i) (.ref p.1)
  | mix {xs a o vs n} : h.get? a = some o → o.cls = .type "tuple" → o.data = .seq vs n → VRs μ h xs vs.toList → VR μ h (.mix xs) (.ref a)
  | fro {p} : VR μ h (.fro p) (.ref p.1)
inductive VRs (μ : Mu) (h : Heap) : List AV → List Value → Prop
  | nil : VRs μ h [] []
  | cons {a v as vs} : VR μ h a v → VRs μ h as vs → VRs μ h (a :: as) (v :: vs)
end

noncomputable def TK (h h' : Heap) : Prop := ∀ (a : Addr) (o : Obj) (vs : Array Value) (n : Nat), h.get? a = some o → o.cls = .type "tuple" → o.data = .seq vs n → h'.get? a = some o
theorem TK.refl (h : Heap) : TK h h := fun _ _ _ _ e _ _ => e
theorem TK.trans {h h' h'' : Heap} (x : TK h h') (y : TK h' h'') : TK h h'' := fun a o vs n e c d => y a o vs n (x a o vs n e c d) c d
theorem reads_tk {h h' : Heap} (k : TK h h') {v : Value} {d : PyData} {as : List Addr} (r : Reads h v d as) : as = [] → Reads h' v d [] := by
  refine Reads.rec (motive_1 := fun v d as _ => as = [] → Reads h' v d []) (motive_2 := fun vs ds as _ => as = [] → ReadsAll h' vs ds [])
    (fun _ => .none) (fun b _ => .bool b) (fun i t _ => .int i t) (fun x t _ => .str x t) ?_ ?_ ?_ (fun _ => .nil) ?_ r
  · intro a o vs n xs as _ _ _ _ _ e; exact absurd e (List.cons_ne_nil _ _)
  · intro a o vs n xs as h1 h2 h3 _ ih e; exact .tuple (k _ _ _ _ h1 h2 h3) h2 h3 (ih e)
  · intro a o es n kvs as bs _ _ _ _ _ _ _ e; exact absurd e (List.cons_ne_nil _ _)
  · intro v vs d ds as bs _ _ i1 i2 e
    exact .cons (as := []) (bs := []) (i1 (List.append_eq_nil_iff.mp e).1) (i2 (List.append_eq_nil_iff.mp e).2)
theorem readsAll_tk {h h' : Heap} (k : TK h h') {vs : List Value} {ds : List PyData} {as : List Addr} (r : ReadsAll h vs ds as) : as = [] → ReadsAll h' vs ds [] := by
  refine ReadsAll.rec (motive_1 := fun _ _ _ _ => True) (motive_2 := fun vs ds as _ => as = [] → ReadsAll h' vs ds [])
    trivial (fun _ => trivial) (fun _ _ => trivial) (fun _ _ => trivial) ?_ ?_ ?_ (fun _ => .nil) ?_ r
  · intros; trivial
  · intros; trivial
  · intros; trivial
  · intro v vs d ds as bs r1 _ _ i2 e
    exact .cons (as := []) (bs := []) (reads_tk k r1 (List.append_eq_nil_iff.mp e).1) (i2 (List.append_eq_nil_iff.mp e).2)
theorem reads_tup_inv {h : Heap} {v : Value} {ds : List PyData} {as : List Addr} (r : Reads h v (.tuple ds) as) : ∃ a o vs n, v = .ref a ∧ h.get? a = some o ∧ o.cls = .type "tuple" ∧ o.data = .seq vs n ∧ ReadsAll h vs.toList ds as := by
  cases r with
  | tuple h1 h2 h3 h4 => exact ⟨_, _, _, _, rfl, h1, h2, h3, h4⟩
theorem VR.mono {μ μ' : Mu} {h h' : Heap} (hm : ∀ (i : Nat) (p : Addr × Addr), μ[i]? = some p → μ'[i]? = some p) (k : TK h h') {a : AV} {v : Value} (r : VR μ h a v) : VR μ' h' a v := by
  refine VR.rec (motive_1 := fun a v _ => VR μ' h' a v) (motive_2 := fun as vs _ => VRs μ' h' as vs) ?_ ?_ ?_ .fro .nil ?_ r
  · intro d v r; exact .py (reads_tk k r rfl)
  · intro i p e; exact .ref (hm _ _ e)
  · intro xs a o vs n h1 h2 h3 _ ih; exact .mix (k _ _ _ _ h1 h2 h3) h2 h3 ih
  · intro a v as vs _ _ i1 i2; exact .cons i1 i2
theorem VRs.ind {μ : Mu} {h : Heap} {P : List AV → List Value → Prop} (h0 : P [] []) (h1 : ∀ a v as vs, VR μ h a v → VRs μ h as vs → P as vs → P (a :: as) (v :: vs)) {as : List AV} {vs : List Value} (r : VRs μ h as vs) : P as vs := by
  refine VRs.rec (motive_1 := fun _ _ _ => True) (motive_2 := fun as vs _ => P as vs) ?_ ?_ ?_ trivial h0 ?_ r
  · intros; trivial
  · intros; trivial
  · intros; trivial
  · intro a v as vs r1 r2 _ i2; exact h1 a v as vs r1 r2 i2
theorem VRs.mono {μ μ' : Mu} {h h' : Heap} (hm : ∀ (i : Nat) (p : Addr × Addr), μ[i]? = some p → μ'[i]? = some p) (k : TK h h') {as : List AV} {vs : List Value} (r : VRs μ h as vs) : VRs μ' h' as vs :=
  r.ind (P := fun as vs => VRs μ' h' as vs) .nil fun _ _ _ _ r _ i => .cons (r.mono hm k) i
theorem VRs.length {μ : Mu} {h : Heap} {as : List AV} {vs : List Value} (r : VRs μ h as vs) : as.length = vs.length :=
  r.ind (P := fun as vs => as.length = vs.length) rfl fun _ _ _ _ _ _ i => congrArg (· + 1) i
theorem VRs.append {μ : Mu} {h : Heap} {as : List AV} {vs : List Value} {bs : List AV} {ws : List Value} (x : VRs μ h as vs) (y : VRs μ h bs ws) : VRs μ h (as ++ bs) (vs ++ ws) :=
  x.ind (P := fun as vs => VRs μ h (as ++ bs) (vs ++ ws)) y fun _ _ _ _ r _ i => .cons r i
theorem VRs.get {μ : Mu} {h : Heap} {as : List AV} {vs : List Value} (x : VRs μ h as vs) : ∀ {i : Nat} {a : AV}, as[i]? = some a → ∃ v, vs[i]? = some v ∧ VR μ h a v :=
  x.ind (P := fun as vs => ∀ {i : Nat} {a : AV}, as[i]? = some a → ∃ v, vs[i]? = some v ∧ VR μ h a v) (fun e => nos e) fun a v as vs r _ ih i a' e => by
    cases i with
    | zero => exact ⟨v, rfl, Option.some.inj e ▸ r⟩
    | succ i => exact ih e
theorem VRs.get' {μ : Mu} {h : Heap} {as : List AV} {vs : List Value} (x : VRs μ h as vs) : ∀ {i : Nat} {v : Value}, vs[i]? = some v → ∃ a, as[i]? = some a ∧ VR μ h a v :=
  x.ind (P := fun as vs => ∀ {i : Nat} {v : Value}, vs[i]? = some v → ∃ a, as[i]? = some a ∧ VR μ h a v) (fun e => nos e) fun a v as vs r _ ih i v' e => by
    cases i with
    | zero => exact ⟨a, rfl, Option.some.inj e ▸ r⟩
    | succ i => exact ih e
theorem VRs.reverse {μ : Mu} {h : Heap} {as : List AV} {vs : List Value} (x : VRs μ h as vs) : VRs μ h as.reverse vs.reverse :=
  x.ind (P := fun as vs => VRs μ h as.reverse vs.reverse) .nil fun a v as vs r _ ih => by
    rw [List.reverse_cons, List.reverse_cons]; exact ih.append (.cons r .nil)
theorem VRs.drop {μ : Mu} {h : Heap} (n : Nat) {as : List AV} {vs : List Value} (x : VRs μ h as vs) : VRs μ h (as.drop n) (vs.drop n) :=
  x.ind (P := fun as vs => ∀ n : Nat, VRs μ h (as.drop n) (vs.drop n)) (fun n => by rw [List.drop_nil, List.drop_nil]; exact .nil) (fun a v as vs r x ih n => by
    cases n with
    | zero => exact .cons r x
    | succ n => exact ih n) n
theorem VRs.dropLast {μ : Mu} {h : Heap} {as : List AV} {vs : List Value} (x : VRs μ h as vs) : VRs μ h as.dropLast vs.dropLast := by
  have := (x.reverse.drop 1).reverse
  rwa [List.drop_one, List.drop_one, List.tail_reverse, List.tail_reverse, List.reverse_reverse, List.reverse_reverse] at this
noncomputable def VRi (μ : Mu) (h : Heap) : AV → Value → Prop
  | .py d, v => Reads h v d []
  | .ref i, v => ∃ p, μ[i]? = some p ∧ v = .ref p.1
  | .mix xs, v => ∃ a o vs n, v = .ref a ∧ h.get? a = some o ∧ o.cls = .type "tuple" ∧ o.data = .seq vs n ∧ VRs μ h xs vs.toList
  | .fro p, v => v = .ref p.1
theorem VR.inv {μ : Mu} {h : Heap} {a : AV} {v : Value} (r : VR μ h a v) : VRi μ h a v := by
  cases r with
  | py r => exact r
  | ref e => exact ⟨_, e, rfl⟩
  | mix h1 h2 h3 h4 => exact ⟨_, _, _, _, rfl, h1, h2, h3, h4⟩
  | fro => exact rfl
theorem VRs.ofReads {μ : Mu} {h : Heap} {vs : List Value} {ds : List PyData} {as : List Addr} (r : ReadsAll h vs ds as) : as = [] → VRs μ h (ds.map .py) vs := by
  refine ReadsAll.rec (motive_1 := fun _ _ _ _ => True) (motive_2 := fun vs ds as _ => as = [] → VRs μ h (ds.map .py) vs)
    trivial (fun _ => trivial) (fun _ _ => trivial) (fun _ _ => trivial) ?_ ?_ ?_ (fun _ => .nil) ?_ r
  · intros; trivial
  · intros; trivial
  · intros; trivial
  · intro v vs d ds as bs r1 _ _ i2 e
    exact .cons (.py ((List.append_eq_nil_iff.mp e).1 ▸ r1)) (i2 (List.append_eq_nil_iff.mp e).2)
noncomputable def allPy : List AV → Option (List PyData)
  | [] => some []
  | a :: r => (vD a).bind fun d => (allPy r).map (d :: ·)
theorem VRs.reads {μ : Mu} {h : Heap} {as : List AV} {vs : List Value} (x : VRs μ h as vs) : ∀ {ds : List PyData}, allPy as = some ds → ReadsAll h vs ds [] :=
  x.ind (P := fun as vs => ∀ {ds : List PyData}, allPy as = some ds → ReadsAll h vs ds []) (fun e => Option.some.inj e ▸ .nil) fun a v as vs r _ ih ds e => by
    cases a with
    | py d =>
      obtain ⟨l, e1, e2⟩ := Option.map_eq_some_iff.mp e
      exact e2 ▸ .cons (as := []) (bs := []) r.inv (ih e1)
    | _ => exact nos e
theorem allPy_map : ∀ ds : List PyData, allPy (ds.map .py) = some ds
  | [] => rfl
  | d :: r => congrArg (Option.map (d :: ·)) (allPy_map r)

noncomputable def hashD (w : World) : PyData → Int
  | .none => reduceHash 0xFCA86420
  | .bool b => if b then 1 else 0
  | .int i => reduceHash i
  | .str x => hashStr w x
  | .tuple ds => reduceHash (Builtin.Tuple.tupleHashOf (go ds))
  | .list _ => 0
  | .dict _ => 0
where go : List PyData → List Int
  | [] => []
  | d :: r => hashD w d :: go r

noncomputable abbrev Cls := Nat → Addr
inductive DR (w : World) (μ : Mu) (h : Heap) : List (PyData × AV) → List DictEntry → Prop
  | nil : DR w μ h [] []
  | cons {k a e es r} : Reads h e.key k [] → VR μ h a e.val → e.hash = hashD w k → DR w μ h es r → DR w μ h ((k, a) :: es) (e :: r)
inductive FD (μ : Mu) (h : Heap) : List (Str × AV) → List DictEntry → Prop
  | nil : FD μ h [] []
  | cons {x a e t es r} : e.key = .str x t → VR μ h a e.val → FD μ h es r → FD μ h ((x, a) :: es) (e :: r)
theorem DR.ind {w : World} {μ : Mu} {h : Heap} {P : List (PyData × AV) → List DictEntry → Prop} (h0 : P [] []) (h1 : ∀ k a e es r, Reads h e.key k [] → VR μ h a e.val → e.hash = hashD w k → DR w μ h es r → P es r → P ((k, a) :: es) (e :: r)) {es : List (PyData × AV)} {r : List DictEntry} (d : DR w μ h es r) : P es r :=
  d.rec (motive := fun es r _ => P es r) h0 fun a b c d ih => h1 _ _ _ _ _ a b c d ih
theorem DR.mono {w : World} {μ μ' : Mu} {h h' : Heap} (hm : ∀ (i : Nat) (p : Addr × Addr), μ[i]? = some p → μ'[i]? = some p) (k : TK h h') {es : List (PyData × AV)} {r : List DictEntry} (x : DR w μ h es r) : DR w μ' h' es r := by
  induction x with
  | nil => exact .nil
  | cons h1 h2 h3 _ ih => exact .cons (reads_tk k h1 rfl) (h2.mono hm k) h3 ih
theorem FD.mono {μ μ' : Mu} {h h' : Heap} (hm : ∀ (i : Nat) (p : Addr × Addr), μ[i]? = some p → μ'[i]? = some p) (k : TK h h') {es : List (Str × AV)} {r : List DictEntry} (x : FD μ h es r) : FD μ' h' es r := by
  induction x with
  | nil => exact .nil
  | cons h1 h2 _ ih => exact .cons h1 (h2.mono hm k) ih
noncomputable def OR (w : World) (cls : Cls) (μ : Mu) (h : Heap) : AO → Addr × Addr → Prop
  | .list xs, p => p.1 = p.2 ∧ ∃ vs n, IsL h p.2 vs n ∧ VRs μ h xs vs.toList
  | .dict es, p => p.1 = p.2 ∧ ((p.2 == sysModules) = false ∧ (es.map (·.1)).Nodup) ∧ ∃ r n, h.get? p.2 = some (dictOf r n) ∧ DR w μ h es r
  | .inst c fs, p => ∃ r n, h.get? p.1 = some (instObj (cls c) p.2) ∧ h.get? p.2 = some (dictOf r n) ∧ FD μ h fs r
theorem OR.turns {w : World} {cls : Cls} {μ : Mu} {h : Heap} {o : AO} {p : Addr × Addr} (x : OR w cls μ h o p) : ∃ q, h.get? p.2 = some q ∧ (q.cls = .type "list" ∨ q.cls = .type "dict") := by
  cases o with
  | list xs => obtain ⟨_, vs, n, hq, _⟩ := x; exact ⟨_, hq, .inl rfl⟩
  | dict es => obtain ⟨_, _, r, n, hq, _⟩ := x; exact ⟨_, hq, .inr rfl⟩
  | inst c fs => obtain ⟨r, n, _, hq, _⟩ := x; exact ⟨_, hq, .inr rfl⟩

noncomputable abbrev Base := Addr → Option Obj
structure SR (w : World) (cls : Cls) (B : Base) (μ : Mu) (H : AH) (h : Heap) : Prop where
  len : μ.length = H.length
  nodup : (μ.map (·.2)).Nodup
  obj : ∀ (i : Nat) (o : AO) (p : Addr × Addr), H[i]? = some o → μ[i]? = some p → OR w cls μ h o p
  base : ∀ a o, B a = some o → h.get? a = some o
  new : ∀ p ∈ μ, B p.2 = none

structure Le (μ : Mu) (s : Shared) (μ' : Mu) (s' : Shared) : Prop where
  gens : s'.gens = s.gens
  drawn : s'.drawn = s.drawn
  os : s'.os = s.os
  ext : ∃ ν, μ' = μ ++ ν ∧ ∀ p ∈ ν, s.heap.get? p.1 = none ∧ s.heap.get? p.2 = none
  keep : ∀ a o, s.heap.get? a = some o → a ∉ μ.map (·.2) → s'.heap.get? a = some o
  alive : ∀ a o, s.heap.get? a = some o → ∃ o', s'.heap.get? a = some o'

theorem Le.refl (μ : Mu) (s : Shared) : Le μ s μ s := ⟨rfl, rfl, rfl, ⟨[], by simp, fun _ h => nomatch h⟩, fun _ _ e _ => e, fun _ o e => ⟨o, e⟩⟩
theorem none_of_alive {h h' : Heap} (x : ∀ a o, h.get? a = some o → ∃ o', h'.get? a = some o') {a : Addr} (e : h'.get? a = none) : h.get? a = none := by
  cases q : h.get? a with
  | none => rfl
  | some o => obtain ⟨o', e'⟩ := x a o q; rw [e] at e'; cases e'
theorem Le.trans {μ μ' μ'' : Mu} {s s' s'' : Shared} (x : Le μ s μ' s') (y : Le μ' s' μ'' s'') : Le μ s μ'' s'' := by
  obtain ⟨ν, e1, f1⟩ := x.ext
  obtain ⟨ν', e2, f2⟩ := y.ext
  refine ⟨y.gens.trans x.gens, y.drawn.trans x.drawn, y.os.trans x.os, ⟨ν ++ ν', by rw [e2, e1, List.append_assoc], fun p hp => ?_⟩, fun a o e n => ?_, fun a o e => ?_⟩
  · rcases List.mem_append.mp hp with hp | hp
    · exact f1 p hp
    · exact ⟨none_of_alive x.alive (f2 p hp).1, none_of_alive x.alive (f2 p hp).2⟩
  · refine y.keep a o (x.keep a o e n) fun hm => ?_
    rw [e1, List.map_append, List.mem_append] at hm
    rcases hm with hm | hm
    · exact n hm
    · obtain ⟨p, hp, rfl⟩ := List.mem_map.mp hm
      rw [(f1 p hp).2] at e; cases e
  · obtain ⟨o', e'⟩ := x.alive a o e
    exact y.alive a o' e'
theorem Le.mu {μ μ' : Mu} {s s' : Shared} (x : Le μ s μ' s') (i : Nat) (p : Addr × Addr) (e : μ[i]? = some p) : μ'[i]? = some p := by
  obtain ⟨ν, rfl, _⟩ := x.ext
  rw [List.getElem?_append_left (List.getElem?_eq_some_iff.mp e).1]; exact e

variable {w : World} {cls : Cls} {B : Base} {μ μ' : Mu} {H H' : AH} {s s' : Shared} {h h' : Heap}
theorem SR.at_k (S : SR w cls B μ H h) {i : Nat} {o : AO} (e : H[i]? = some o) {G : Prop} (k : ∀ p, μ[i]? = some p → OR w cls μ h o p → G) : G :=
  have hl : i < μ.length := S.len ▸ (List.getElem?_eq_some_iff.mp e).1
  k μ[i] (List.getElem?_eq_getElem hl) (S.obj i o _ e (List.getElem?_eq_getElem hl))
theorem SR.at_ (S : SR w cls B μ H h) {i : Nat} {o : AO} (e : H[i]? = some o) : ∃ p, μ[i]? = some p ∧ OR w cls μ h o p := S.at_k e fun p h1 h2 => ⟨p, h1, h2⟩
theorem SR.turns (S : SR w cls B μ H h) {a : Addr} (ha : a ∈ μ.map (·.2)) : ∃ q, h.get? a = some q ∧ (q.cls = .type "list" ∨ q.cls = .type "dict") := by
  obtain ⟨p, hp, rfl⟩ := List.mem_map.mp ha
  obtain ⟨i, hi, rfl⟩ := List.getElem_of_mem hp
  have hl : i < H.length := by rw [← S.len]; exact hi
  exact (S.obj i H[i] μ[i] (by simp [hl]) (by simp [hi])).turns
theorem SR.not_tuple (S : SR w cls B μ H h) {a : Addr} {o : Obj} (e : h.get? a = some o) (hc : o.cls = .type "tuple") : a ∉ μ.map (·.2) := fun ha => by
  obtain ⟨q, hq, hd⟩ := S.turns ha
  rw [e] at hq; cases hq
  rw [hc] at hd
  rcases hd with hd | hd <;> exact absurd hd (by decide)
theorem Le.tk (x : Le μ s μ' s') (S : SR w cls B μ H s.heap) : TK s.heap s'.heap := fun a o _ _ e c _ => x.keep a o e (S.not_tuple e c)
theorem VR.le {a : AV} {v : Value} (r : VR μ s.heap a v) (S : SR w cls B μ H s.heap) (x : Le μ s μ' s') : VR μ' s'.heap a v := r.mono x.mu (x.tk S)
theorem VRs.le {a : List AV} {v : List Value} (r : VRs μ s.heap a v) (S : SR w cls B μ H s.heap) (x : Le μ s μ' s') : VRs μ' s'.heap a v := r.mono x.mu (x.tk S)
end
section
variable {w : World} {cls : Cls} {B : Base} {μ μ' : Mu} {H H' : AH} {s s' : Shared} {h h' : Heap}

theorem OR.mono_ne {o : AO} {p : Addr × Addr} (x : OR w cls μ h o p) (hm : ∀ (i : Nat) (p : Addr × Addr), μ[i]? = some p → μ'[i]? = some p) (k : TK h h')
    (e2 : ∀ q, h.get? p.2 = some q → h'.get? p.2 = some q) (e1 : ∀ q, h.get? p.1 = some q → h'.get? p.1 = some q) : OR w cls μ' h' o p := by
  cases o with
  | list xs => obtain ⟨a, vs, n, hq, r⟩ := x; exact ⟨a, vs, n, e2 _ hq, r.mono hm k⟩
  | dict es => obtain ⟨a, b, r, n, hq, hr⟩ := x; exact ⟨a, b, r, n, e2 _ hq, hr.mono hm k⟩
  | inst c fs => obtain ⟨r, n, h1, hq, hr⟩ := x; exact ⟨r, n, e1 _ h1, e2 _ hq, hr.mono hm k⟩

theorem nodup_get {μ : Mu} (n : (μ.map (·.2)).Nodup) {i j : Nat} {p q : Addr × Addr} (hi : μ[i]? = some p) (hj : μ[j]? = some q) (hne : i ≠ j) : p.2 ≠ q.2 := by
  intro e
  obtain ⟨li, rfl⟩ := List.getElem?_eq_some_iff.mp hi
  obtain ⟨lj, rfl⟩ := List.getElem?_eq_some_iff.mp hj
  have h1 : (μ.map (·.2))[i]'(by simpa using li) = (μ.map (·.2))[j]'(by simpa using lj) := by simpa using e
  exact hne (by
    have n' := List.pairwise_iff_getElem.mp n
    rcases Nat.lt_trichotomy i j with q | q | q
    · exact absurd h1 (n' i j (by simpa using li) (by simpa using lj) q)
    · exact q
    · exact absurd h1.symm (n' j i (by simpa using lj) (by simpa using li) q))

noncomputable def Off (μ : Mu) (a : Addr) : Prop := a ∉ μ.map (·.2)

theorem SR.grow (S : SR w cls B μ H s.heap) (k : ∀ a o, s.heap.get? a = some o → h'.get? a = some o) {tk : Nat} :
    SR w cls B μ H h' ∧ Le μ s μ { s with heap := h', toks := tk } := by
  refine ⟨⟨S.len, S.nodup, fun i o p e e' => (S.obj i o p e e').mono_ne (fun _ _ e => e) (fun a o _ _ e _ _ => k a o e) (fun q e => k _ q e) (fun q e => k _ q e), fun a o e => k a o (S.base a o e), S.new⟩,
    rfl, rfl, rfl, ⟨[], by simp, fun _ h => nomatch h⟩, fun a o e _ => k a o e, fun a o e => ⟨o, k a o e⟩⟩

theorem SR.upd (S : SR w cls B μ H s.heap) {i : Nat} {p : Addr × Addr} {o' : AO} {tk : Nat} (hμ : μ[i]? = some p) (hs : Heap.SameBut p.2 s.heap h') (ho : OR w cls μ h' o' p) (hl : i < H.length) :
    SR w cls B μ (H.set i o') h' ∧ Le μ s μ { s with heap := h', toks := tk } := by
  have hp : p ∈ μ := List.mem_of_getElem? hμ
  have hpm : p.2 ∈ μ.map (·.2) := List.mem_map_of_mem hp
  have k : ∀ a o, s.heap.get? a = some o → a ≠ p.2 → h'.get? a = some o := fun a o e n => (hs.2 a n).trans e
  have tk' : TK s.heap h' := fun a o _ _ e c _ => k a o e (fun q => S.not_tuple e c (q ▸ hpm))
  refine ⟨⟨by rw [S.len, List.length_set], S.nodup, fun j o q ej eq => ?_, fun a o e => k a o (S.base a o e) (fun q => by rw [q, S.new p hp] at e; cases e), S.new⟩,
    rfl, rfl, rfl, ⟨[], by simp, fun _ h => nomatch h⟩, fun a o e n => k a o e (fun q => n (q ▸ hpm)), fun a o e => ?_⟩
  · by_cases hij : i = j
    · subst hij
      rw [hμ] at eq; cases eq
      rw [List.getElem?_set_self hl] at ej
      cases ej; exact ho
    · rw [List.getElem?_set_ne hij] at ej
      refine (S.obj j o q ej eq).mono_ne (fun _ _ e => e) tk' (fun x e => k _ x e (nodup_get S.nodup eq hμ (Ne.symm hij))) fun x e => ?_
      cases o with
      | list xs => obtain ⟨z, _⟩ := S.obj j _ q ej eq; rw [z] at e ⊢; exact k _ x e (nodup_get S.nodup eq hμ (Ne.symm hij))
      | dict xs => obtain ⟨z, _⟩ := S.obj j _ q ej eq; rw [z] at e ⊢; exact k _ x e (nodup_get S.nodup eq hμ (Ne.symm hij))
      | inst c fs =>
        obtain ⟨r, n, h1, _⟩ := S.obj j _ q ej eq
        refine k _ x e fun z => ?_
        obtain ⟨y, hy, hc⟩ := S.turns hpm
        rw [← z, h1] at hy
        cases hy
        rcases hc with hc | hc <;> exact absurd hc (by simp)
  · by_cases q : a = p.2
    · obtain ⟨x, hx, _⟩ := ho.turns
      exact ⟨x, q ▸ hx⟩
    · exact ⟨o, k a o e q⟩

theorem SR.more (S : SR w cls B μ H s.heap) {p : Addr × Addr} {o' : AO} {tk : Nat} (k : ∀ a o, s.heap.get? a = some o → h'.get? a = some o) (n1 : s.heap.get? p.1 = none) (n2 : s.heap.get? p.2 = none) (ho : OR w cls (μ ++ [p]) h' o' p) :
    SR w cls B (μ ++ [p]) (H ++ [o']) h' ∧ Le μ s (μ ++ [p]) { s with heap := h', toks := tk } := by
  have hm : ∀ (i : Nat) (q : Addr × Addr), μ[i]? = some q → (μ ++ [p])[i]? = some q := fun i q e => by
    rw [List.getElem?_append_left (List.getElem?_eq_some_iff.mp e).1]; exact e
  have off : p.2 ∉ μ.map (·.2) := fun hx => by obtain ⟨q, hq, _⟩ := S.turns hx; rw [n2] at hq; cases hq
  refine ⟨⟨by simp [S.len], ?_, fun i o q ei eq => ?_, fun a o e => k a o (S.base a o e), fun q hq => ?_⟩, rfl, rfl, rfl, ⟨[p], rfl, fun q hq => by
    rcases List.mem_singleton.mp hq with rfl; exact ⟨n1, n2⟩⟩, fun a o e _ => k a o e, fun a o e => ⟨o, k a o e⟩⟩
  · rw [List.map_append, List.nodup_append]
    refine ⟨S.nodup, by simp, fun a ha b hb => ?_⟩
    simp at hb; subst hb; exact fun e => off (e ▸ ha)
  · by_cases hi : i < H.length
    · rw [List.getElem?_append_left hi] at ei
      rw [List.getElem?_append_left (by rw [S.len]; exact hi)] at eq
      exact (S.obj i o q ei eq).mono_ne hm (fun a o _ _ e _ _ => k a o e) (fun x e => k _ x e) (fun x e => k _ x e)
    · rw [List.getElem?_append_right (Nat.le_of_not_lt hi)] at ei
      rw [List.getElem?_append_right (by rw [S.len]; exact Nat.le_of_not_lt hi), S.len] at eq
      cases z : i - H.length with
      | zero => rw [z] at ei eq; simp at ei eq; subst ei; subst eq; exact ho
      | succ n => rw [z] at ei; simp at ei
  · rcases List.mem_append.mp hq with hq | hq
    · exact S.new q hq
    · rcases List.mem_singleton.mp hq with rfl
      cases e : B q.2 with
      | none => rfl
      | some o => rw [S.base _ _ e] at n2; cases n2
theorem size_none (h : Heap) : h.get? h.objs.size = none := by
  cases e : h.get? h.objs.size with
  | none => rfl
  | some o => exact absurd (Heap.lt_size e) (Nat.lt_irrefl _)

theorem SR.newList (S : SR w cls B μ H s.heap) {as : List AV} {vs : List Value} (r : VRs μ s.heap as vs) {tk : Nat} :
    SR w cls B (μ ++ [(s.heap.objs.size, s.heap.objs.size)]) (H ++ [.list as]) (s.heap.push { cls := .type "list", data := .seq vs.toArray }) ∧
    Le μ s (μ ++ [(s.heap.objs.size, s.heap.objs.size)]) { s with heap := s.heap.push { cls := .type "list", data := .seq vs.toArray }, toks := tk } ∧
    VR (μ ++ [(s.heap.objs.size, s.heap.objs.size)]) (s.heap.push { cls := .type "list", data := .seq vs.toArray }) (.ref H.length) (.ref s.heap.objs.size) := by
  have k : ∀ a o, s.heap.get? a = some o → (s.heap.push { cls := .type "list", data := .seq vs.toArray }).get? a = some o := fun a o e => Heap.get?_push_of_some _ e
  have hm : ∀ (i : Nat) (q : Addr × Addr), μ[i]? = some q → (μ ++ [(s.heap.objs.size, s.heap.objs.size)])[i]? = some q := fun i q e => by
    rw [List.getElem?_append_left (List.getElem?_eq_some_iff.mp e).1]; exact e
  have x := S.more (p := (s.heap.objs.size, s.heap.objs.size)) (o' := .list as) (h' := s.heap.push { cls := .type "list", data := .seq vs.toArray }) (tk := tk) k (size_none _) (size_none _)
    ⟨rfl, vs.toArray, 0, Heap.get?_push_size _ rfl, r.mono hm (fun a o _ _ e _ _ => k a o e)⟩
  exact ⟨x.1, x.2, .ref (p := (s.heap.objs.size, s.heap.objs.size)) (by rw [List.getElem?_append_right (by rw [S.len]; exact Nat.le_refl _), S.len]; simp)⟩
theorem SR.newDict (S : SR w cls B μ H s.heap) (hm : ∃ o, B sysModules = some o) {tk : Nat} :
    SR w cls B (μ ++ [(s.heap.objs.size, s.heap.objs.size)]) (H ++ [.dict []]) (s.heap.push { cls := .type "dict", data := .dict #[] }) ∧
    Le μ s (μ ++ [(s.heap.objs.size, s.heap.objs.size)]) { s with heap := s.heap.push { cls := .type "dict", data := .dict #[] }, toks := tk } ∧
    VR (μ ++ [(s.heap.objs.size, s.heap.objs.size)]) (s.heap.push { cls := .type "dict", data := .dict #[] }) (.ref H.length) (.ref s.heap.objs.size) := by
  have k : ∀ a o, s.heap.get? a = some o → (s.heap.push { cls := .type "dict", data := .dict #[] }).get? a = some o := fun a o e => Heap.get?_push_of_some _ e
  have x := S.more (p := (s.heap.objs.size, s.heap.objs.size)) (o' := .dict []) (h' := s.heap.push { cls := .type "dict", data := .dict #[] }) (tk := tk) k (size_none _) (size_none _)
    ⟨rfl, ⟨beq_eq_false_iff_ne.mpr fun z => by obtain ⟨o, ho⟩ := hm; have q := S.base _ _ ho; rw [← z, size_none] at q; exact (nomatch q), List.nodup_nil⟩, [], 0, Heap.get?_push_size _ rfl, .nil⟩
  exact ⟨x.1, x.2, .ref (p := (s.heap.objs.size, s.heap.objs.size)) (by rw [List.getElem?_append_right (by rw [S.len]; exact Nat.le_refl _), S.len]; simp)⟩
noncomputable def mkTup (as : List AV) : AV := match allPy as with | some ds => .py (.tuple ds) | none => .mix as
theorem VR.tup {as : List AV} {vs : List Value} {a : Addr} {o : Obj} {xs : Array Value} {n : Nat} (ho : h.get? a = some o) (hc : o.cls = .type "tuple") (hd : o.data = .seq xs n) (e : xs.toList = vs) (r : VRs μ h as vs) : VR μ h (mkTup as) (.ref a) := by
  subst e
  unfold mkTup
  cases q : allPy as with
  | none => exact .mix ho hc hd r
  | some ds => exact .py (.tuple ho hc hd (r.reads q))
theorem SR.newTuple (S : SR w cls B μ H s.heap) {as : List AV} {vs : List Value} (r : VRs μ s.heap as vs) {tk : Nat} :
    SR w cls B μ H (s.heap.push { cls := .type "tuple", data := .seq vs.toArray }) ∧ Le μ s μ { s with heap := s.heap.push { cls := .type "tuple", data := .seq vs.toArray }, toks := tk } ∧
    VR μ (s.heap.push { cls := .type "tuple", data := .seq vs.toArray }) (mkTup as) (.ref s.heap.objs.size) := by
  have k : ∀ a o, s.heap.get? a = some o → (s.heap.push { cls := .type "tuple", data := .seq vs.toArray }).get? a = some o := fun a o e => Heap.get?_push_of_some _ e
  have x := S.grow (h' := s.heap.push { cls := .type "tuple", data := .seq vs.toArray }) (tk := tk) k
  exact ⟨x.1, x.2, VR.tup (Heap.get?_push_size _ rfl) rfl rfl rfl (r.mono (fun _ _ e => e) (fun a o _ _ e _ _ => k a o e))⟩
end
inductive BOp | add | sub | mul | fdiv | mod
inductive COp | eq | ne | is_ | isnt | lt | le | gt | ge | inn | notin
inductive BN | list | tuple | dict | len | max | abs | any | repr | sorted
inductive Sl | rev | tl | rtl
inductive Tg
  | one (i : Nat)
  | tup (l : List Nat)
set_option genSizeOf false
set_option genInjectivity false
mutual
inductive CE
  | bad
  | const (d : PyData)
  | var (i : Nat)
  | glob (g : Nat)
  | tup (es : CEs)
  | lst (es : CEs)
  | dict0
  | dict1 (k v : CE)
  | cmp (op : COp) (a b : CE)
  | and (es : CEs)
  | or (es : CEs)
  | not (a : CE)
  | bin (op : BOp) (a b : CE)
  | ite (c a b : CE)
  | attr (o : CE) (x : Str)
  | sub (o i : CE)
  | slice (o : CE) (k : Sl)
  | callF (f : Nat) (es : CEs)
  | callM (o : CE) (x : Str) (es : CEs)
  | callC (c : Nat) (es : CEs)
  | callB (b : BN) (es : CEs)
  | sortK (x : CE) (f : Nat)
  | comp (caps : List Nat) (elt : CE) (tg : Tg) (it : IT) (ifs : CEs)
  | comp2 (caps : List Nat) (elt : CE) (tg : Tg) (it : IT) (tg2 : Tg) (it2 : IT)
inductive CEs
  | nil
  | cons (e : CE) (es : CEs)
inductive IT
  | over (e : CE)
  | range (e : CE)
  | zip (a b : CE)
end
inductive TgS
  | tg (t : Tg)
  | attr (o : CE) (x : Str)
  | sub (o i : CE)
mutual
inductive CS
  | bad
  | assign (t : TgS) (e : CE)
  | expr (e : CE)
  | ret (e : CE)
  | ifS (c : CE) (a b : CSs)
  | whileS (n : Nat) (c : CE) (body : CSs)
  | forS (t : Tg) (it : IT) (body : CSs)
inductive CSs
  | nil
  | cons (x : CS) (xs : CSs)
end
set_option genSizeOf true
set_option genInjectivity true

noncomputable abbrev K1 := AV → AH → Prop
noncomputable abbrev Spec := List AV → AH → K1 → Prop
noncomputable abbrev Vars := List (Option AV)
noncomputable abbrev Frz := Addr × Addr → Option AO
structure Gam where
  frz : Frz
  glob : Nat → AV
  fn : Nat → Spec
  me : Nat → Str → Spec
  attrs : Nat → Str → Bool
  meths : Nat → Str → Bool
inductive Out
  | next
  | ret (a : AV)
noncomputable abbrev K2 := Out → Vars → AH → Prop
noncomputable abbrev KB := Bool → AH → Prop
noncomputable abbrev KL := List AV → AH → Prop
noncomputable abbrev KI := List AV → (AH → Prop) → AH → Prop

noncomputable abbrev AV.b (b : Bool) : AV := .py (.bool b)
noncomputable abbrev AV.i (n : Int) : AV := .py (.int n)
noncomputable abbrev AV.s (x : Str) : AV := .py (.str x)
noncomputable def giveO (o : Option (AV × AH)) (Q : K1) : Prop := oP o fun x => Q x.1 x.2
noncomputable def giveB (o : Option Bool) (H : AH) (Q : K1) : Prop := oP o fun b => Q (.b b) H
noncomputable def giveA (o : Option AV) (H : AH) (Q : K1) : Prop := oP o fun a => Q a H

noncomputable def pInt : PyData → Option Int
  | .int n => some n
  | _ => none
noncomputable def pStr : PyData → Option Str
  | .str x => some x
  | _ => none
noncomputable def pBool : PyData → Option Bool
  | .bool x => some x
  | _ => none
noncomputable def pTup : PyData → Option (List PyData)
  | .tuple x => some x
  | _ => none
noncomputable def isNnD : PyData → Bool
  | .none => true
  | _ => false
noncomputable def vInt (x : AV) : Option Int := (vD x).bind pInt
noncomputable def vStr (x : AV) : Option Str := (vD x).bind pStr
noncomputable def vBool (x : AV) : Option Bool := (vD x).bind pBool
noncomputable def vTup (x : AV) : Option (List PyData) := (vD x).bind pTup
noncomputable def vR : AV → Option Nat
  | .py _ => none
  | .ref i => some i
  | .mix _ => none
  | .fro _ => none
noncomputable def vF : AV → Option (Addr × Addr)
  | .py _ => none
  | .ref _ => none
  | .mix _ => none
  | .fro p => some p
noncomputable def isNn : AV → Bool
  | .py d => isNnD d
  | .ref _ => false
  | .mix _ => false
  | .fro _ => false
noncomputable def tupOf : AV → Option (List AV)
  | .py d => (pTup d).map fun ds => ds.map .py
  | .ref _ => none
  | .mix xs => some xs
  | .fro _ => none
noncomputable def oL : AO → Option (List AV)
  | .list xs => some xs
  | .dict _ => none
  | .inst _ _ => none
noncomputable def oI : AO → Option (Nat × List (Str × AV))
  | .list _ => none
  | .dict _ => none
  | .inst c fs => some (c, fs)
noncomputable def hL (H : AH) (i : Nat) : Option (List AV) := (H[i]?).bind oL
noncomputable def one1 {α : Type} : List α → Option α
  | [] => none
  | x :: r => match r with
    | [] => some x
    | _ :: _ => none
noncomputable def two2 {α : Type} : List α → Option (α × α)
  | [] => none
  | x :: r => (one1 r).map fun y => (x, y)
noncomputable def none0 {α : Type} : List α → Bool
  | [] => true
  | _ :: _ => false
section
theorem pInt_k {d : PyData} {n : Int} (h : pInt d = some n) : d = .int n := by
  induction d using PyData.casesOn with
  | int m => exact congrArg PyData.int (Option.some.inj h)
  | _ => exact nos h
theorem pStr_k {d : PyData} {n : Str} (h : pStr d = some n) : d = .str n := by
  induction d using PyData.casesOn with
  | str m => exact congrArg PyData.str (Option.some.inj h)
  | _ => exact nos h
theorem pBool_k {d : PyData} {n : Bool} (h : pBool d = some n) : d = .bool n := by
  induction d using PyData.casesOn with
  | bool m => exact congrArg PyData.bool (Option.some.inj h)
  | _ => exact nos h
theorem pTup_k {d : PyData} {n : List PyData} (h : pTup d = some n) : d = .tuple n := by
  induction d using PyData.casesOn with
  | tuple m => exact congrArg PyData.tuple (Option.some.inj h)
  | _ => exact nos h
theorem isNnD_k {d : PyData} (h : isNnD d = true) : d = .none := by
  induction d using PyData.casesOn with
  | none => rfl
  | _ => exact bf h
theorem vD_k {x : AV} {d : PyData} (h : vD x = some d) : x = .py d := by
  induction x using AV.casesOn with
  | py m => exact congrArg AV.py (Option.some.inj h)
  | _ => exact nos h
theorem vR_k {x : AV} {d : Nat} (h : vR x = some d) : x = .ref d := by
  induction x using AV.casesOn with
  | ref m => exact congrArg AV.ref (Option.some.inj h)
  | _ => exact nos h
theorem vF_k {x : AV} {d : Addr × Addr} (h : vF x = some d) : x = .fro d := by
  induction x using AV.casesOn with
  | fro m => exact congrArg AV.fro (Option.some.inj h)
  | _ => exact nos h
theorem isNn_k {x : AV} (h : isNn x = true) : x = .py .none := by
  induction x using AV.casesOn with
  | py m => exact congrArg AV.py (isNnD_k h)
  | _ => exact bf h
theorem vInt_k {x : AV} {n : Int} (h : vInt x = some n) : x = .i n := ob_k h fun d h1 h2 => (vD_k h1).trans (congrArg AV.py (pInt_k h2))
theorem vStr_k {x : AV} {n : Str} (h : vStr x = some n) : x = .s n := ob_k h fun d h1 h2 => (vD_k h1).trans (congrArg AV.py (pStr_k h2))
theorem vBool_k {x : AV} {n : Bool} (h : vBool x = some n) : x = .b n := ob_k h fun d h1 h2 => (vD_k h1).trans (congrArg AV.py (pBool_k h2))
theorem vTup_k {x : AV} {n : List PyData} (h : vTup x = some n) : x = .py (.tuple n) := ob_k h fun d h1 h2 => (vD_k h1).trans (congrArg AV.py (pTup_k h2))
theorem oL_k {o : AO} {xs : List AV} (h : oL o = some xs) : o = .list xs := by
  induction o using AO.casesOn with
  | list m => exact congrArg AO.list (Option.some.inj h)
  | _ => exact nos h
theorem oI_k {o : AO} {p : Nat × List (Str × AV)} (h : oI o = some p) : o = .inst p.1 p.2 := by
  induction o using AO.casesOn with
  | inst c fs => exact congrArg (fun p : Nat × List (Str × AV) => AO.inst p.1 p.2) (Option.some.inj h)
  | _ => exact nos h
theorem hL_k {H : AH} {i : Nat} {xs : List AV} (h : hL H i = some xs) : H[i]? = some (.list xs) := ob_k h fun o h1 h2 => h1.trans (congrArg some (oL_k h2))
theorem hL_of {H : AH} {i : Nat} {xs : List AV} (h : H[i]? = some (.list xs)) : hL H i = some xs := by unfold hL; rw [h]; rfl
theorem one1_k {α : Type} {l : List α} {x : α} (h : one1 l = some x) : l = [x] := by
  induction l using List.casesOn with
  | nil => exact nos h
  | cons y r =>
    induction r using List.casesOn with
    | nil => exact congrArg (fun z => [z]) (Option.some.inj h)
    | cons _ _ => exact nos h
theorem two2_k {α : Type} {l : List α} {x : α × α} (h : two2 l = some x) : l = [x.1, x.2] := by
  induction l using List.casesOn with
  | nil => exact nos h
  | cons y r => exact om_k h fun z h1 h2 => by subst h2; rw [one1_k h1]
theorem none0_k {α : Type} {l : List α} (h : none0 l = true) : l = [] := by
  induction l using List.casesOn with
  | nil => rfl
  | cons _ _ => exact bf h
end
noncomputable def strok (x : Str) : Bool := x.cps.toList.all fun c => Nat.blt c 1114112
mutual
noncomputable def lay : PyData → Bool
  | .none => true
  | .bool _ => true
  | .int _ => true
  | .str x => strok x
  | .list ds => layAll ds
  | .tuple ds => layAll ds
  | .dict _ => false
noncomputable def layAll : List PyData → Bool
  | [] => true
  | d :: r => lay d && layAll r
end
noncomputable def shp (d : PyData) : Bool := lay d && Nat.ble d.depth 64
theorem strok_ok {x : Str} (h : strok x = true) : PyData.strOk x = true := by
  unfold PyData.strOk
  rw [← Array.all_toList]
  exact List.all_eq_true.mpr fun c hc => decide_eq_true (Nat.blt_eq.mp (List.all_eq_true.mp h c hc))
theorem lay_ok (d : PyData) : lay d = true → d.canLay0 = true :=
  d.rec (motive_1 := fun d => lay d = true → d.canLay0 = true) (motive_2 := fun ds => layAll ds = true → PyData.canLayAll0 ds = true) (motive_3 := fun _ => True) (motive_4 := fun _ => True)
    (fun _ => rfl) (fun _ _ => rfl) (fun _ _ => rfl) (fun _ h => strok_ok h) (fun _ ih h => ih h) (fun _ ih h => ih h) (fun _ _ h => bf h) (fun _ => rfl) (fun _ _ i1 i2 h => band_k h fun h1 h2 => Bool.and_eq_true_iff.mpr ⟨i1 h1, i2 h2⟩) trivial (fun _ _ _ _ => trivial) fun _ _ _ _ => trivial
theorem shp_ok {d : PyData} (h : shp d = true) : SeqAt.shaped d = true := band_k h fun h1 h2 => Bool.and_eq_true_iff.mpr ⟨lay_ok d h1, decide_eq_true (Nat.le_of_ble_eq_true h2)⟩
theorem shp2 {a b : PyData} (h : (shp a && shp b) = true) {G : Prop} (k : SeqAt.shaped a = true → SeqAt.shaped b = true → G) : G := band_k h fun h1 h2 => k (shp_ok h1) (shp_ok h2)
noncomputable def eqL (xs ys : List AV) : Option Bool := cond (none0 xs || none0 ys) (some (none0 xs && none0 ys))
  ((allPy xs).bind fun as => (allPy ys).bind fun bs => gB (shp (.list as) && shp (.list bs)) (some (PyData.eqvAll as bs)))
noncomputable def eqA (x y : AV) (H : AH) : Option Bool := match x with
  | .py a => (vD y).bind fun b => gB (shp a && shp b) (some (PyData.eqv a b))
  | .ref i => (vR y).bind fun j => (hL H i).bind fun xs => (hL H j).bind fun ys => eqL xs ys
  | .mix _ => none
  | .fro _ => none

noncomputable def isStrD : PyData → Bool
  | .str _ => true
  | _ => false
noncomputable def isTupD : PyData → Bool
  | .tuple _ => true
  | _ => false
mutual
noncomputable def leafy : PyData → Bool
  | .none => true
  | .str x => strok x
  | .tuple ds => leafyAll ds
  | _ => false
noncomputable def leafyAll : List PyData → Bool
  | [] => true
  | d :: r => leafy d && leafyAll r
end
noncomputable def tkey (d : PyData) : Bool := isTupD d && leafy d && Nat.ble d.depth 8
noncomputable def keyOk (es : List (PyData × AV)) (k : PyData) : Bool :=
  (isStrD k && es.all fun e => isStrD e.1) || (tkey k && es.all fun e => tkey e.1)
noncomputable def dget (es : List (PyData × AV)) (k : PyData) : Option AV := (es.find? fun e => PyData.eqv e.1 k).map (·.2)
noncomputable def dput : List (PyData × AV) → PyData → AV → List (PyData × AV)
  | [], k, v => [(k, v)]
  | e :: r, k, v => cond (PyData.eqv e.1 k) ((e.1, v) :: r) (e :: dput r k v)

noncomputable def getO (F : Frz) (H : AH) : AV → Option AO
  | .py _ => none
  | .ref j => H[j]?
  | .mix _ => none
  | .fro p => F p
noncomputable def inO (d : PyData) : AO → Option Bool
  | .list ys => (allPy ys).bind fun ds => gB (shp d && shp (.list ds)) (some (ds.any fun e => PyData.eqv e d))
  | .dict es => gB (keyOk es d) (some (dget es d).isSome)
  | .inst _ _ => none
noncomputable def inA (F : Frz) (x y : AV) (H : AH) : Option Bool := (vD x).bind fun d => match vTup y with
  | some ds => gB (shp d && shp (.tuple ds)) (some (ds.any fun e => PyData.eqv e d))
  | none => (getO F H y).bind (inO d)
noncomputable def neA (F : Frz) (x y : AV) (H : AH) : Option Bool := match vF x with
  | some p => (vR y).bind fun j => ((F p).bind oL).bind fun xs => (hL H j).bind fun ys => gB (none0 ys) (some (!none0 xs))
  | none => (eqA x y H).map (!·)
noncomputable def iop {β : Type} (x y : AV) (f : Int → Int → Option β) : Option β := (vInt x).bind fun a => (vInt y).bind fun b => f a b
noncomputable def cmpA (F : Frz) (op : COp) (x y : AV) (H : AH) : Option Bool := match op with
  | .eq => eqA x y H
  | .ne => neA F x y H
  | .is_ => gB (isNn y) (some (isNn x))
  | .isnt => gB (isNn y) (some (!isNn x))
  | .lt => iop x y fun a b => some (decide (a < b))
  | .le => iop x y fun a b => some (decide (a ≤ b))
  | .gt => iop x y fun a b => some (decide (a > b))
  | .ge => iop x y fun a b => some (decide (a ≥ b))
  | .inn => inA F x y H
  | .notin => (inA F x y H).map (!·)

noncomputable def room : Nat := 100000
noncomputable def smallI (n : Int) : Bool := Nat.ble n.natAbs 1000000000000000
noncomputable def addD (d e : PyData) (H : AH) : Option (AV × AH) := match d with
  | .int a => (pInt e).bind fun b => some (.i (a + b), H)
  | .str a => (pStr e).bind fun b => gB (Nat.ble (a.length + b.length) room) (some (.s (a ++ b), H))
  | _ => none
noncomputable def addA (x y : AV) (H : AH) : Option (AV × AH) := match x with
  | .py d => (vD y).bind fun e => addD d e H
  | .ref i => (vR y).bind fun j => (hL H i).bind fun xs => (hL H j).bind fun ys => gB (Nat.ble (xs.length + ys.length) room) (some (.ref H.length, H ++ [.list (xs ++ ys)]))
  | .mix _ => none
  | .fro _ => none
noncomputable def binA (op : BOp) (x y : AV) (H : AH) : Option (AV × AH) := match op with
  | .add => addA x y H
  | .sub => iop x y fun a b => some (.i (a - b), H)
  | .mul => iop x y fun a b => gB (smallI a && smallI b) (some (.i (a * b), H))
  | .fdiv => iop x y fun a b => gB (decide (0 < b) && decide (b < 1000000000)) (some (.i (Int.fdiv a b), H))
  | .mod => iop x y fun a b => gB (decide (0 < b)) (some (.i (Int.fmod a b), H))

noncomputable def ixL (xs : List AV) (k : PyData) : Option AV := (pInt k).bind fun n => gB (smallI n) ((seqIndex? n xs.length).bind fun q => xs[q]?)
noncomputable def subO (k : PyData) : AO → Option AV
  | .list xs => ixL xs k
  | .dict es => gB (keyOk es k) (dget es k)
  | .inst _ _ => none
noncomputable def subA (F : Frz) (x i : AV) (H : AH) : Option AV := (vD i).bind fun k => match tupOf x with
  | some xs => ixL xs k
  | none => (getO F H x).bind (subO k)
noncomputable def sliceL {α : Type} (k : Sl) (xs : List α) : List α := match k with
  | .rev => xs.reverse
  | .tl => xs.drop 1
  | .rtl => (xs.drop 1).reverse
noncomputable def sliceT (k : Sl) (xs : List PyData) : Option (List PyData) := match k with
  | .rev => some xs.reverse
  | .tl => gB (Nat.ble 1 xs.length) (some (xs.drop 1))
  | .rtl => none
noncomputable def sliceA (x : AV) (k : Sl) (H : AH) : Option (AV × AH) := match x with
  | .py d => (pTup d).bind fun ds => gB (Nat.ble ds.length room) ((sliceT k ds).map fun r => (.py (.tuple r), H))
  | .ref j => (hL H j).bind fun xs => gB (Nat.ble xs.length room) (some (.ref H.length, H ++ [.list (sliceL k xs)]))
  | .mix _ => none
  | .fro _ => none
noncomputable def itemsA (F : Frz) (x : AV) (H : AH) : Option (List AV) := match tupOf x with
  | some xs => some xs
  | none => (getO F H x).bind oL
noncomputable def chkA (x : AV) (xs : List AV) (H : AH) : Prop := match x with
  | .py _ => True
  | .ref j => H[j]? = some (.list xs)
  | .mix _ => True
  | .fro _ => True
noncomputable def lenO : AO → Option Nat
  | .list xs => some xs.length
  | .dict es => gB (es.all fun e => isStrD e.1) (some es.length)
  | .inst _ _ => none
noncomputable def lenA (x : AV) (H : AH) : Option Nat := match x with
  | .py d => (pTup d).map List.length
  | .ref j => (H[j]?).bind lenO
  | .mix xs => some xs.length
  | .fro _ => none
noncomputable def pairOf (x : AV) : Option (PyData × AV) := (tupOf x).bind fun l => (two2 l).bind fun p => (vD p.1).map fun k => (k, p.2)
noncomputable def dictOfPairs : List AV → List (PyData × AV) → Option (List (PyData × AV))
  | [], acc => some acc
  | x :: r, acc => (pairOf x).bind fun kv => gB (isStrD kv.1) (dictOfPairs r (dput acc kv.1 kv.2))
noncomputable def boolsOf : List AV → Option (List Bool)
  | [] => some []
  | a :: r => (vBool a).bind fun b => (boolsOf r).map (b :: ·)
noncomputable def dictO (H : AH) : AO → Option (AV × AH)
  | .list xs => gB (Nat.ble xs.length room) ((dictOfPairs xs []).map fun es => (.ref H.length, H ++ [.dict es]))
  | .dict es => gB ((es.all fun e => isStrD e.1) && Nat.ble es.length room) (some (.ref H.length, H ++ [.dict es]))
  | .inst _ _ => none
noncomputable def sortO (H : AH) : AO → Option (AV × AH)
  | .list _ => none
  | .dict es => gB (none0 es) (some (.ref H.length, H ++ [.list []]))
  | .inst _ _ => none
noncomputable def callBA (F : Frz) (b : BN) (as : List AV) (H : AH) : Option (AV × AH) := match b with
  | .list => (one1 as).bind fun x => (itemsA F x H).bind fun xs => gB (Nat.ble xs.length room) (some (.ref H.length, H ++ [.list xs]))
  | .tuple => (one1 as).bind fun x => (itemsA F x H).bind fun xs => gB (Nat.ble xs.length room) (some (mkTup xs, H))
  | .dict => (one1 as).bind fun x => (getO F H x).bind (dictO H)
  | .sorted => (one1 as).bind fun x => (getO F H x).bind (sortO H)
  | .len => (one1 as).bind fun x => (lenA x H).bind fun n => gB (Nat.ble n room) (some (.i n, H))
  | .max => (two2 as).bind fun p => iop p.1 p.2 fun a b => some (.i (if b > a then b else a), H)
  | .abs => (one1 as).bind fun x => (vInt x).bind fun a => some (.i a.natAbs, H)
  | .any => (one1 as).bind fun x => (vR x).bind fun j => (hL H j).bind fun xs => (boolsOf xs).map fun bs => (.b (bs.any id), H)
  | .repr => (one1 as).bind fun x => (vD x).bind fun d => gB ((isTupD d && SeqAt.shaped d) && (d.showable && Nat.ble d.shown.length room)) (some (.s d.shown, H))
noncomputable def strsOf : List AV → Option (List Str)
  | [] => some []
  | a :: r => (vStr a).bind fun b => (strsOf r).map (b :: ·)
noncomputable def notSame (y : AV) (j : Nat) : Bool := match vR y with
  | some k => k != j
  | none => true
inductive MKd
  | user (S : Spec)
  | append
  | extend
  | pop
  | join
noncomputable def listM (x : Str) : Option MKd := cond (x == "append") (some .append) (cond (x == "pop") (some .pop) (cond (x == "extend") (some .extend) none))
noncomputable def instM (Γ : Gam) (x : Str) (p : Nat × List (Str × AV)) : Option MKd := gB (Γ.meths p.1 x && (p.2.lookup x).isNone) (some (.user (Γ.me p.1 x)))
noncomputable def kindO (Γ : Gam) (x : Str) : AO → Option MKd
  | .list _ => listM x
  | .dict _ => none
  | .inst c fs => instM Γ x (c, fs)
noncomputable def kindM (Γ : Gam) (o : AV) (x : Str) (H : AH) : Option MKd := match o with
  | .py d => (pStr d).bind fun _ => gB (x == "join") (some .join)
  | .ref j => (H[j]?).bind (kindO Γ x)
  | .mix _ => none
  | .fro p => (Γ.frz p).bind fun ob => (oI ob).bind (instM Γ x)
noncomputable def appA (o : AV) (as : List AV) (H : AH) : Option (AV × AH) := (vR o).bind fun j => (one1 as).bind fun y => (hL H j).bind fun xs => gB (Nat.ble xs.length room) (some (.py .none, H.set j (.list (xs ++ [y]))))
noncomputable def extA (F : Frz) (o : AV) (as : List AV) (H : AH) : Option (AV × AH) := (vR o).bind fun j => (one1 as).bind fun y => (hL H j).bind fun xs => (itemsA F y H).bind fun ys =>
  gB (Nat.ble (xs.length + ys.length) room && notSame y j) (some (.py .none, H.set j (.list (xs ++ ys))))
noncomputable def popA (o : AV) (as : List AV) (H : AH) : Option (AV × AH) := (vR o).bind fun j => gB (none0 as) ((hL H j).bind fun xs => gB (Nat.ble xs.length room) (xs.getLast?.map fun y => (y, H.set j (.list xs.dropLast))))
noncomputable def joinA (o : AV) (as : List AV) (H : AH) : Option (AV × AH) := (vStr o).bind fun sep => (one1 as).bind fun y => (vR y).bind fun k => (hL H k).bind fun xs => (strsOf xs).bind fun ts => gB (decide (JoinOk sep ts)) (some (.s (Txt.join sep ts), H))
noncomputable def callMk (F : Frz) (m : MKd) (o : AV) (as : List AV) (H : AH) (Q : K1) : Prop := match m with
  | .user S => S (o :: as) H Q
  | .append => giveO (appA o as H) Q
  | .extend => giveO (extA F o as H) Q
  | .pop => giveO (popA o as H) Q
  | .join => giveO (joinA o as H) Q
noncomputable def attrA (Γ : Gam) (o : AV) (x : Str) (H : AH) : Option AV := (getO Γ.frz H o).bind fun ob => (oI ob).bind fun p => gB (Γ.attrs p.1 x) (p.2.lookup x)
noncomputable def fput : List (Str × AV) → Str → AV → List (Str × AV)
  | [], x, v => [(x, v)]
  | e :: r, x, v => if e.1 = x then (e.1, v) :: r else e :: fput r x v
noncomputable def setAttrA (Γ : Gam) (o : AV) (x : Str) (v : AV) (H : AH) : Option AH := (vR o).bind fun j => (H[j]?).bind fun ob => (oI ob).bind fun p => gB (Γ.attrs p.1 x && Nat.ble p.2.length 100) (some (H.set j (.inst p.1 (fput p.2 x v))))
noncomputable def setO (H : AH) (j : Nat) (k : PyData) (v : AV) : AO → Option AH
  | .list xs => (pInt k).bind fun n => gB (smallI n && Nat.ble xs.length room) ((seqIndex? n xs.length).map fun q => H.set j (.list (xs.set q v)))
  | .dict es => gB (keyOk es k && Nat.ble es.length room) (some (H.set j (.dict (dput es k v))))
  | .inst _ _ => none
noncomputable def setItemA (o i v : AV) (H : AH) : Option AH := (vR o).bind fun j => (vD i).bind fun k => (H[j]?).bind (setO H j k v)
noncomputable def setVars : List Nat → List AV → Vars → Option Vars
  | [], as, vs => gB (none0 as) (some vs)
  | i :: r, as, vs => match as with
    | [] => none
    | a :: as => gB (Nat.blt i vs.length) (setVars r as (vs.set i (some a)))
noncomputable def setT (t : Tg) (x : AV) (vs : Vars) : Option Vars := match t with
  | .one i => gB (Nat.blt i vs.length) (some (vs.set i (some x)))
  | .tup l => (tupOf x).bind fun xs => setVars l xs vs
noncomputable def tgN : Tg → Nat
  | .one _ => 1
  | .tup l => l.length
noncomputable def appendAt (a : Nat) (v : AV) (H : AH) : Option AH := (hL H a).bind fun ys => gB (Nat.ble ys.length room) (some (H.set a (.list (ys ++ [v]))))
noncomputable def capVars (caps : List Nat) (vs : Vars) (n : Nat) : Vars := caps.map (fun i => (vs[i]?).join) ++ List.replicate n none

noncomputable def kSeq (f : Vars → AH → K2 → Prop) (K : K2) : K2 := fun o vs H => match o with
  | .next => f vs H K
  | .ret a => K (.ret a) vs H
noncomputable def forL (chk : AH → Prop) (step : AV → Vars → AH → K2 → Prop) : List AV → Vars → AH → K2 → Prop
  | [], vs, H, K => chk H ∧ K .next vs H
  | x :: r, vs, H, K => chk H ∧ step x vs H (kSeq (forL chk step r) K)
noncomputable def asB (K : KB) : K1 := fun a H => Option.rec (motive := fun _ => Prop) False (fun b => K b H) (vBool a)
noncomputable def kIf (f g : Vars → AH → K2 → Prop) (vs : Vars) (K : K2) : KB := fun b H => cond b (f vs H K) (g vs H K)
noncomputable def whileL (test : Vars → AH → K1 → Prop) (body : Vars → AH → K2 → Prop) : Nat → Vars → AH → K2 → Prop
  | 0, _, _, _ => False
  | n + 1, vs, H, K => test vs H (asB (kIf (fun vs H K => body vs H (kSeq (whileL test body n) K)) (fun vs H K => K .next vs H) vs K))
noncomputable def forStep (f : Vars → AH → K2 → Prop) (t : Tg) : AV → Vars → AH → K2 → Prop := fun x vs H K => Option.rec (motive := fun _ => Prop) False (fun vs' => f vs' H K) (setT t x vs)
noncomputable def kEnd (j : Nat) (Q : K1) : K2 := fun _ _ H => Q (.ref j) H
noncomputable def kApp (j : Nat) (vs : Vars) (K : K2) : K1 := fun v H => oP (appendAt j v H) fun H' => K .next vs H'
noncomputable def compStep (ifs : Vars → AH → KB → Prop) (elt : Vars → AH → K1 → Prop) (j : Nat) : Vars → AH → K2 → Prop := fun vs H K => ifs vs H fun t H' => cond t (elt vs H' (kApp j vs K)) (K .next vs H')
noncomputable def comp2Step (it : Vars → AH → KI → Prop) (elt : Vars → AH → K1 → Prop) (tg : Tg) (j : Nat) : Vars → AH → K2 → Prop := fun vs H K => it vs H fun ys chk H' => forL chk (forStep (fun vs H K => elt vs H (kApp j vs K)) tg) ys vs H' K
noncomputable def rngA (n : Nat) : List AV := (List.range n).map fun (k : Nat) => AV.py (.int (Int.ofNat k))
noncomputable def rgOk (n : Int) : Bool := Int.rec (motive := fun _ => Bool) (fun k => Nat.ble k 1000) (fun _ => false) n
noncomputable def keyD (d : PyData) : Bool := match pTup d with
  | none => false
  | some l => match l with
    | [] => false
    | a :: r => (pStr a).isSome && match two2 r with
      | none => false
      | some p => (pStr p.1).isSome && (pStr p.2).isSome
noncomputable def keyShape (x : AV) : Prop := ∃ d, x = .py d ∧ keyD d = true
noncomputable def kSort (Γ : Gam) (f : Nat) (Q : K1) (H : AH) (xs : List AV) : Prop :=
  (2 ≤ xs.length ∧ xs.length ≤ 6) ∧ (∀ x ∈ xs, Γ.fn f [x] H fun r H2 => H2 = H ∧ keyShape r) ∧ ∀ ys : List AV, ys.Perm xs → Q (.ref H.length) (H ++ [.list ys])
noncomputable def kTup (Q : K1) : KL := fun as H => bP (Nat.ble as.length room) (Q (mkTup as) H)
noncomputable def kLst (Q : K1) : KL := fun as H => bP (Nat.ble as.length room) (Q (.ref H.length) (H ++ [.list as]))
noncomputable def kDict1 (x b : AV) (H : AH) (Q : K1) : Prop := oP (vStr x) fun x => Q (.ref H.length) (H ++ [.dict [(.str x, b)]])
noncomputable def kInit (Γ : Gam) (c : Nat) (Q : K1) : KL := fun as H => bP (Γ.meths c "__init__") (Γ.me c "__init__" (.ref H.length :: as) (H ++ [.inst c []]) fun r H2 => bP (isNn r) (Q (.ref H.length) H2))
noncomputable def kTwo (f : AH → K1 → Prop) (g : AV → K1) : K1 := fun x H => f H (g x)
noncomputable def kDic (Q : K1) : AV → K1 := fun a b H => kDict1 a b H Q
noncomputable def kCmp (F : Frz) (op : COp) (Q : K1) : AV → K1 := fun x y H => giveB (cmpA F op x y H) H Q
noncomputable def kBin (op : BOp) (Q : K1) : AV → K1 := fun x y H => giveO (binA op x y H) Q
noncomputable def kSub (F : Frz) (Q : K1) : AV → K1 := fun x y H => giveA (subA F x y H) H Q
noncomputable def kNot (Q : K1) : KB := fun b H => Q (.b (!b)) H
noncomputable def kIte (f g : AH → K1 → Prop) (Q : K1) : KB := fun t H => cond t (f H Q) (g H Q)
noncomputable def kAtt (Γ : Gam) (x : Str) (Q : K1) : K1 := fun a H => giveA (attrA Γ a x H) H Q
noncomputable def kSli (k : Sl) (Q : K1) : K1 := fun a H => giveO (sliceA a k H) Q
noncomputable def kFn (S : Spec) (Q : K1) : KL := fun as H => S as H Q
noncomputable def kMe2 (F : Frz) (m : MKd) (a : AV) (Q : K1) : KL := fun as H => callMk F m a as H Q
noncomputable def kMe (Γ : Gam) (x : Str) (f : AH → KL → Prop) (Q : K1) : K1 := fun a H => oP (kindM Γ a x H) fun m => f H (kMe2 Γ.frz m a Q)
noncomputable def kB (F : Frz) (b : BN) (Q : K1) : KL := fun as H => giveO (callBA F b as H) Q
noncomputable def kSo (Γ : Gam) (f : Nat) (Q : K1) : K1 := fun a H => oP (vR a) fun j => oP (hL H j) (kSort Γ f Q H)
noncomputable def kCo (ifs : Vars → AH → KB → Prop) (elt : Vars → AH → K1 → Prop) (tg : Tg) (vs : Vars) (Q : K1) : KI := fun xs chk H => forL chk (forStep (compStep ifs elt H.length) tg) xs vs (H ++ [.list []]) (kEnd H.length Q)
noncomputable def kCo2 (it : Vars → AH → KI → Prop) (elt : Vars → AH → K1 → Prop) (tg tg2 : Tg) (vs : Vars) (Q : K1) : KI := fun xs chk H => forL chk (forStep (comp2Step it elt tg2 H.length) tg) xs vs (H ++ [.list []]) (kEnd H.length Q)
noncomputable def kEs2 (a : AV) (Q : KL) : KL := fun as H => Q (a :: as) H
noncomputable def kEs (f : AH → KL → Prop) (Q : KL) : K1 := fun a H => f H (kEs2 a Q)
noncomputable def kOv (F : Frz) (Q : KI) : K1 := fun a H => oP (itemsA F a H) fun xs => Q xs (chkA a xs) H
noncomputable def kRg (Q : KI) : K1 := fun a H => oP (vInt a) fun n => bP (rgOk n) (Q (rngA n.toNat) (fun _ => True) H)
noncomputable def kZip (F : Frz) (Q : KI) : AV → K1 := fun x y H => oP (itemsA F x H) fun xs => oP (itemsA F y H) fun ys => bP (none0 xs && none0 ys) (Q [] (chkA x []) H)
noncomputable def kRet (vs : Vars) (K : K2) : K1 := fun a H => K (.ret a) vs H
noncomputable def kFor (f : Vars → AH → K2 → Prop) (t : Tg) (vs : Vars) (K : K2) : KI := fun xs chk H => forL chk (forStep f t) xs vs H K
noncomputable def goOn (o b : Bool) : Bool := match o with
  | true => b
  | false => !b
noncomputable def nilE : CEs → Bool
  | .nil => true
  | .cons _ _ => false

noncomputable def kBo (o last : Bool) (f : AH → K1 → Prop) (Q : K1) : KB := fun b H => cond last (Q (.b b) H) (cond (goOn o b) (f H Q) (Q (.b b) H))
mutual
noncomputable def eE (Γ : Gam) : CE → Vars → AH → K1 → Prop
  | .bad, _, _, _ => False
  | .const d, _, H, Q => Q (.py d) H
  | .var i, vs, H, Q => Option.rec (motive := fun _ => Prop) False (fun a => Q a H) ((vs[i]?).join)
  | .glob g, _, H, Q => Q (Γ.glob g) H
  | .tup es, vs, H, Q => eEs Γ es vs H (kTup Q)
  | .lst es, vs, H, Q => eEs Γ es vs H (kLst Q)
  | .dict0, _, H, Q => Q (.ref H.length) (H ++ [.dict []])
  | .dict1 k v, vs, H, Q => eE Γ k vs H (kTwo (eE Γ v vs) (kDic Q))
  | .cmp op a b, vs, H, Q => eE Γ a vs H (kTwo (eE Γ b vs) (kCmp Γ.frz op Q))
  | .and es, vs, H, Q => eBo Γ true es vs H Q
  | .or es, vs, H, Q => eBo Γ false es vs H Q
  | .not a, vs, H, Q => eE Γ a vs H (asB (kNot Q))
  | .bin op a b, vs, H, Q => eE Γ a vs H (kTwo (eE Γ b vs) (kBin op Q))
  | .ite c a b, vs, H, Q => eE Γ c vs H (asB (kIte (eE Γ a vs) (eE Γ b vs) Q))
  | .attr o x, vs, H, Q => eE Γ o vs H (kAtt Γ x Q)
  | .sub o i, vs, H, Q => eE Γ o vs H (kTwo (eE Γ i vs) (kSub Γ.frz Q))
  | .slice o k, vs, H, Q => eE Γ o vs H (kSli k Q)
  | .callF f es, vs, H, Q => eEs Γ es vs H (kFn (Γ.fn f) Q)
  | .callM o x es, vs, H, Q => eE Γ o vs H (kMe Γ x (eEs Γ es vs) Q)
  | .callC c es, vs, H, Q => eEs Γ es vs H (kInit Γ c Q)
  | .callB b es, vs, H, Q => eEs Γ es vs H (kB Γ.frz b Q)
  | .sortK e f, vs, H, Q => eE Γ e vs H (kSo Γ f Q)
  | .comp caps elt tg it ifs, vs, H, Q => eIT Γ it vs H (kCo (eTests Γ ifs) (eE Γ elt) tg (capVars caps vs (tgN tg)) Q)
  | .comp2 caps elt tg it tg2 it2, vs, H, Q => eIT Γ it vs H (kCo2 (eIT Γ it2) (eE Γ elt) tg tg2 (capVars caps vs (tgN tg + tgN tg2)) Q)
noncomputable def eEs (Γ : Gam) : CEs → Vars → AH → KL → Prop
  | .nil, _, H, Q => Q [] H
  | .cons e es, vs, H, Q => eE Γ e vs H (kEs (eEs Γ es vs) Q)
noncomputable def eBo (Γ : Gam) (o : Bool) : CEs → Vars → AH → K1 → Prop
  | .nil, _, _, _ => False
  | .cons e es, vs, H, Q => eE Γ e vs H (asB (kBo o (nilE es) (eBo Γ o es vs) Q))
noncomputable def eTests (Γ : Gam) : CEs → Vars → AH → KB → Prop
  | .nil, _, H, K => K true H
  | .cons e es, vs, H, K => bP (nilE es) (eE Γ e vs H (asB K))
noncomputable def eIT (Γ : Gam) : IT → Vars → AH → KI → Prop
  | .over e, vs, H, Q => eE Γ e vs H (kOv Γ.frz Q)
  | .range e, vs, H, Q => eE Γ e vs H (kRg Q)
  | .zip a b, vs, H, Q => eE Γ a vs H (kTwo (eE Γ b vs) (kZip Γ.frz Q))
end
noncomputable def kAsg (t : Tg) (vs : Vars) (K : K2) : K1 := fun a H => Option.rec (motive := fun _ => Prop) False (fun vs' => K .next vs' H) (setT t a vs)
noncomputable def kExp (vs : Vars) (K : K2) : K1 := fun a H => bP (isNn a) (K .next vs H)
noncomputable def kAt2 (Γ : Gam) (x : Str) (a : AV) (vs : Vars) (K : K2) : K1 := fun b H => oP (setAttrA Γ b x a H) fun H' => K .next vs H'
noncomputable def kIt2 (a : AV) (vs : Vars) (K : K2) : AV → K1 := fun b c H => oP (setItemA b c a H) fun H' => K .next vs H'
noncomputable def kTg (Γ : Gam) (t : TgS) (vs : Vars) (K : K2) : K1 := match t with
  | .tg t => kAsg t vs K
  | .attr o x => fun a H => eE Γ o vs H (kAt2 Γ x a vs K)
  | .sub o i => fun a H => eE Γ o vs H (kTwo (eE Γ i vs) (kIt2 a vs K))
mutual
noncomputable def eS (Γ : Gam) : CS → Vars → AH → K2 → Prop
  | .bad, _, _, _ => False
  | .assign t e, vs, H, K => eE Γ e vs H (kTg Γ t vs K)
  | .expr e, vs, H, K => eE Γ e vs H (kExp vs K)
  | .ret e, vs, H, K => eE Γ e vs H (kRet vs K)
  | .ifS c a b, vs, H, K => eE Γ c vs H (asB (kIf (eSs Γ a) (eSs Γ b) vs K))
  | .whileS n c body, vs, H, K => whileL (eE Γ c) (eSs Γ body) n vs H K
  | .forS t it body, vs, H, K => eIT Γ it vs H (kFor (eSs Γ body) t vs K)
noncomputable def eSs (Γ : Gam) : CSs → Vars → AH → K2 → Prop
  | .nil, vs, H, K => K .next vs H
  | .cons x xs, vs, H, K => eS Γ x vs H (kSeq (eSs Γ xs) K)
end
noncomputable def asName (e : PySem.Expr) (k : Str → Pos → Bool) : Bool := by
  induction e using PySem.Expr.casesOn with
  | Name x p => exact k x p
  | _ => exact false
theorem asName_m {e : PySem.Expr} {k : Str → Pos → Bool} {m : PySem.Expr → Prop} (h : asName e k = true) (q : ∀ x p, k x p = true → m (.Name x p)) : m e := by
  revert h
  induction e using PySem.Expr.casesOn with
  | Name x p => exact q x p
  | _ => exact bf
noncomputable def asTuple (e : PySem.Expr) (k : List PySem.Expr → Nat → Pos → Bool) : Bool := by
  induction e using PySem.Expr.casesOn with
  | Tuple l c p => exact k l c p
  | _ => exact false
theorem asTuple_m {e : PySem.Expr} {k : List PySem.Expr → Nat → Pos → Bool} {m : PySem.Expr → Prop} (h : asTuple e k = true) (q : ∀ l c p, k l c p = true → m (.Tuple l c p)) : m e := by
  revert h
  induction e using PySem.Expr.casesOn with
  | Tuple l c p => exact q l c p
  | _ => exact bf
noncomputable def asList (e : PySem.Expr) (k : List PySem.Expr → Pos → Bool) : Bool := by
  induction e using PySem.Expr.casesOn with
  | List l p => exact k l p
  | _ => exact false
theorem asList_m {e : PySem.Expr} {k : List PySem.Expr → Pos → Bool} {m : PySem.Expr → Prop} (h : asList e k = true) (q : ∀ l p, k l p = true → m (.List l p)) : m e := by
  revert h
  induction e using PySem.Expr.casesOn with
  | List l p => exact q l p
  | _ => exact bf
noncomputable def asDict (e : PySem.Expr) (k : List (Option PySem.Expr) → List PySem.Expr → Pos → Bool) : Bool := by
  induction e using PySem.Expr.casesOn with
  | Dict l v p => exact k l v p
  | _ => exact false
theorem asDict_m {e : PySem.Expr} {k : List (Option PySem.Expr) → List PySem.Expr → Pos → Bool} {m : PySem.Expr → Prop} (h : asDict e k = true) (q : ∀ l v p, k l v p = true → m (.Dict l v p)) : m e := by
  revert h
  induction e using PySem.Expr.casesOn with
  | Dict l v p => exact q l v p
  | _ => exact bf
noncomputable def asCompare (e : PySem.Expr) (k : PySem.Expr → List CmpOp → List PySem.Expr → Pos → Bool) : Bool := by
  induction e using PySem.Expr.casesOn with
  | Compare l o r p => exact k l o r p
  | _ => exact false
theorem asCompare_m {e : PySem.Expr} {k : PySem.Expr → List CmpOp → List PySem.Expr → Pos → Bool} {m : PySem.Expr → Prop} (h : asCompare e k = true) (q : ∀ l o r p, k l o r p = true → m (.Compare l o r p)) : m e := by
  revert h
  induction e using PySem.Expr.casesOn with
  | Compare l o r p => exact q l o r p
  | _ => exact bf
noncomputable def asBoolOp (e : PySem.Expr) (k : BoolOp → List PySem.Expr → Pos → Bool) : Bool := by
  induction e using PySem.Expr.casesOn with
  | BoolOp o l p => exact k o l p
  | _ => exact false
theorem asBoolOp_m {e : PySem.Expr} {k : BoolOp → List PySem.Expr → Pos → Bool} {m : PySem.Expr → Prop} (h : asBoolOp e k = true) (q : ∀ o l p, k o l p = true → m (.BoolOp o l p)) : m e := by
  revert h
  induction e using PySem.Expr.casesOn with
  | BoolOp o l p => exact q o l p
  | _ => exact bf
noncomputable def asUnaryOp (e : PySem.Expr) (k : UnaryOp → PySem.Expr → Pos → Bool) : Bool := by
  induction e using PySem.Expr.casesOn with
  | UnaryOp o x p => exact k o x p
  | _ => exact false
theorem asUnaryOp_m {e : PySem.Expr} {k : UnaryOp → PySem.Expr → Pos → Bool} {m : PySem.Expr → Prop} (h : asUnaryOp e k = true) (q : ∀ o x p, k o x p = true → m (.UnaryOp o x p)) : m e := by
  revert h
  induction e using PySem.Expr.casesOn with
  | UnaryOp o x p => exact q o x p
  | _ => exact bf
noncomputable def asBinOp (e : PySem.Expr) (k : PySem.Expr → Operator → PySem.Expr → Pos → Bool) : Bool := by
  induction e using PySem.Expr.casesOn with
  | BinOp l o r p => exact k l o r p
  | _ => exact false
theorem asBinOp_m {e : PySem.Expr} {k : PySem.Expr → Operator → PySem.Expr → Pos → Bool} {m : PySem.Expr → Prop} (h : asBinOp e k = true) (q : ∀ l o r p, k l o r p = true → m (.BinOp l o r p)) : m e := by
  revert h
  induction e using PySem.Expr.casesOn with
  | BinOp l o r p => exact q l o r p
  | _ => exact bf
noncomputable def asIfExp (e : PySem.Expr) (k : PySem.Expr → PySem.Expr → PySem.Expr → Pos → Bool) : Bool := by
  induction e using PySem.Expr.casesOn with
  | IfExp t x y p => exact k t x y p
  | _ => exact false
theorem asIfExp_m {e : PySem.Expr} {k : PySem.Expr → PySem.Expr → PySem.Expr → Pos → Bool} {m : PySem.Expr → Prop} (h : asIfExp e k = true) (q : ∀ t x y p, k t x y p = true → m (.IfExp t x y p)) : m e := by
  revert h
  induction e using PySem.Expr.casesOn with
  | IfExp t x y p => exact q t x y p
  | _ => exact bf
noncomputable def asAttribute (e : PySem.Expr) (k : PySem.Expr → Str → Pos → Bool) : Bool := by
  induction e using PySem.Expr.casesOn with
  | Attribute v n p => exact k v n p
  | _ => exact false
theorem asAttribute_m {e : PySem.Expr} {k : PySem.Expr → Str → Pos → Bool} {m : PySem.Expr → Prop} (h : asAttribute e k = true) (q : ∀ v n p, k v n p = true → m (.Attribute v n p)) : m e := by
  revert h
  induction e using PySem.Expr.casesOn with
  | Attribute v n p => exact q v n p
  | _ => exact bf
noncomputable def asSubscript (e : PySem.Expr) (k : PySem.Expr → PySem.Expr → Pos → Bool) : Bool := by
  induction e using PySem.Expr.casesOn with
  | Subscript v j p => exact k v j p
  | _ => exact false
theorem asSubscript_m {e : PySem.Expr} {k : PySem.Expr → PySem.Expr → Pos → Bool} {m : PySem.Expr → Prop} (h : asSubscript e k = true) (q : ∀ v j p, k v j p = true → m (.Subscript v j p)) : m e := by
  revert h
  induction e using PySem.Expr.casesOn with
  | Subscript v j p => exact q v j p
  | _ => exact bf
noncomputable def asSlice (e : PySem.Expr) (k : Option PySem.Expr → Option PySem.Expr → Option PySem.Expr → Pos → Bool) : Bool := by
  induction e using PySem.Expr.casesOn with
  | Slice a b c p => exact k a b c p
  | _ => exact false
theorem asSlice_m {e : PySem.Expr} {k : Option PySem.Expr → Option PySem.Expr → Option PySem.Expr → Pos → Bool} {m : PySem.Expr → Prop} (h : asSlice e k = true) (q : ∀ a b c p, k a b c p = true → m (.Slice a b c p)) : m e := by
  revert h
  induction e using PySem.Expr.casesOn with
  | Slice a b c p => exact q a b c p
  | _ => exact bf
noncomputable def asCall (e : PySem.Expr) (k : PySem.Expr → List PySem.Expr → List Keyword → Pos → Bool) : Bool := by
  induction e using PySem.Expr.casesOn with
  | Call f l u p => exact k f l u p
  | _ => exact false
theorem asCall_m {e : PySem.Expr} {k : PySem.Expr → List PySem.Expr → List Keyword → Pos → Bool} {m : PySem.Expr → Prop} (h : asCall e k = true) (q : ∀ f l u p, k f l u p = true → m (.Call f l u p)) : m e := by
  revert h
  induction e using PySem.Expr.casesOn with
  | Call f l u p => exact q f l u p
  | _ => exact bf
noncomputable def asListComp (e : PySem.Expr) (k : PySem.Expr → List Comprehension → Scope → Pos → Bool) : Bool := by
  induction e using PySem.Expr.casesOn with
  | ListComp x l s p => exact k x l s p
  | _ => exact false
theorem asListComp_m {e : PySem.Expr} {k : PySem.Expr → List Comprehension → Scope → Pos → Bool} {m : PySem.Expr → Prop} (h : asListComp e k = true) (q : ∀ x l s p, k x l s p = true → m (.ListComp x l s p)) : m e := by
  revert h
  induction e using PySem.Expr.casesOn with
  | ListComp x l s p => exact q x l s p
  | _ => exact bf
noncomputable def asConstant (e : PySem.Expr) (k : Const → Nat → Pos → Bool) : Bool := by
  induction e using PySem.Expr.casesOn with
  | Constant c u p => exact k c u p
  | _ => exact false
theorem asConstant_m {e : PySem.Expr} {k : Const → Nat → Pos → Bool} {m : PySem.Expr → Prop} (h : asConstant e k = true) (q : ∀ c u p, k c u p = true → m (.Constant c u p)) : m e := by
  revert h
  induction e using PySem.Expr.casesOn with
  | Constant c u p => exact q c u p
  | _ => exact bf
noncomputable def stAssign (e : Stmt) (k : List PySem.Expr → PySem.Expr → Pos → Bool) : Bool := by
  induction e using Stmt.casesOn with
  | Assign l v p => exact k l v p
  | _ => exact false
theorem stAssign_m {e : Stmt} {k : List PySem.Expr → PySem.Expr → Pos → Bool} {m : Stmt → Prop} (h : stAssign e k = true) (q : ∀ l v p, k l v p = true → m (.Assign l v p)) : m e := by
  revert h
  induction e using Stmt.casesOn with
  | Assign l v p => exact q l v p
  | _ => exact bf
noncomputable def stExpr (e : Stmt) (k : PySem.Expr → Pos → Bool) : Bool := by
  induction e using Stmt.casesOn with
  | Expr v p => exact k v p
  | _ => exact false
theorem stExpr_m {e : Stmt} {k : PySem.Expr → Pos → Bool} {m : Stmt → Prop} (h : stExpr e k = true) (q : ∀ v p, k v p = true → m (.Expr v p)) : m e := by
  revert h
  induction e using Stmt.casesOn with
  | Expr v p => exact q v p
  | _ => exact bf
noncomputable def stReturn (e : Stmt) (k : Option PySem.Expr → Pos → Bool) : Bool := by
  induction e using Stmt.casesOn with
  | Return v p => exact k v p
  | _ => exact false
theorem stReturn_m {e : Stmt} {k : Option PySem.Expr → Pos → Bool} {m : Stmt → Prop} (h : stReturn e k = true) (q : ∀ v p, k v p = true → m (.Return v p)) : m e := by
  revert h
  induction e using Stmt.casesOn with
  | Return v p => exact q v p
  | _ => exact bf
noncomputable def stIf (e : Stmt) (k : PySem.Expr → List Stmt → List Stmt → Pos → Bool) : Bool := by
  induction e using Stmt.casesOn with
  | If t x y p => exact k t x y p
  | _ => exact false
theorem stIf_m {e : Stmt} {k : PySem.Expr → List Stmt → List Stmt → Pos → Bool} {m : Stmt → Prop} (h : stIf e k = true) (q : ∀ t x y p, k t x y p = true → m (.If t x y p)) : m e := by
  revert h
  induction e using Stmt.casesOn with
  | If t x y p => exact q t x y p
  | _ => exact bf
noncomputable def stWhile (e : Stmt) (k : PySem.Expr → List Stmt → List Stmt → Pos → Bool) : Bool := by
  induction e using Stmt.casesOn with
  | While t x y p => exact k t x y p
  | _ => exact false
theorem stWhile_m {e : Stmt} {k : PySem.Expr → List Stmt → List Stmt → Pos → Bool} {m : Stmt → Prop} (h : stWhile e k = true) (q : ∀ t x y p, k t x y p = true → m (.While t x y p)) : m e := by
  revert h
  induction e using Stmt.casesOn with
  | While t x y p => exact q t x y p
  | _ => exact bf
noncomputable def stFor (e : Stmt) (k : PySem.Expr → PySem.Expr → List Stmt → List Stmt → Pos → Bool) : Bool := by
  induction e using Stmt.casesOn with
  | For g i x y p => exact k g i x y p
  | _ => exact false
theorem stFor_m {e : Stmt} {k : PySem.Expr → PySem.Expr → List Stmt → List Stmt → Pos → Bool} {m : Stmt → Prop} (h : stFor e k = true) (q : ∀ g i x y p, k g i x y p = true → m (.For g i x y p)) : m e := by
  revert h
  induction e using Stmt.casesOn with
  | For g i x y p => exact q g i x y p
  | _ => exact bf
structure Nam where
  fn : Nat → Str
  cls : Nat → Str
  glob : Nat → Str

noncomputable def relabelS (scope sc : Scope) : Scope :=
  { scope with names := scope.names.map fun (n, k) => if (k == .free && sc.kind == .function && sc.names.lookup n == some .cell) then (n, .cell) else (n, k) }
theorem relabelS_eq (scope : Scope) (env : Env) : relabel scope env = relabelS scope env.scope := rfl

noncomputable def isGlob (sc : Scope) (x : Str) : Bool := sc.names.lookup x == some .globalImplicit && x != ("__debug__" : Str)
noncomputable def isVar (sc : Scope) (x : Str) : Bool := (sc.names.lookup x == some .local || sc.names.lookup x == some .cell) && x != ("__debug__" : Str) && x != ("__classdict__" : Str)
noncomputable def opM : BOp → Operator
  | .add => .Add
  | .sub => .Sub
  | .mul => .Mult
  | .fdiv => .FloorDiv
  | .mod => .Mod
noncomputable def copM : COp → CmpOp
  | .eq => .Eq
  | .ne => .NotEq
  | .is_ => .Is
  | .isnt => .IsNot
  | .lt => .Lt
  | .le => .LtE
  | .gt => .Gt
  | .ge => .GtE
  | .inn => .In
  | .notin => .NotIn
noncomputable def boM : Bool → BoolOp
  | true => .And
  | false => .Or
noncomputable def bnOf : BN → Str
  | .list => "list"
  | .tuple => "tuple"
  | .dict => "dict"
  | .len => "len"
  | .max => "max"
  | .abs => "abs"
  | .any => "any"
  | .repr => "repr"
  | .sorted => "sorted"
noncomputable def l1 {α : Type} (l : List α) (k : α → Bool) : Bool := match l with
  | [] => false
  | x :: r => none0 r && k x
theorem l1_m {α : Type} {l : List α} {k : α → Bool} {m : List α → Prop} (h : l1 l k = true) (q : ∀ x, k x = true → m [x]) : m l := by
  induction l using List.casesOn with
  | nil => exact bf h
  | cons x r => exact band_k h fun h1 h2 => none0_k h1 ▸ q x h2
noncomputable def l2 {α : Type} (l : List α) (k : α → α → Bool) : Bool := match l with
  | [] => false
  | x :: r => l1 r (k x)
theorem l2_m {α : Type} {l : List α} {k : α → α → Bool} {m : List α → Prop} (h : l2 l k = true) (q : ∀ x y, k x y = true → m [x, y]) : m l := by
  induction l using List.casesOn with
  | nil => exact bf h
  | cons x r => exact l1_m (m := fun r => m (x :: r)) h fun y => q x y
noncomputable def oB {α : Type} (l : Option α) (k : α → Bool) : Bool := match l with
  | none => false
  | some x => k x
theorem oB_m {α : Type} {l : Option α} {k : α → Bool} {m : Option α → Prop} (h : oB l k = true) (q : ∀ x, k x = true → m (some x)) : m l := by
  induction l using Option.casesOn with
  | none => exact bf h
  | some x => exact q x h
theorem dec_m {α : Type} [DecidableEq α] {a b : α} {m : α → Prop} (h : decide (a = b) = true) (q : m b) : m a := (of_decide_eq_true h).symm ▸ q
noncomputable def cInt (c : Const) (k : Int → Bool) : Bool := match c with
  | .int j => k j
  | _ => false
theorem cInt_m {c : Const} {k : Int → Bool} {m : Const → Prop} (h : cInt c k = true) (q : ∀ j, k j = true → m (.int j)) : m c := by
  revert h
  induction c using Const.casesOn with
  | int j => exact q j
  | _ => exact bf
noncomputable def isInt (i : Int) (e : PySem.Expr) : Bool := asConstant e (fun c _ _ => cInt c fun j => decide (j = i)) || asUnaryOp e fun o x _ => decide (o = .USub) && asConstant x fun c _ _ => cInt c fun j => decide (j = -i)
theorem isInt_m {i : Int} {e : PySem.Expr} {m : PySem.Expr → Prop} (h : isInt i e = true) (q1 : ∀ u p, m (.Constant (.int i) u p)) (q2 : ∀ u p p', m (.UnaryOp .USub (.Constant (.int (-i)) u p) p')) : m e :=
  (Bool.or_eq_true_iff.mp h).elim (fun h => asConstant_m h fun _ u p h => cInt_m (m := fun c => m (.Constant c u p)) h fun _ h => dec_m (m := fun j => m (.Constant (.int j) u p)) h (q1 u p))
    fun h => asUnaryOp_m h fun o x p' h => band_k h fun h1 h2 => dec_m (m := fun o => m (.UnaryOp o x p')) h1 (asConstant_m (m := fun x => m (.UnaryOp .USub x p')) h2 fun _ u p h => cInt_m (m := fun c => m (.UnaryOp .USub (.Constant c u p) p')) h fun _ h => dec_m (m := fun j => m (.UnaryOp .USub (.Constant (.int j) u p) p')) h (q2 u p p'))
noncomputable def constOk : PyData → PySem.Expr → Bool
  | .none, e => asConstant e fun c _ _ => decide (c = .none)
  | .bool b, e => asConstant e fun c _ _ => decide (c = .bool b)
  | .int i, e => isInt i e
  | .str x, e => asConstant e fun c _ _ => decide (c = .str x)
  | .tuple _, _ => false
  | .list _, _ => false
  | .dict _, _ => false
noncomputable def boundOk : Option Int → Option PySem.Expr → Bool
  | none, e => e.isNone
  | some i, e => oB e (isInt i)
noncomputable def slB : Sl → Option Int × Option Int × Option Int
  | .rev => (none, none, some (-1))
  | .tl => (some 1, none, none)
  | .rtl => (none, some 0, some (-1))
noncomputable def sl1 (k : Sl) : Option Int := (slB k).1
noncomputable def sl2 (k : Sl) : Option Int := (slB k).2.1
noncomputable def sl3 (k : Sl) : Option Int := (slB k).2.2
noncomputable def tgNm1 (e : PySem.Expr) : Str := by
  induction e using PySem.Expr.casesOn with
  | Name x _ => exact x
  | _ => exact ("" : Str)
noncomputable def tgNames (e : PySem.Expr) : List Str := by
  induction e using PySem.Expr.casesOn with
  | Name x _ => exact [x]
  | Tuple es _ _ => exact es.map tgNm1
  | _ => exact []
noncomputable def nodupB : List Str → Bool
  | [] => true
  | x :: r => !r.contains x && nodupB r
noncomputable def scOk (scope sc : Scope) : Bool :=
  (scope.kind == .function && sc.kind == .function) && scope.names.all (fun x => x.2 != .cell && (x.2 != .local || scope.names.lookup x.1 == some .local) && (x.2 != .free || sc.names.lookup x.1 == some .cell))
noncomputable def capNm (caps : List Nat) (nm : List Str) : List Str := caps.map fun i => (nm[i]?).getD ""
noncomputable def capsOk (caps : List Nat) (nm : List Str) (scope : Scope) : Bool := caps.all fun i => oB nm[i]? fun x => scope.names.lookup x == some .free
noncomputable def notSet (e : PySem.Expr) : Bool := by
  induction e using PySem.Expr.casesOn with
  | Set => exact false
  | _ => exact true
noncomputable def notStar (e : PySem.Expr) : Bool := by
  induction e using PySem.Expr.casesOn with
  | Starred => exact false
  | _ => exact true
noncomputable def notSlice (e : PySem.Expr) : Bool := by
  induction e using PySem.Expr.casesOn with
  | Slice => exact false
  | _ => exact true
noncomputable def notSuper (e : PySem.Expr) : Bool := by
  induction e using PySem.Expr.casesOn with
  | Call f l k _ => exact !(asName f fun _ _ => none0 l && none0 k)
  | _ => exact true

noncomputable def nm1 (nm : List Str) (sc : Scope) (i : Nat) (e : PySem.Expr) : Bool := asName e fun x _ => decide (nm[i]? = some x) && isVar sc x
noncomputable def namesOk (nm : List Str) (sc : Scope) : List Nat → List PySem.Expr → Bool
  | [], es => none0 es
  | i :: r, es => match es with
    | [] => false
    | e :: es => nm1 nm sc i e && namesOk nm sc r es
noncomputable def tgOk (t : Tg) (nm : List Str) (sc : Scope) (e : PySem.Expr) : Bool := match t with
  | .one i => nm1 nm sc i e
  | .tup l => asTuple e fun es _ _ => namesOk nm sc l es
noncomputable def tgAt (t : Tg) (n : Nat) : Bool := match t with
  | .one i => i == n
  | .tup l => l == (List.range l.length).map (· + n)
noncomputable def comOk (caps : List Nat) (nm : List Str) (sc scope : Scope) (tg : Tg) (t i : PySem.Expr) : Bool :=
  (capsOk caps nm scope && scOk scope sc) && (notSet i && nodupB (capNm caps nm ++ tgNames t)) && ((tgAt tg caps.length && (tgNames t).all fun x => scope.names.lookup x == some .local) && tgOk tg (capNm caps nm ++ tgNames t) (relabelS scope sc) t)
noncomputable def com2Ok (caps : List Nat) (nm : List Str) (sc scope : Scope) (tg : Tg) (t i : PySem.Expr) (tg2 : Tg) (t2 i2 : PySem.Expr) : Bool :=
  (capsOk caps nm scope && scOk scope sc) && ((notSet i && notSet i2) && nodupB (capNm caps nm ++ (tgNames t ++ tgNames t2))) && (((tgNames t).length == tgN tg && tgAt tg caps.length) && tgAt tg2 (caps.length + tgN tg)) &&
    ((tgNames t ++ tgNames t2).all (fun x => scope.names.lookup x == some .local) && (tgOk tg (capNm caps nm ++ (tgNames t ++ tgNames t2)) (relabelS scope sc) t && tgOk tg2 (capNm caps nm ++ (tgNames t ++ tgNames t2)) (relabelS scope sc) t2))
noncomputable def asGen (g : Comprehension) (k : PySem.Expr → PySem.Expr → List PySem.Expr → Bool) : Bool := decide (g.is_async = 0) && k g.target g.iter g.ifs
theorem asGen_m {g : Comprehension} {k : PySem.Expr → PySem.Expr → List PySem.Expr → Bool} {m : Comprehension → Prop} (h : asGen g k = true) (q : ∀ t i cs, k t i cs = true → m ⟨t, i, cs, 0⟩) : m g := by
  induction g using Comprehension.casesOn with
  | mk t i cs a => exact band_k h fun h1 h2 => dec_m (m := fun a => m ⟨t, i, cs, a⟩) h1 (q t i cs h2)
noncomputable def asKey (g : Keyword) (k : Str → Str → Bool) : Bool := oB g.arg fun a => asName g.value fun z _ => k a z
theorem asKey_m {g : Keyword} {k : Str → Str → Bool} {m : Keyword → Prop} (h : asKey g k = true) (q : ∀ a z p pos, k a z = true → m ⟨some a, .Name z p, pos⟩) : m g := by
  induction g using Keyword.casesOn with
  | mk a v p => exact oB_m (m := fun a => m ⟨a, v, p⟩) h fun a h => asName_m (m := fun v => m ⟨some a, v, p⟩) h fun z p' h => q a z p' p h
noncomputable def asCallN (e : PySem.Expr) (k : Str → List PySem.Expr → Bool) : Bool := asCall e fun f l ks _ => asName f fun x _ => none0 ks && k x l
theorem asCallN_m {e : PySem.Expr} {k : Str → List PySem.Expr → Bool} {m : PySem.Expr → Prop} (h : asCallN e k = true) (q : ∀ x p l p2, k x l = true → m (.Call (.Name x p) l [] p2)) : m e :=
  asCall_m h fun f l ks p2 h => asName_m (m := fun f => m (.Call f l ks p2)) h fun x p h => band_k h fun h1 h2 => none0_k h1 ▸ q x p l p2 h2

mutual
noncomputable def bE (N : Nam) (nm : List Str) (sc : Scope) : CE → PySem.Expr → Bool
  | .bad, _ => true
  | .const d, e => constOk d e
  | .var i, e => nm1 nm sc i e
  | .glob g, e => asName e fun x _ => decide (x = N.glob g) && isGlob sc x
  | .tup es, e => asTuple e fun l _ _ => bEs N nm sc es l
  | .lst es, e => asList e fun l _ => bEs N nm sc es l
  | .dict0, e => asDict e fun l v _ => none0 l && none0 v
  | .dict1 k v, e => asDict e fun ks vs _ => l1 ks fun a => oB a fun a => l1 vs fun b => bE N nm sc k a && bE N nm sc v b
  | .cmp op a b, e => asCompare e fun l o r _ => l1 o fun o => l1 r fun r => (decide (o = copM op) && notSet r) && (bE N nm sc a l && bE N nm sc b r)
  | .and es, e => asBoolOp e fun o l _ => decide (o = .And) && bEs N nm sc es l
  | .or es, e => asBoolOp e fun o l _ => decide (o = .Or) && bEs N nm sc es l
  | .not a, e => asUnaryOp e fun o x _ => decide (o = .Not) && bE N nm sc a x
  | .bin op a b, e => asBinOp e fun l o r _ => decide (o = opM op) && (bE N nm sc a l && bE N nm sc b r)
  | .ite c a b, e => asIfExp e fun t x y _ => bE N nm sc c t && (bE N nm sc a x && bE N nm sc b y)
  | .attr o x, e => asAttribute e fun v n _ => decide (n = x) && (notSuper v && bE N nm sc o v)
  | .sub o i, e => asSubscript e fun v j _ => bE N nm sc o v && bE N nm sc i j
  | .slice o k, e => asSubscript e fun v j _ => asSlice j fun a b c _ => (bE N nm sc o v && boundOk (sl1 k) a) && (boundOk (sl2 k) b && boundOk (sl3 k) c)
  | .callF f es, e => asCallN e fun x l => (decide (x = N.fn f) && isGlob sc x) && bEs N nm sc es l
  | .callM o x es, e => asCall e fun f l ks p => asAttribute f fun v n ap => (none0 ks && decide (n = x)) && ((notSuper v && (ap.endLine == p.line && Nat.ble l.length 20)) && (bE N nm sc o v && bEs N nm sc es l))
  | .callC c es, e => asCallN e fun x l => (decide (x = N.cls c) && isGlob sc x) && bEs N nm sc es l
  | .callB b es, e => asCallN e fun x l => (decide (x = bnOf b) && isGlob sc x) && bEs N nm sc es l
  | .sortK a f, e => asCall e fun g l ks _ => asName g fun x _ => l1 l fun y => l1 ks fun k => asKey k fun k z => (decide (x = "sorted") && decide (k = "key")) && ((decide (z = N.fn f) && (isGlob sc x && isGlob sc z)) && (notStar y && bE N nm sc a y))
  | .comp caps elt tg it ifs, e => asListComp e fun elt' gens scope _ => l1 gens fun g => asGen g fun t i cs =>
      comOk caps nm sc scope tg t i && (bIT N nm sc it i && (bEs N (capNm caps nm ++ tgNames t) (relabelS scope sc) ifs cs && bE N (capNm caps nm ++ tgNames t) (relabelS scope sc) elt elt'))
  | .comp2 caps elt tg it tg2 it2, e => asListComp e fun elt' gens scope _ => l2 gens fun g g2 => asGen g fun t i cs => asGen g2 fun t2 i2 cs2 =>
      ((none0 cs && none0 cs2) && com2Ok caps nm sc scope tg t i tg2 t2 i2) && (bIT N nm sc it i && (bIT N (capNm caps nm ++ (tgNames t ++ tgNames t2)) (relabelS scope sc) it2 i2 && bE N (capNm caps nm ++ (tgNames t ++ tgNames t2)) (relabelS scope sc) elt elt'))
noncomputable def bEs (N : Nam) (nm : List Str) (sc : Scope) : CEs → List PySem.Expr → Bool
  | .nil, l => none0 l
  | .cons c cs, l => match l with
    | e :: es => (notStar e && bE N nm sc c e) && bEs N nm sc cs es
    | [] => false
noncomputable def bIT (N : Nam) (nm : List Str) (sc : Scope) : IT → PySem.Expr → Bool
  | .over c, e => bE N nm sc c e
  | .range c, e => asCallN e fun x l => l1 l fun a => (decide (x = "range") && isGlob sc x) && (notStar a && bE N nm sc c a)
  | .zip c d, e => asCallN e fun x l => l2 l fun a b => (decide (x = "zip") && isGlob sc x) && ((notStar a && notStar b) && (bE N nm sc c a && bE N nm sc d b))
end

noncomputable def noComp (e : PySem.Expr) : Bool := by
  induction e using PySem.Expr.casesOn with
  | ListComp => exact false
  | SetComp => exact false
  | DictComp => exact false
  | _ => exact true
noncomputable def tgSOk (N : Nam) (t : TgS) (nm : List Str) (sc : Scope) (e : PySem.Expr) : Bool := match t with
  | .tg t => tgOk t nm sc e
  | .attr o x => asAttribute e fun v n _ => decide (n = x) && (notSuper v && bE N nm sc o v)
  | .sub o i => asSubscript e fun v j _ => notSlice j && (bE N nm sc o v && bE N nm sc i j)
noncomputable def nodupN : List Nat → Bool
  | [] => true
  | x :: r => !r.contains x && nodupN r
theorem nodupN_ok : ∀ {l : List Nat}, nodupN l = true → l.Nodup
  | [], _ => List.nodup_nil
  | x :: r, h => band_k h fun h1 h2 => List.nodup_cons.mpr ⟨fun z => by rw [List.contains_iff_mem.mpr z] at h1; exact bf h1, nodupN_ok h2⟩
noncomputable def plainT (e : PySem.Expr) : Bool := by
  induction e using PySem.Expr.casesOn with
  | Tuple es _ _ => exact !es.all (constantsAlone 8) || es.all (foldedForSure 8)
  | _ => exact true
noncomputable def tupOk (t : TgS) (e : PySem.Expr) : Bool := match t with
  | .tg t => match t with
    | .one _ => true
    | .tup l => nodupN l && plainT e
  | .attr _ _ => true
  | .sub _ _ => true
mutual
noncomputable def bS (N : Nam) (nm : List Str) (sc : Scope) : CS → Stmt → Bool
  | .bad, _ => true
  | .assign t c, st => stAssign st fun g e _ => l1 g fun g => (tgSOk N t nm sc g && tupOk t e) && bE N nm sc c e
  | .expr c, st => stExpr st fun e _ => bE N nm sc c e && noComp e
  | .ret c, st => stReturn st fun e _ => oB e (bE N nm sc c)
  | .ifS c a b, st => stIf st fun t x y _ => bE N nm sc c t && (bSs N nm sc a x && bSs N nm sc b y)
  | .whileS _ c b, st => stWhile st fun t x y _ => none0 y && (bE N nm sc c t && bSs N nm sc b x)
  | .forS t it b, st => stFor st fun g i x y _ => (none0 y && tgOk t nm sc g) && (notSet i && (bIT N nm sc it i && bSs N nm sc b x))
noncomputable def bSs (N : Nam) (nm : List Str) (sc : Scope) : CSs → List Stmt → Bool
  | .nil, l => none0 l
  | .cons x xs, l => match l with
    | s :: r => bS N nm sc x s && bSs N nm sc xs r
    | [] => false
end
structure FnDef where
  nm : List PySem.Str
  np : Nat
  dfl : List PyData
  body : CSs
noncomputable def clsOkB (K : Frag) (C : Addr) : Bool := (hasDictIn K C && findIn K (.ref C) "__setattr__" == some (some (.builtin "object.__setattr__"))) && (plainOver K C && plainGet K C "")
noncomputable def attrOkB (K : Frag) (C : Addr) (x : PySem.Str) : Bool := oB (findIn K (.ref C) x) (noGet K) && takerIn K C x == some none
noncomputable def methOkB (K : Frag) (C : Addr) (x : PySem.Str) (f : Addr) : Bool := findIn K (.ref C) x == some (some (.ref f)) && (isFn K (.ref f) && keepIn K (.ref f))
noncomputable def pRef : Value → Option Addr
  | .ref a => some a
  | _ => none
noncomputable def pStrV : Value → Option PySem.Str
  | .str x _ => some x
  | _ => none
noncomputable def isBoolV (b : Bool) : Value → Bool
  | .bool c => b == c
  | _ => false
noncomputable def isIntV (i : Int) : Value → Bool
  | .int j _ => i == j
  | _ => false
noncomputable def isNoneV : Value → Bool
  | .none => true
  | _ => false
noncomputable def pType : Value → Option String
  | .type U => some U
  | _ => none
noncomputable def pBlt : Value → Option String
  | .builtin U => some U
  | _ => none
noncomputable def pSeq : Data → Option (Array Value)
  | .seq xs _ => some xs
  | _ => none
noncomputable def pFields : Data → Option (Array Value)
  | .fields xs => some xs
  | _ => none
noncomputable def funcOf : Data → Option FuncData
  | .func fd => some fd
  | _ => none
noncomputable def clsD : Data → Option ClassData
  | .cls fd => some fd
  | _ => none
noncomputable def dictD : Data → Option (Array DictEntry)
  | .dict es _ => some es
  | _ => none
noncomputable def stmtsOf : FuncBody → Option (List Stmt)
  | .stmts b => some b
  | _ => none
noncomputable def isTypeV (T : String) (v : Value) : Bool := oB (pType v) fun U => U == T
noncomputable def isBltV (T : String) (v : Value) : Bool := oB (pBlt v) fun U => U == T
noncomputable def nsG (h : Addr → Option Obj) (a : Addr) (name : PySem.Str) : Option Value :=
  match h a with
  | some o => (match o.data with | .dict es _ => nsFind es name | _ => none)
  | none => none
noncomputable def isNsG (h : Addr → Option Obj) (a : Addr) : Bool :=
  match h a with
  | some o => (match o.data with | .dict es _ => es.all (fun e => match e.key with | .str _ _ => true | _ => false) | _ => false)
  | none => false
noncomputable def tupAt (h : Addr → Option Obj) (v : Value) : Option (Array Value) := (pRef v).bind fun a => (h a).bind fun o => gB (isTypeV "tuple" o.cls) (pSeq o.data)
mutual
noncomputable def readsB (h : Addr → Option Obj) : PyData → Value → Bool
  | .none, v => isNoneV v
  | .bool b, v => isBoolV b v
  | .int i, v => isIntV i v
  | .str x, v => oB (pStrV v) fun y => y == x
  | .tuple ds, v => oB (tupAt h v) fun xs => readsBs h ds xs.toList
  | .list _, _ => false
  | .dict _, _ => false
noncomputable def readsBs (h : Addr → Option Obj) : List PyData → List Value → Bool
  | [], vs => vs.isEmpty
  | d :: ds, vs => match vs with
    | v :: r => readsB h d v && readsBs h ds r
    | [] => false
end
noncomputable def codeB (h : Addr → Option Obj) (fd : FuncData) : Bool := oB (pRef fd.code) fun c => oB (h c) fun o => oB (pFields o.data) fun vs => oB vs[1]? fun v => oB (pStrV v) fun x => x == fd.qualname
noncomputable def isLocB (o : Option NameKind) : Bool := decide (o = some .local) || decide (o = some .cell)
noncomputable def dfltsOf (h : Addr → Option Obj) (v : Value) : Option (Array Value) := cond (isNoneV v) (some #[]) (tupAt h v)
noncomputable def fnAtB (h : Addr → Option Obj) (N : Nam) (D : FnDef) (a : Addr) : Bool := oB (h a) fun o => oB (funcOf o.data) fun fd => oB (stmtsOf fd.body) fun body => oB (dfltsOf h fd.defaults) fun ds =>
  !fd.scope.isCoroutine && (!fd.scope.isGenerator && (codeB h fd && (decide (fd.scope.kind = .function) && (fd.closure.isEmpty && (Nat.beq fd.globals mainGlobals && (Nat.beq fd.builtins builtinsNs &&
    (fd.params.posonlyargs.isEmpty && (fd.params.vararg.isNone && (fd.params.kwonlyargs.isEmpty && (fd.params.kwarg.isNone &&
    (fd.params.args.map (·.arg) == D.nm.take D.np && (Nat.ble D.np D.nm.length && (nodupB D.nm && ((D.nm.take D.np).all (fun x => isLocB (fd.scope.names.lookup x)) &&
    (Nat.ble D.dfl.length D.np && readsBs h D.dfl ds.toList)))))))))))))))
structure TL where
  fns : List (PySem.Str × FnDef)
  fn0 : PySem.Str × FnDef
  cls : List PySem.Str
  cls0 : PySem.Str
  globs : List (PySem.Str × PyData)
  glob0 : PySem.Str × PyData
  mes : List (Nat × PySem.Str × FnDef)
  me0 : Nat × PySem.Str × FnDef
  ats : List (Nat × PySem.Str)
noncomputable def TL.nam (t : TL) : Nam := ⟨fun f => (t.fns.getD f t.fn0).1, fun c => t.cls.getD c t.cls0, fun g => (t.globs.getD g t.glob0).1⟩
noncomputable def meIs (c : Nat) (x : PySem.Str) (m : Nat × PySem.Str × FnDef) : Bool := Nat.beq m.1 c && m.2.1 == x
noncomputable def refAt (v : Option Value) : Addr := ((v.bind pRef).getD 0)
noncomputable def clsOf (t : TL) (h : Addr → Option Obj) : Cls := fun c => refAt (nsG h mainGlobals (t.nam.cls c))
noncomputable def nsRefs (h : Addr → Option Obj) (a : Addr) : List Addr := (((h a).bind fun o => dictD o.data).getD #[]).toList.filterMap fun e => pRef e.val
noncomputable def clsNs (h : Addr → Option Obj) (a : Addr) : List Addr := (((h a).bind fun o => clsD o.data).map fun cd => cd.ns :: nsRefs h cd.ns).getD []
noncomputable def fragOf (h : Addr → Option Obj) : Frag := (nsRefs h mainGlobals ++ (nsRefs h mainGlobals).flatMap (clsNs h)).filterMap fun a => (h a).map fun o => (a, o)
noncomputable def bltB (h : Addr → Option Obj) (x : PySem.Str) (f : Value → Bool) : Bool := (nsG h mainGlobals x).isNone && oB (nsG h builtinsNs x) f
noncomputable def refB (h : Addr → Option Obj) (K : Frag) (x : PySem.Str) (k : Addr → Bool) : Bool := oB (nsG h mainGlobals x) fun v => oB (pRef v) fun a => keepIn K (.ref a) && k a
noncomputable def fnB (t : TL) (h : Addr → Option Obj) (K : Frag) (p : PySem.Str × FnDef) : Bool := refB h K p.1 (fnAtB h t.nam p.2)
noncomputable def globB (h : Addr → Option Obj) (p : PySem.Str × PyData) : Bool := oB (nsG h mainGlobals p.1) (readsB h p.2)
noncomputable def meB (t : TL) (h : Addr → Option Obj) (K : Frag) (m : Nat × PySem.Str × FnDef) : Bool := clsOkB K (clsOf t h m.1) && oB (findIn K (.ref (clsOf t h m.1)) m.2.1) fun o => oB o fun v => oB (pRef v) fun f =>
  methOkB K (clsOf t h m.1) m.2.1 f && (fnAtB h t.nam m.2.2 f && (!(m.2.1 == ("__init__" : PySem.Str)) || makesIn K (clsOf t h m.1)))
noncomputable def atB (t : TL) (h : Addr → Option Obj) (K : Frag) (p : Nat × PySem.Str) : Bool := clsOkB K (clsOf t h p.1) && attrOkB K (clsOf t h p.1) p.2
noncomputable def baseB (h : Addr → Option Obj) : Bool := (h sysModules).isSome && (isNsG h cStatics && ((nsG h cStatics "sys.recursionlimit").isNone && (isNsG h mainGlobals && isNsG h builtinsNs)))
noncomputable def bnIs : BN → Value → Bool
  | .list => isTypeV "list"
  | .tuple => isTypeV "tuple"
  | .dict => isTypeV "dict"
  | .len => isBltV "len"
  | .max => isBltV "max"
  | .abs => isBltV "abs"
  | .any => isBltV "any"
  | .repr => isBltV "repr"
  | .sorted => isBltV "sorted"
noncomputable def bns : List BN := [.list, .tuple, .dict, .len, .max, .abs, .any, .repr, .sorted]
noncomputable def factsK (t : TL) (h : Addr → Option Obj) (K : Frag) : Bool := baseB h && (bns.all (fun b => bltB h (bnOf b) (bnIs b)) && (bltB h "range" (isTypeV "range") && (bltB h "zip" (isTypeV "zip") && ((t.fn0 :: t.fns).all (fnB t h K) && ((t.cls0 :: t.cls).all (fun x => refB h K x fun _ => true) && ((t.glob0 :: t.globs).all (globB h) && (t.mes.all (meB t h K) && t.ats.all (atB t h K))))))))
noncomputable def factsB (t : TL) (h : Addr → Option Obj) : Bool := factsK t h (fragOf h)
noncomputable def codeAt (h : Addr → Option Obj) (a : Addr) : Option (Scope × List Stmt) := (h a).bind fun o => (funcOf o.data).bind fun fd => (stmtsOf fd.body).map fun b => (fd.scope, b)
noncomputable def codeF (h : Addr → Option Obj) (p : PySem.Str × FnDef) : Option (Scope × List Stmt) := ((nsG h mainGlobals p.1).bind pRef).bind (codeAt h)
noncomputable def codeM (t : TL) (h : Addr → Option Obj) (m : Nat × PySem.Str × FnDef) : Option (Scope × List Stmt) := (((findIn (fragOf h) (.ref (clsOf t h m.1)) m.2.1).bind id).bind pRef).bind (codeAt h)
noncomputable def okCode (N : Nam) (D : FnDef) (c : Option (Scope × List Stmt)) : Bool := oB c fun p => bSs N D.nm p.1 D.body p.2
noncomputable def seenB (t : TL) (h : Addr → Option Obj) : Bool × List (Option (Scope × List Stmt)) × List (Option (Scope × List Stmt)) := (factsB t h, (t.fn0 :: t.fns).map (codeF h), t.mes.map (codeM t h))
noncomputable def stCode : Stmt → Option (Scope × List Stmt)
  | .FunctionDef _ _ b _ _ _ sc _ _ _ => some (sc, b)
  | _ => none
noncomputable def stBody : Stmt → Option (List Stmt)
  | .ClassDef _ _ _ b _ _ _ _ _ _ _ => some b
  | _ => none
noncomputable def textF (l : List Stmt) (i : Nat) : Option (Scope × List Stmt) := l[i]?.bind stCode
noncomputable def textM (l : List Stmt) (i : Nat × Nat) : Option (Scope × List Stmt) := (l[i.1]?.bind stBody).bind fun b => textF b i.2
noncomputable def D_named : FnDef := { nm := ["name", "params"], np := 2, dfl := [(.tuple [])], body := (.cons (.ret (.tup (.cons (.const (.str "name")) (.cons (.var 0) (.cons (.callB .tuple (.cons (.var 1) .nil)) .nil))))) .nil) }
noncomputable def D_tuple_of : FnDef := { nm := ["kinds", "rest"], np := 2, dfl := [.none], body := (.cons (.ret (.tup (.cons (.const (.str "tuple")) (.cons (.callB .tuple (.cons (.var 0) .nil)) (.cons (.var 1) .nil))))) .nil) }
noncomputable def D_union_of : FnDef := { nm := ["kinds", "left", "found", "here"], np := 1, dfl := [], body := (.cons (.assign (.tg (.tup [1, 2])) (.tup (.cons (.slice (.callB .list (.cons (.var 0) .nil)) .rev) (.cons (.lst .nil) .nil)))) (.cons (.whileS 2000 (.cmp .ne (.var 1) (.lst .nil)) (.cons (.assign (.tg (.one 3)) (.callM (.var 1) "pop" .nil)) (.cons (.ifS (.cmp .eq (.sub (.var 3) (.const (.int 0))) (.const (.str "union"))) (.cons (.expr (.callM (.var 1) "extend" (.cons (.slice (.sub (.var 3) (.const (.int 1))) .rev) .nil))) .nil) (.cons (.ifS (.and (.cons (.cmp .ne (.var 3) (.glob 1)) (.cons (.cmp .notin (.var 3) (.var 2)) .nil))) (.cons (.expr (.callM (.var 2) "append" (.cons (.var 3) .nil))) .nil) .nil) .nil)) .nil))) (.cons (.ifS (.cmp .inn (.glob 0) (.var 2)) (.cons (.ret (.glob 0)) .nil) .nil) (.cons (.ifS (.cmp .eq (.var 2) (.lst .nil)) (.cons (.ret (.glob 1)) .nil) .nil) (.cons (.ret (.ite (.cmp .eq (.callB .len (.cons (.var 2) .nil)) (.const (.int 1))) (.sub (.var 2) (.const (.int 0))) (.tup (.cons (.const (.str "union")) (.cons (.callB .tuple (.cons (.sortK (.var 2) 9) .nil)) .nil))))) .nil))))) }
noncomputable def D_members_of : FnDef := { nm := ["kind"], np := 1, dfl := [], body := (.cons (.ifS (.cmp .eq (.var 0) (.glob 1)) (.cons (.ret (.lst .nil)) .nil) .nil) (.cons (.ret (.ite (.cmp .eq (.sub (.var 0) (.const (.int 0))) (.const (.str "union"))) (.callB .list (.cons (.sub (.var 0) (.const (.int 1))) .nil)) (.lst (.cons (.var 0) .nil)))) .nil)) }
noncomputable def D_parts_of_kind : FnDef := { nm := ["kind", "word"], np := 1, dfl := [], body := (.cons (.assign (.tg (.one 1)) (.sub (.var 0) (.const (.int 0)))) (.cons (.ifS (.cmp .eq (.var 1) (.const (.str "name"))) (.cons (.ret (.callB .list (.cons (.sub (.var 0) (.const (.int 2))) .nil))) .nil) .nil) (.cons (.ifS (.cmp .eq (.var 1) (.const (.str "tuple"))) (.cons (.ret (.bin .add (.callB .list (.cons (.sub (.var 0) (.const (.int 1))) .nil)) (.ite (.cmp .is_ (.sub (.var 0) (.const (.int 2))) (.const .none)) (.lst .nil) (.lst (.cons (.sub (.var 0) (.const (.int 2))) .nil))))) .nil) .nil) (.cons (.ifS (.cmp .eq (.var 1) (.const (.str "union"))) (.cons (.ret (.callB .list (.cons (.sub (.var 0) (.const (.int 1))) .nil))) .nil) .nil) (.cons (.ifS (.cmp .eq (.var 1) (.const (.str "all"))) (.cons (.ret (.lst (.cons (.sub (.var 0) (.const (.int 2))) (.cons (.sub (.var 0) (.const (.int 3))) (.cons (.sub (.var 0) (.const (.int 4))) .nil))))) .nil) .nil) (.cons (.ret (.ite (.cmp .eq (.var 1) (.const (.str "typeof"))) (.lst (.cons (.sub (.var 0) (.const (.int 1))) .nil)) (.lst .nil))) .nil)))))) }
noncomputable def D_substituted : FnDef := { nm := ["kind", "table", "parts"], np := 2, dfl := [], body := (.cons (.ifS (.cmp .eq (.sub (.var 0) (.const (.int 0))) (.const (.str "var"))) (.cons .bad .nil) .nil) (.cons (.ifS (.cmp .eq (.sub (.var 0) (.const (.int 0))) (.const (.str "all"))) (.cons .bad .nil) .nil) (.cons (.assign (.tg (.one 2)) (.callF 4 (.cons (.var 0) .nil))) (.cons (.ret (.ite (.cmp .eq (.var 2) (.lst .nil)) (.var 0) .bad)) .nil)))) }
noncomputable def D_free_vars : FnDef := { nm := ["kind", "found", "left", "here", "bound"], np := 1, dfl := [], body := (.cons (.assign (.tg (.tup [1, 2])) (.tup (.cons (.lst .nil) (.cons (.lst (.cons (.tup (.cons (.var 0) (.cons (.tup .nil) .nil))) .nil)) .nil)))) (.cons (.whileS 2000 (.cmp .ne (.var 2) (.lst .nil)) (.cons (.assign (.tg (.tup [3, 4])) (.callM (.var 2) "pop" .nil)) (.cons (.ifS (.cmp .eq (.sub (.var 3) (.const (.int 0))) (.const (.str "var"))) (.cons (.ifS (.and (.cons (.cmp .notin (.sub (.var 3) (.const (.int 1))) (.var 4)) (.cons (.cmp .notin (.sub (.var 3) (.const (.int 1))) (.var 1)) .nil))) (.cons (.expr (.callM (.var 1) "append" (.cons (.sub (.var 3) (.const (.int 1))) .nil))) .nil) .nil) .nil) (.cons (.ifS (.cmp .eq (.sub (.var 3) (.const (.int 0))) (.const (.str "all"))) (.cons .bad (.cons .bad .nil)) (.cons (.expr (.callM (.var 2) "extend" (.cons (.comp [4] (.tup (.cons (.var 1) (.cons (.var 0) .nil))) (.one 1) (.over (.slice (.callF 4 (.cons (.var 3) .nil)) .rev)) .nil) .nil))) .nil)) .nil)) .nil))) (.cons (.ret (.var 1)) .nil))) }
noncomputable def D_written_kind : FnDef := { nm := ["kind", "is_whole", "word", "some"], np := 2, dfl := [], body := (.cons (.assign (.tg (.one 2)) (.sub (.var 0) (.const (.int 0)))) (.cons (.assign (.tg (.one 3)) (.ite (.cmp .inn (.var 2) (.tup (.cons (.const (.str "name")) (.cons (.const (.str "tuple")) (.cons (.const (.str "union")) .nil))))) (.comp [1] (.callF 7 (.cons (.var 1) (.cons (.var 0) .nil))) (.one 1) (.over (.callF 4 (.cons (.var 0) .nil))) .nil) (.lst .nil))) (.cons (.ifS (.cmp .eq (.var 2) (.const (.str "name"))) (.cons (.ret (.bin .add (.sub (.var 0) (.const (.int 1))) (.ite (.cmp .ne (.var 3) (.lst .nil)) (.bin .add (.bin .add (.const (.str "{")) (.callM (.const (.str ", ")) "join" (.cons (.var 3) .nil))) (.const (.str "}"))) (.const (.str ""))))) .nil) .nil) (.cons (.ifS (.cmp .eq (.var 2) (.const (.str "tuple"))) (.cons (.ifS (.cmp .isnt (.sub (.var 0) (.const (.int 2))) (.const .none)) (.cons (.assign (.sub (.var 3) (.const (.int (-1)))) (.bin .add (.bin .add (.const (.str "Vararg{")) (.sub (.var 3) (.const (.int (-1))))) (.const (.str "}")))) .nil) .nil) (.cons (.ret (.bin .add (.bin .add (.const (.str "Tuple{")) (.callM (.const (.str ", ")) "join" (.cons (.var 3) .nil))) (.const (.str "}")))) .nil)) .nil) (.cons (.ifS (.cmp .eq (.var 2) (.const (.str "union"))) (.cons (.ret (.bin .add (.bin .add (.const (.str "Union{")) (.callM (.const (.str ", ")) "join" (.cons (.var 3) .nil))) (.const (.str "}")))) .nil) .nil) (.cons (.ifS (.cmp .eq (.var 2) (.const (.str "all"))) (.cons .bad .nil) .nil) (.cons (.ifS (.cmp .eq (.var 2) (.const (.str "typeof"))) (.cons .bad .nil) .nil) (.cons (.ifS (.cmp .eq (.var 2) (.const (.str "fn"))) (.cons .bad .nil) .nil) (.cons (.ifS (.cmp .eq (.var 2) (.const (.str "n"))) (.cons .bad .nil) .nil) (.cons .bad .nil)))))))))) }
noncomputable def D_kind_text : FnDef := { nm := ["kind"], np := 1, dfl := [], body := (.cons (.ret (.callF 7 (.cons (.var 0) (.cons (.const (.bool false)) .nil)))) .nil) }
noncomputable def D_kind_key : FnDef := { nm := ["kind"], np := 1, dfl := [], body := (.cons (.ret (.tup (.cons (.callF 8 (.cons (.var 0) .nil)) (.cons (.callF 7 (.cons (.var 0) (.cons (.const (.bool true)) .nil))) (.cons (.callB .repr (.cons (.var 0) .nil)) .nil))))) .nil) }
noncomputable def D_depth_of_kind : FnDef := { nm := ["kind", "deepest", "left", "here", "depth"], np := 1, dfl := [], body := (.cons (.assign (.tg (.tup [1, 2])) (.tup (.cons (.const (.int 0)) (.cons (.lst (.cons (.tup (.cons (.var 0) (.cons (.const (.int 1)) .nil))) .nil)) .nil)))) (.cons (.whileS 2000 (.cmp .ne (.var 2) (.lst .nil)) (.cons (.assign (.tg (.tup [3, 4])) (.callM (.var 2) "pop" .nil)) (.cons (.assign (.tg (.one 1)) (.callB .max (.cons (.var 1) (.cons (.var 4) .nil)))) (.cons (.expr (.callM (.var 2) "extend" (.cons (.comp [4] (.tup (.cons (.var 1) (.cons (.bin .add (.var 0) (.const (.int 1))) .nil))) (.one 1) (.over (.callF 4 (.cons (.var 3) .nil))) .nil) .nil))) .nil)))) (.cons (.ret (.var 1)) .nil))) }
noncomputable def D_size_of_kind : FnDef := { nm := ["kind", "many", "left"], np := 1, dfl := [], body := (.cons (.assign (.tg (.tup [1, 2])) (.tup (.cons (.const (.int 0)) (.cons (.lst (.cons (.var 0) .nil)) .nil)))) (.cons (.whileS 2000 (.cmp .ne (.var 2) (.lst .nil)) (.cons (.assign (.tg (.one 1)) (.bin .add (.var 1) (.const (.int 1)))) (.cons (.expr (.callM (.var 2) "extend" (.cons (.callF 4 (.cons (.callM (.var 2) "pop" .nil) .nil)) .nil))) .nil))) (.cons (.ret (.var 1)) .nil))) }
noncomputable def D_left_cases : FnDef := { nm := ["kind", "word", "found"], np := 1, dfl := [], body := (.cons (.assign (.tg (.one 1)) (.sub (.var 0) (.const (.int 0)))) (.cons (.ifS (.cmp .eq (.var 1) (.const (.str "union"))) (.cons (.assign (.tg (.one 2)) (.comp2 [] (.var 1) (.one 0) (.over (.sub (.var 0) (.const (.int 1)))) (.one 1) (.over (.callF 12 (.cons (.var 0) .nil))))) .nil) (.cons (.ifS (.cmp .eq (.var 1) (.const (.str "all"))) (.cons .bad .nil) (.cons (.ifS (.cmp .eq (.var 1) (.const (.str "tuple"))) (.cons (.assign (.tg (.one 2)) (.callF 13 (.cons (.var 0) .nil))) .nil) (.cons (.assign (.tg (.one 2)) (.lst (.cons (.var 0) .nil))) .nil)) .nil)) .nil)) (.cons (.ret (.ite (.cmp .le (.callB .len (.cons (.var 2) .nil)) (.glob 4)) (.var 2) (.lst (.cons (.var 0) .nil)))) .nil))) }
noncomputable def D_tuple_cases : FnDef := { nm := ["kind", "some", "many", "part", "rows", "cases", "row"], np := 1, dfl := [], body := (.cons (.assign (.tg (.tup [1, 2])) (.tup (.cons (.lst .nil) (.cons (.const (.int 1)) .nil)))) (.cons (.forS (.one 3) (.over (.sub (.var 0) (.const (.int 1)))) (.cons (.expr (.callM (.var 1) "append" (.cons (.callF 12 (.cons (.var 3) .nil)) .nil))) (.cons (.assign (.tg (.one 2)) (.bin .mul (.var 2) (.callB .len (.cons (.sub (.var 1) (.const (.int (-1)))) .nil)))) (.cons (.ifS (.cmp .gt (.var 2) (.glob 4)) (.cons (.ret (.lst (.cons (.var 0) .nil))) .nil) .nil) .nil)))) (.cons (.assign (.tg (.one 4)) (.lst (.cons (.lst .nil) .nil))) (.cons (.forS (.one 5) (.over (.var 1)) (.cons (.ifS (.cmp .eq (.callB .len (.cons (.var 5) .nil)) (.const (.int 1))) (.cons (.forS (.one 6) (.over (.var 4)) (.cons (.expr (.callM (.var 6) "append" (.cons (.sub (.var 5) (.const (.int 0))) .nil))) .nil)) .nil) (.cons (.assign (.tg (.one 4)) (.comp2 [5] (.bin .add (.var 1) (.lst (.cons (.var 2) .nil))) (.one 1) (.over (.var 4)) (.one 2) (.over (.var 0)))) .nil)) .nil)) (.cons (.ret (.comp [0] (.callF 1 (.cons (.var 1) (.cons (.sub (.var 0) (.const (.int 2))) .nil))) (.one 1) (.over (.var 4)) .nil)) .nil))))) }
noncomputable def D_is_empty : FnDef := { nm := ["kind"], np := 1, dfl := [], body := (.cons (.ifS (.cmp .eq (.sub (.var 0) (.const (.int 0))) (.const (.str "tuple"))) (.cons (.ret (.cmp .inn (.const (.bool true)) (.comp [] (.callF 14 (.cons (.var 0) .nil)) (.one 0) (.over (.sub (.var 0) (.const (.int 1)))) .nil))) .nil) .nil) (.cons (.ifS (.cmp .eq (.sub (.var 0) (.const (.int 0))) (.const (.str "all"))) (.cons (.ret (.callF 14 (.cons (.sub (.var 0) (.const (.int 4))) .nil))) .nil) .nil) (.cons (.ret (.cmp .eq (.var 0) (.glob 1))) .nil))) }
noncomputable def D_tail_of : FnDef := { nm := ["kind"], np := 1, dfl := [], body := (.cons (.ret (.ite (.and (.cons (.cmp .isnt (.sub (.var 0) (.const (.int 2))) (.const .none)) (.cons (.callF 14 (.cons (.sub (.var 0) (.const (.int 2))) .nil)) .nil))) (.const .none) (.sub (.var 0) (.const (.int 2))))) .nil) }
noncomputable def D_is_too_deep : FnDef := { nm := ["one", "other"], np := 2, dfl := [], body := (.cons (.ret (.or (.cons (.cmp .gt (.callF 10 (.cons (.var 0) .nil)) (.glob 5)) (.cons (.cmp .gt (.callF 10 (.cons (.var 1) .nil)) (.glob 5)) .nil)))) .nil) }
noncomputable def D_tuple_ways : FnDef := { nm := ["one", "other", "some", "tail", "wanted", "rest", "goals"], np := 2, dfl := [], body := (.cons (.assign (.tg (.tup [2, 3])) (.tup (.cons (.sub (.var 0) (.const (.int 1))) (.cons (.callF 15 (.cons (.var 0) .nil)) .nil)))) (.cons (.assign (.tg (.tup [4, 5])) (.tup (.cons (.sub (.var 1) (.const (.int 1))) (.cons (.callF 15 (.cons (.var 1) .nil)) .nil)))) (.cons (.ifS (.or (.cons (.cmp .lt (.callB .len (.cons (.var 2) .nil)) (.callB .len (.cons (.var 4) .nil))) (.cons (.and (.cons (.cmp .is_ (.var 5) (.const .none)) (.cons (.or (.cons (.cmp .isnt (.var 3) (.const .none)) (.cons (.cmp .gt (.callB .len (.cons (.var 2) .nil)) (.callB .len (.cons (.var 4) .nil))) .nil))) .nil))) .nil))) (.cons (.ret (.lst .nil)) .nil) .nil) (.cons (.assign (.tg (.one 6)) (.comp [2, 5, 4] (.tup (.cons (.const (.str "sub")) (.cons (.sub (.var 0) (.var 3)) (.cons (.ite (.cmp .lt (.var 3) (.callB .len (.cons (.var 2) .nil))) (.sub (.var 2) (.var 3)) (.var 1)) .nil)))) (.one 3) (.range (.callB .len (.cons (.var 2) .nil))) .nil)) (.cons (.ret (.lst (.cons (.bin .add (.var 6) (.ite (.cmp .is_ (.var 3) (.const .none)) (.lst .nil) (.lst (.cons (.tup (.cons (.const (.str "sub")) (.cons (.var 3) (.cons (.var 5) .nil)))) .nil)))) .nil))) .nil))))) }
noncomputable def D_is_subtype : FnDef := { nm := ["kinds", "one", "other", "fuel", "case", "search"], np := 4, dfl := [(.int 4000)], body := (.cons (.ifS (.or (.cons (.cmp .eq (.var 1) (.var 2)) (.cons (.cmp .eq (.var 2) (.glob 0)) .nil))) (.cons (.ret (.const (.bool true))) .nil) .nil) (.cons (.ifS (.callF 16 (.cons (.var 1) (.cons (.var 2) .nil))) (.cons (.ret (.const (.bool false))) .nil) .nil) (.cons (.forS (.one 4) (.over (.callF 12 (.cons (.var 1) .nil))) (.cons (.assign (.tg (.one 5)) (.callC 0 (.cons (.var 0) (.cons (.bin .add (.var 3) (.bin .mul (.const (.int 4)) (.bin .add (.callF 11 (.cons (.var 4) .nil)) (.callF 11 (.cons (.var 2) .nil))))) .nil)))) (.cons (.ifS (.cmp .is_ (.callM (.var 5) "run" (.cons (.lst (.cons (.tup (.cons (.const (.str "sub")) (.cons (.var 4) (.cons (.var 2) .nil)))) .nil)) (.cons (.callC 1 .nil) .nil))) (.const .none)) (.cons (.ret (.const (.bool false))) .nil) .nil) .nil))) (.cons (.ret (.const (.bool true))) .nil)))) }
noncomputable def D_kind_of : FnDef := { nm := ["heap", "value", "word"], np := 2, dfl := [], body := (.cons (.assign (.tg (.one 2)) (.sub (.var 1) (.const (.int 0)))) (.cons (.ifS (.cmp .eq (.var 2) (.const (.str "int"))) (.cons (.ret (.callF 0 (.cons (.sub (.var 1) (.const (.int 1))) .nil))) .nil) .nil) (.cons .bad (.cons (.ifS (.cmp .eq (.var 2) (.const (.str "type"))) (.cons .bad .nil) .nil) (.cons (.ifS (.cmp .eq (.var 2) (.const (.str "tuple"))) (.cons .bad .nil) .nil) (.cons .bad (.cons (.ifS (.cmp .inn (.var 2) (.tup (.cons (.const (.str "object")) (.cons (.const (.str "array")) (.cons (.const (.str "box")) .nil))))) (.cons .bad .nil) .nil) (.cons (.ifS (.cmp .eq (.var 2) (.const (.str "view"))) (.cons .bad .nil) .nil) (.cons (.ifS (.cmp .inn (.var 2) (.tup (.cons (.const (.str "fun")) (.cons (.const (.str "closure")) (.cons (.const (.str "builtin")) .nil))))) (.cons .bad .nil) .nil) (.cons .bad .nil)))))))))) }
noncomputable def D_kind_of_element : FnDef := { nm := ["element"], np := 1, dfl := [], body := (.cons (.ret (.ite (.cmp .eq (.sub (.var 0) (.const (.int 0))) (.const (.str "const"))) (.callF 19 (.cons (.const .none) (.cons (.sub (.var 0) (.const (.int 1))) .nil))) (.var 0))) .nil) }
noncomputable def D_is_within : FnDef := { nm := ["kinds", "one", "other"], np := 3, dfl := [], body := (.cons (.ifS (.or (.cons (.cmp .eq (.var 1) (.var 2)) (.cons (.cmp .eq (.var 1) (.glob 1)) .nil))) (.cons (.ret (.const (.bool true))) .nil) .nil) (.cons (.ifS (.or (.cons (.cmp .eq (.var 2) (.glob 1)) (.cons (.cmp .eq (.sub (.var 2) (.const (.int 0))) (.const (.str "const"))) .nil))) (.cons (.ret (.const (.bool false))) .nil) .nil) (.cons (.ret (.callF 18 (.cons (.var 0) (.cons (.callF 20 (.cons (.var 1) .nil)) (.cons (.var 2) .nil))))) .nil))) }
noncomputable def D_base_of : FnDef := { nm := ["kind"], np := 1, dfl := [], body := (.cons (.ifS (.cmp .eq (.sub (.var 0) (.const (.int 0))) (.const (.str "typeof"))) (.cons (.ret (.callF 0 (.cons (.const (.str "Type")) .nil))) .nil) .nil) (.cons (.ret (.ite (.cmp .eq (.sub (.var 0) (.const (.int 0))) (.const (.str "fn"))) (.callF 0 (.cons (.const (.str "Function")) .nil)) (.var 0))) .nil)) }
noncomputable def D_common : FnDef := { nm := ["kinds", "one", "other", "low", "high", "kind"], np := 3, dfl := [], body := (.cons (.ifS (.callF 18 (.cons (.var 0) (.cons (.var 1) (.cons (.var 2) .nil)))) (.cons (.ret (.var 2)) .nil) .nil) (.cons (.ifS (.callF 18 (.cons (.var 0) (.cons (.var 2) (.cons (.var 1) .nil)))) (.cons (.ret (.var 1)) .nil) .nil) (.cons (.ifS (.and (.cons (.cmp .eq (.sub (.var 1) (.const (.int 0))) (.const (.str "tuple"))) (.cons (.cmp .eq (.sub (.var 2) (.const (.int 0))) (.const (.str "tuple"))) .nil))) (.cons (.ret (.callF 25 (.cons (.var 0) (.cons (.var 1) (.cons (.var 2) .nil))))) .nil) .nil) (.cons (.assign (.tg (.tup [3, 4])) (.tup (.cons (.callF 22 (.cons (.var 1) .nil)) (.cons (.callF 22 (.cons (.var 2) .nil)) .nil)))) (.cons (.ifS (.or (.cons (.cmp .ne (.sub (.var 3) (.const (.int 0))) (.const (.str "name"))) (.cons (.cmp .ne (.sub (.var 4) (.const (.int 0))) (.const (.str "name"))) .nil))) (.cons (.ret (.glob 0)) .nil) .nil) (.cons (.forS (.one 5) (.over (.bin .add (.lst (.cons (.var 3) .nil)) (.callB .list (.cons (.callM (.var 0) "supers" (.cons (.var 3) .nil)) .nil)))) (.cons (.ifS (.callF 18 (.cons (.var 0) (.cons (.var 4) (.cons (.var 5) .nil)))) (.cons (.ret (.var 5)) .nil) .nil) .nil)) (.cons (.ret (.glob 0)) .nil))))))) }
noncomputable def D_common_all : FnDef := { nm := ["kinds", "some", "found", "kind"], np := 2, dfl := [], body := (.cons (.assign (.tg (.one 2)) (.glob 1)) (.cons (.forS (.one 3) (.over (.var 1)) (.cons (.assign (.tg (.one 2)) (.ite (.cmp .eq (.var 2) (.glob 1)) (.var 3) (.callF 23 (.cons (.var 0) (.cons (.var 2) (.cons (.var 3) .nil)))))) .nil)) (.cons (.ret (.var 2)) .nil))) }
noncomputable def D_common_tuple : FnDef := { nm := ["kinds", "one", "other", "some"], np := 3, dfl := [], body := (.cons (.ifS (.and (.cons (.cmp .is_ (.sub (.var 1) (.const (.int 2))) (.const .none)) (.cons (.cmp .is_ (.sub (.var 2) (.const (.int 2))) (.const .none)) (.cons (.cmp .eq (.callB .len (.cons (.sub (.var 1) (.const (.int 1))) .nil)) (.callB .len (.cons (.sub (.var 2) (.const (.int 1))) .nil))) .nil)))) (.cons (.ret (.callF 1 (.cons (.comp [0, 1, 2] (.callF 23 (.cons (.var 0) (.cons (.sub (.sub (.var 1) (.const (.int 1))) (.var 3)) (.cons (.sub (.sub (.var 2) (.const (.int 1))) (.var 3)) .nil)))) (.one 3) (.range (.callB .len (.cons (.sub (.var 1) (.const (.int 1))) .nil))) .nil) .nil))) .nil) .nil) (.cons (.assign (.tg (.one 3)) (.bin .add (.callB .list (.cons (.sub (.var 1) (.const (.int 1))) .nil)) (.callB .list (.cons (.sub (.var 2) (.const (.int 1))) .nil)))) (.cons (.expr (.callM (.var 3) "extend" (.cons (.comp [] (.var 0) (.one 0) (.over (.tup (.cons (.sub (.var 1) (.const (.int 2))) (.cons (.sub (.var 2) (.const (.int 2))) .nil)))) (.cons (.cmp .isnt (.var 0) (.const .none)) .nil)) .nil))) (.cons (.ret (.callF 1 (.cons (.tup .nil) (.cons (.callF 24 (.cons (.var 0) (.cons (.var 3) .nil))) .nil)))) .nil)))) }
noncomputable def D_cut_tuple : FnDef := { nm := ["kinds", "kind", "deep", "parts", "rest", "behind"], np := 3, dfl := [], body := (.cons (.ifS (.cmp .lt (.var 2) (.const (.int 2))) (.cons (.ret (.ite (.and (.cons (.cmp .eq (.sub (.var 1) (.const (.int 1))) (.tup .nil)) (.cons (.cmp .is_ (.sub (.var 1) (.const (.int 2))) (.const .none)) .nil))) (.var 1) (.glob 0))) .nil) .nil) (.cons (.assign (.tg (.one 3)) (.comp [0, 2] (.callF 28 (.cons (.var 0) (.cons (.var 2) (.cons (.bin .sub (.var 1) (.const (.int 1))) .nil)))) (.one 2) (.over (.sub (.var 1) (.const (.int 1)))) .nil)) (.cons (.assign (.tg (.one 4)) (.ite (.cmp .is_ (.sub (.var 1) (.const (.int 2))) (.const .none)) (.const .none) (.callF 28 (.cons (.var 0) (.cons (.sub (.var 1) (.const (.int 2))) (.cons (.bin .sub (.var 2) (.const (.int 1))) .nil)))))) (.cons (.ifS (.cmp .le (.callB .len (.cons (.var 3) .nil)) (.glob 8)) (.cons (.ret (.callF 1 (.cons (.var 3) (.cons (.var 4) .nil)))) .nil) .nil) (.cons (.assign (.tg (.one 5)) (.bin .add .bad (.ite (.cmp .is_ (.var 4) (.const .none)) (.lst .nil) (.lst (.cons (.var 4) .nil))))) (.cons (.ret (.callF 1 (.cons .bad (.cons (.callF 28 (.cons (.var 0) (.cons (.callF 24 (.cons (.var 0) (.cons (.var 5) .nil))) (.cons (.bin .sub (.var 2) (.const (.int 1))) .nil)))) .nil)))) .nil)))))) }
noncomputable def D_is_small : FnDef := { nm := ["kind", "deep"], np := 2, dfl := [], body := (.cons (.ret (.and (.cons (.cmp .le (.callF 10 (.cons (.var 0) .nil)) (.var 1)) (.cons (.cmp .le (.callF 11 (.cons (.var 0) .nil)) (.glob 9)) .nil)))) .nil) }
noncomputable def D_cut : FnDef := { nm := ["kinds", "kind", "deep", "found", "higher"], np := 3, dfl := [], body := (.cons (.ifS (.cmp .eq (.sub (.var 1) (.const (.int 0))) (.const (.str "tuple"))) (.cons (.ret (.callF 26 (.cons (.var 0) (.cons (.var 1) (.cons (.var 2) .nil))))) .nil) .nil) (.cons (.ifS (.cmp .eq (.sub (.var 1) (.const (.int 0))) (.const (.str "union"))) (.cons (.assign (.tg (.one 3)) (.callF 30 (.cons (.var 0) (.cons (.callF 2 (.cons (.comp [0, 2] (.callF 28 (.cons (.var 0) (.cons (.var 2) (.cons (.var 1) .nil)))) (.one 2) (.over (.callF 3 (.cons (.var 1) .nil))) .nil) .nil)) .nil)))) (.cons (.ret (.ite (.cmp .eq (.sub (.var 3) (.const (.int 0))) (.const (.str "union"))) (.var 3) (.callF 28 (.cons (.var 0) (.cons (.var 3) (.cons (.var 2) .nil)))))) .nil)) .nil) (.cons (.ifS (.callF 27 (.cons (.var 1) (.cons (.var 2) .nil))) (.cons (.ret (.var 1)) .nil) .nil) (.cons (.ifS (.cmp .eq (.sub (.var 1) (.const (.int 0))) (.const (.str "typeof"))) (.cons (.ret (.callF 0 (.cons (.const (.str "Type")) .nil))) .nil) .nil) (.cons (.ifS (.cmp .eq (.sub (.var 1) (.const (.int 0))) (.const (.str "name"))) (.cons (.forS (.one 4) (.over (.callM (.var 0) "supers" (.cons (.var 1) .nil))) (.cons (.ifS (.callF 27 (.cons (.var 4) (.cons (.var 2) .nil))) (.cons (.ret (.var 4)) .nil) .nil) .nil)) .nil) .nil) (.cons (.ret (.glob 0)) .nil)))))) }
noncomputable def D_pruned_members : FnDef := { nm := ["kinds", "kind", "kept", "member"], np := 2, dfl := [], body := (.cons (.assign (.tg (.one 2)) (.lst .nil)) (.cons (.forS (.one 3) (.over (.callF 3 (.cons (.var 1) .nil))) (.cons (.ifS (.not (.callB .any (.cons (.comp [0, 3] (.callF 18 (.cons (.var 0) (.cons (.var 1) (.cons (.var 2) .nil)))) (.one 2) (.over (.var 2)) .nil) .nil))) (.cons (.assign (.tg (.one 2)) (.bin .add (.comp [0, 3] (.var 2) (.one 2) (.over (.var 2)) (.cons (.not (.callF 18 (.cons (.var 0) (.cons (.var 2) (.cons (.var 1) .nil))))) .nil)) (.lst (.cons (.var 3) .nil)))) .nil) .nil) .nil)) (.cons (.ret (.var 2)) .nil))) }
noncomputable def D_few_members : FnDef := { nm := ["kinds", "kind", "members"], np := 2, dfl := [], body := (.cons (.assign (.tg (.one 2)) (.callF 29 (.cons (.var 0) (.cons (.var 1) .nil)))) (.cons (.ret (.ite (.cmp .le (.callB .len (.cons (.var 2) .nil)) (.glob 6)) (.callF 2 (.cons (.var 2) .nil)) (.callF 24 (.cons (.var 0) (.cons (.var 2) .nil))))) .nil)) }
noncomputable def D_widened_lattice : FnDef := { nm := ["kinds", "kind"], np := 2, dfl := [], body := (.cons (.ret (.callF 28 (.cons (.var 0) (.cons (.var 1) (.cons (.glob 7) .nil))))) .nil) }
noncomputable def D_joined : FnDef := { nm := ["kinds", "one", "other"], np := 3, dfl := [], body := (.cons (.ifS (.callF 21 (.cons (.var 0) (.cons (.var 2) (.cons (.var 1) .nil)))) (.cons (.ret (.var 1)) .nil) .nil) (.cons (.ifS (.callF 21 (.cons (.var 0) (.cons (.var 1) (.cons (.var 2) .nil)))) (.cons (.ret (.ite (.cmp .eq (.sub (.var 2) (.const (.int 0))) (.const (.str "const"))) (.var 2) (.callF 31 (.cons (.var 0) (.cons (.var 2) .nil))))) .nil) .nil) (.cons (.ret (.callF 31 (.cons (.var 0) (.cons (.callF 2 (.cons (.lst (.cons (.callF 20 (.cons (.var 1) .nil)) (.cons (.callF 20 (.cons (.var 2) .nil)) .nil))) .nil)) .nil)))) .nil))) }
noncomputable def D_is_too_large : FnDef := { nm := ["kind", "many", "left"], np := 1, dfl := [], body := (.cons (.assign (.tg (.tup [1, 2])) (.tup (.cons (.const (.int 0)) (.cons (.lst (.cons (.var 0) .nil)) .nil)))) (.cons (.whileS 2000 (.and (.cons (.cmp .ne (.var 2) (.lst .nil)) (.cons (.cmp .le (.var 1) (.glob 15)) .nil))) (.cons (.assign (.tg (.one 1)) (.bin .add (.var 1) (.const (.int 1)))) (.cons (.expr (.callM (.var 2) "extend" (.cons (.callF 4 (.cons (.callM (.var 2) "pop" .nil) .nil)) .nil))) .nil))) (.cons (.ret (.cmp .gt (.var 1) (.glob 15))) .nil))) }
noncomputable def D_nominal : FnDef := { nm := ["kinds", "name", "above", "is_abstract"], np := 4, dfl := [(.bool false)], body := (.cons (.expr (.callM (.var 0) "declare" (.cons (.callC 2 (.cons (.var 1) (.cons (.lst .nil) (.cons (.var 2) (.cons (.var 3) .nil))))) .nil))) .nil) }
noncomputable def D_start_kinds : FnDef := { nm := ["kinds", "name", "above"], np := 0, dfl := [], body := (.cons (.assign (.tg (.one 0)) (.callC 3 .nil)) (.cons (.forS (.one 1) (.over (.tup (.cons (.const (.str "Type")) (.cons (.const (.str "Function")) (.cons (.const (.str "Number")) (.cons (.const (.str "AbstractChar")) (.cons (.const (.str "AbstractString")) (.cons (.const (.str "Exception")) .nil)))))))) (.cons (.expr (.callF 34 (.cons (.var 0) (.cons (.var 1) (.cons (.glob 0) (.cons (.const (.bool true)) .nil)))))) .nil)) (.cons (.expr (.callF 34 (.cons (.var 0) (.cons (.const (.str "Real")) (.cons (.callF 0 (.cons (.const (.str "Number")) .nil)) (.cons (.const (.bool true)) .nil)))))) (.cons (.expr (.callF 34 (.cons (.var 0) (.cons (.const (.str "Integer")) (.cons (.callF 0 (.cons (.const (.str "Real")) .nil)) (.cons (.const (.bool true)) .nil)))))) (.cons (.expr (.callF 34 (.cons (.var 0) (.cons (.const (.str "Signed")) (.cons (.callF 0 (.cons (.const (.str "Integer")) .nil)) (.cons (.const (.bool true)) .nil)))))) (.cons (.expr (.callF 34 (.cons (.var 0) (.cons (.const (.str "Unsigned")) (.cons (.callF 0 (.cons (.const (.str "Integer")) .nil)) (.cons (.const (.bool true)) .nil)))))) (.cons (.forS (.one 1) (.over (.glob 10)) (.cons (.expr (.callF 34 (.cons (.var 0) (.cons (.var 1) (.cons (.callF 0 (.cons (.const (.str "Signed")) .nil)) .nil))))) .nil)) (.cons (.forS (.one 1) (.over (.glob 11)) (.cons (.expr (.callF 34 (.cons (.var 0) (.cons (.var 1) (.cons (.callF 0 (.cons (.const (.str "Unsigned")) .nil)) .nil))))) .nil)) (.cons (.forS (.tup [1, 2]) (.over (.tup (.cons (.tup (.cons (.const (.str "Bool")) (.cons (.const (.str "Integer")) .nil))) (.cons (.tup (.cons (.const (.str "Char")) (.cons (.const (.str "AbstractChar")) .nil))) (.cons (.tup (.cons (.const (.str "String")) (.cons (.const (.str "AbstractString")) .nil))) .nil))))) (.cons (.expr (.callF 34 (.cons (.var 0) (.cons (.var 1) (.cons (.callF 0 (.cons (.var 2) .nil)) .nil))))) .nil)) (.cons (.expr (.callF 34 (.cons (.var 0) (.cons (.const (.str "Symbol")) (.cons (.glob 0) .nil))))) (.cons (.expr (.callF 34 (.cons (.var 0) (.cons (.const (.str "Nothing")) (.cons (.glob 0) .nil))))) (.cons (.expr (.callM (.var 0) "declare" (.cons (.callC 2 (.cons (.const (.str "Expr")) (.cons (.lst .nil) (.cons (.glob 0) (.cons (.const (.bool false)) (.cons (.const (.bool true)) (.cons (.lst (.cons (.tup (.cons (.const (.str "head")) (.cons (.callF 0 (.cons (.const (.str "Symbol")) .nil)) .nil))) (.cons (.tup (.cons (.const (.str "args")) (.cons (.glob 0) .nil))) .nil))) .nil))))))) .nil))) (.cons (.expr (.callF 36 (.cons (.var 0) .nil))) (.cons (.expr (.callF 37 (.cons (.var 0) .nil))) (.cons (.ret (.var 0)) .nil))))))))))))))) }
noncomputable def D_start_errors : FnDef := { nm := ["kinds", "above", "name"], np := 1, dfl := [], body := (.cons (.assign (.tg (.one 1)) (.callF 0 (.cons (.const (.str "Exception")) .nil))) (.cons (.forS (.one 2) (.over (.glob 12)) (.cons (.expr (.callF 34 (.cons (.var 0) (.cons (.var 2) (.cons (.var 1) .nil))))) .nil)) (.cons (.forS (.one 2) (.over (.glob 13)) (.cons (.expr (.callM (.var 0) "declare" (.cons (.callC 2 (.cons (.var 2) (.cons (.lst .nil) (.cons (.var 1) (.cons (.const (.bool false)) (.cons (.const (.bool false)) (.cons (.lst (.cons (.tup (.cons (.const (.str "msg")) (.cons (.glob 0) .nil))) .nil)) .nil))))))) .nil))) .nil)) (.cons (.forS (.one 2) (.over (.glob 14)) (.cons (.expr (.callM (.var 0) "declare" (.cons (.callC 2 (.cons (.var 2) (.cons (.lst .nil) (.cons (.var 1) (.cons (.const (.bool false)) (.cons (.const (.bool false)) (.cons (.lst (.cons (.tup (.cons (.const (.str "f")) (.cons (.glob 0) .nil))) (.cons (.tup (.cons (.const (.str "args")) (.cons (.glob 0) .nil))) .nil))) .nil))))))) .nil))) .nil)) (.cons (.expr (.callM (.var 0) "declare" (.cons (.callC 2 (.cons (.const (.str "TypeError")) (.cons (.lst .nil) (.cons (.var 1) (.cons (.const (.bool false)) (.cons (.const (.bool false)) (.cons (.lst (.cons (.tup (.cons (.const (.str "func")) (.cons (.glob 0) .nil))) (.cons (.tup (.cons (.const (.str "expected")) (.cons (.glob 0) .nil))) (.cons (.tup (.cons (.const (.str "got")) (.cons (.glob 0) .nil))) .nil)))) .nil))))))) .nil))) (.cons (.expr (.callM (.var 0) "declare" (.cons (.callC 2 (.cons (.const (.str "InexactError")) (.cons (.lst .nil) (.cons (.var 1) (.cons (.const (.bool false)) (.cons (.const (.bool false)) (.cons (.lst (.cons (.tup (.cons (.const (.str "func")) (.cons (.glob 0) .nil))) (.cons (.tup (.cons (.const (.str "T")) (.cons (.glob 0) .nil))) (.cons (.tup (.cons (.const (.str "val")) (.cons (.glob 0) .nil))) .nil)))) .nil))))))) .nil))) (.cons (.expr (.callM (.var 0) "declare" (.cons (.callC 2 (.cons (.const (.str "UndefVarError")) (.cons (.lst .nil) (.cons (.var 1) (.cons (.const (.bool false)) (.cons (.const (.bool false)) (.cons (.lst (.cons (.tup (.cons (.const (.str "var")) (.cons (.glob 0) .nil))) .nil)) .nil))))))) .nil))) (.cons (.expr (.callM (.var 0) "declare" (.cons (.callC 2 (.cons (.const (.str "BoundsError")) (.cons (.lst .nil) (.cons (.var 1) (.cons (.const (.bool false)) (.cons (.const (.bool false)) (.cons (.lst (.cons (.tup (.cons (.const (.str "a")) (.cons (.glob 0) .nil))) (.cons (.tup (.cons (.const (.str "i")) (.cons (.glob 0) .nil))) .nil))) .nil))))))) .nil))) .nil)))))))) }
noncomputable def D_start_rows : FnDef := { nm := ["kinds", "anything", "item", "rank", "name", "one", "above", "whole"], np := 1, dfl := [], body := (.cons (.assign (.tg (.one 1)) (.lst (.cons (.tup (.cons (.const (.str "T.0")) (.cons (.glob 1) (.cons (.glob 0) .nil)))) (.cons (.tup (.cons (.const (.str "N.0")) (.cons (.glob 1) (.cons (.glob 0) .nil)))) .nil)))) (.cons (.assign (.tg (.tup [2, 3])) (.tup (.cons (.tup (.cons (.const (.str "var")) (.cons (.const (.str "T.0")) .nil))) (.cons (.tup (.cons (.const (.str "var")) (.cons (.const (.str "N.0")) .nil))) .nil)))) (.cons (.expr (.callM (.var 0) "declare" (.cons (.callC 2 (.cons (.const (.str "AbstractArray")) (.cons (.var 1) (.cons (.glob 0) (.cons (.const (.bool true)) .nil))))) .nil))) (.cons (.forS (.one 4) (.over (.tup (.cons (.const (.str "Array")) (.cons (.const (.str "SubArray")) .nil)))) (.cons (.expr (.callM (.var 0) "declare" (.cons (.callC 2 (.cons (.var 4) (.cons (.var 1) (.cons (.callF 0 (.cons (.const (.str "AbstractArray")) (.cons (.tup (.cons (.var 2) (.cons (.var 3) .nil))) .nil))) (.cons (.const (.bool false)) (.cons (.const (.bool true)) .nil)))))) .nil))) .nil)) (.cons (.assign (.tg (.one 5)) (.lst (.cons (.tup (.cons (.const (.str "T.0")) (.cons (.glob 1) (.cons (.glob 0) .nil)))) .nil))) (.cons (.expr (.callM (.var 0) "declare" (.cons (.callC 2 (.cons (.const (.str "AbstractRange")) (.cons (.var 5) (.cons (.callF 0 (.cons (.const (.str "AbstractArray")) (.cons (.tup (.cons (.var 2) (.cons (.tup (.cons (.const (.str "n")) (.cons (.const (.int 1)) .nil))) .nil))) .nil))) (.cons (.const (.bool true)) .nil))))) .nil))) (.cons (.assign (.tg (.one 6)) (.callF 0 (.cons (.const (.str "AbstractRange")) (.cons (.tup (.cons (.var 2) .nil)) .nil)))) (.cons (.expr (.callM (.var 0) "declare" (.cons (.callC 2 (.cons (.const (.str "UnitRange")) (.cons (.var 5) (.cons (.var 6) (.cons (.const (.bool false)) (.cons (.const (.bool false)) (.cons (.lst (.cons (.tup (.cons (.const (.str "start")) (.cons (.var 2) .nil))) (.cons (.tup (.cons (.const (.str "stop")) (.cons (.var 2) .nil))) .nil))) .nil))))))) .nil))) (.cons (.expr (.callM (.var 0) "declare" (.cons (.callC 2 (.cons (.const (.str "StepRange")) (.cons (.var 5) (.cons (.var 6) (.cons (.const (.bool false)) (.cons (.const (.bool false)) (.cons (.lst (.cons (.tup (.cons (.const (.str "start")) (.cons (.var 2) .nil))) (.cons (.tup (.cons (.const (.str "step")) (.cons (.var 2) .nil))) (.cons (.tup (.cons (.const (.str "stop")) (.cons (.var 2) .nil))) .nil)))) .nil))))))) .nil))) (.cons (.expr (.callM (.var 0) "declare" (.cons (.callC 2 (.cons (.const (.str "Ref")) (.cons (.var 5) (.cons (.glob 0) (.cons (.const (.bool false)) (.cons (.const (.bool true)) (.cons (.lst (.cons (.tup (.cons (.const (.str "x")) (.cons (.var 2) .nil))) .nil)) .nil))))))) .nil))) (.cons (.assign (.tg (.one 7)) (.lst (.cons (.tup (.cons (.const (.str "T.0")) (.cons (.glob 1) (.cons (.callF 0 (.cons (.const (.str "Integer")) .nil)) .nil)))) .nil))) (.cons (.expr (.callM (.var 0) "declare" (.cons (.callC 2 (.cons (.const (.str "Rational")) (.cons (.var 7) (.cons (.callF 0 (.cons (.const (.str "Real")) .nil)) (.cons (.const (.bool false)) (.cons (.const (.bool false)) (.cons (.lst (.cons (.tup (.cons (.const (.str "num")) (.cons (.var 2) .nil))) (.cons (.tup (.cons (.const (.str "den")) (.cons (.var 2) .nil))) .nil))) .nil))))))) .nil))) .nil)))))))))))) }
noncomputable def D_law_tank : FnDef := { nm := ["script", "number"], np := 1, dfl := [], body := (.cons (.assign (.tg (.one 1)) (.ite (.cmp .ne (.var 0) (.lst .nil)) (.callB .abs (.cons (.sub (.var 0) (.const (.int 0))) .nil)) (.const (.int 0)))) (.cons (.ret (.lst (.cons (.var 1) (.cons (.bin .mod (.bin .mul (.bin .add (.bin .mod (.var 1) (.const (.int 1000889))) (.const (.int 149))) (.const (.int 139))) (.const (.int 1998127))) (.cons (.var 1) .nil))))) .nil)) }
noncomputable def D_law_poured : FnDef := { nm := ["tank", "many", "got"], np := 2, dfl := [], body := (.cons (.ifS (.cmp .eq (.sub (.var 0) (.const (.int 2))) (.const (.int 0))) (.cons (.ret (.const (.int 0))) .nil) .nil) (.cons (.assign (.sub (.var 0) (.const (.int 1))) (.bin .mod (.bin .add (.bin .mul (.sub (.var 0) (.const (.int 1))) (.const (.int 7949))) (.const (.int 443))) (.const (.int 1998127)))) (.cons (.assign (.tg (.one 2)) (.bin .mod (.bin .add (.sub (.var 0) (.const (.int 0))) (.bin .fdiv (.sub (.var 0) (.const (.int 1))) (.const (.int 113)))) (.var 1))) (.cons (.assign (.sub (.var 0) (.const (.int 0))) (.bin .fdiv (.sub (.var 0) (.const (.int 0))) (.var 1))) (.cons (.ret (.var 2)) .nil))))) }
noncomputable def D_law_element : FnDef := { nm := ["tank", "forms", "names", "way"], np := 3, dfl := [], body := (.cons (.assign (.tg (.one 3)) (.callF 39 (.cons (.var 0) (.cons (.const (.int 5)) .nil)))) (.cons (.ifS (.cmp .lt (.var 3) (.const (.int 2))) (.cons (.ret (.sub (.var 1) (.var 3))) .nil) .nil) (.cons (.ifS (.cmp .eq (.var 3) (.const (.int 2))) (.cons (.ret (.callF 0 (.cons (.sub (.var 2) (.callF 39 (.cons (.var 0) (.cons (.callB .len (.cons (.var 2) .nil)) .nil)))) .nil))) .nil) .nil) (.cons (.ifS (.cmp .eq (.var 3) (.const (.int 3))) (.cons (.ret (.callF 1 (.cons (.comp [2, 0] (.callF 0 (.cons (.sub (.var 0) (.callF 39 (.cons (.var 1) (.cons (.callB .len (.cons (.var 0) .nil)) .nil)))) .nil)) (.one 2) (.range (.bin .add (.const (.int 1)) (.callF 39 (.cons (.var 0) (.cons (.const (.int 2)) .nil))))) .nil) (.cons (.const .none) .nil)))) .nil) .nil) (.cons (.ret (.tup (.cons (.const (.str "const")) (.cons (.tup (.cons (.const (.str "int")) (.cons (.const (.str "Int64")) (.cons (.callF 39 (.cons (.var 0) (.cons (.const (.int 3)) .nil))) .nil)))) .nil)))) .nil))))) }
noncomputable def D_law : FnDef := { nm := ["script", "tank", "kinds", "names", "one", "other", "last", "whole", "apart", "row", "known", "element"], np := 1, dfl := [], body := (.cons (.assign (.tg (.tup [1, 2])) (.tup (.cons (.callF 38 (.cons (.var 0) .nil)) (.cons (.callF 35 .nil) .nil)))) (.cons (.assign (.tg (.one 3)) (.lst (.cons (.const (.str "Int8")) (.cons (.const (.str "Char")) (.cons (.const (.str "Int64")) (.cons (.const (.str "String")) (.cons (.const (.str "Integer")) .nil))))))) (.cons (.assign (.tg (.one 4)) (.sub (.var 3) (.callF 39 (.cons (.var 1) (.cons (.const (.int 2)) .nil))))) (.cons (.assign (.tg (.one 5)) (.sub (.comp [4] (.var 1) (.one 1) (.over (.var 3)) (.cons (.cmp .ne (.var 1) (.var 0)) .nil)) (.callF 39 (.cons (.var 1) (.cons (.const (.int 4)) .nil))))) (.cons (.assign (.tg (.one 6)) (.callF 0 (.cons (.sub (.var 3) (.callF 39 (.cons (.var 1) (.cons (.const (.int 5)) .nil)))) .nil))) (.cons (.assign (.tg (.one 7)) (.callF 1 (.cons (.lst (.cons (.callF 2 (.cons (.lst (.cons (.callF 0 (.cons (.var 4) .nil)) (.cons (.callF 0 (.cons (.var 5) .nil)) .nil))) .nil)) (.cons (.var 6) .nil))) (.cons (.const .none) .nil)))) (.cons (.assign (.tg (.one 8)) (.callF 2 (.cons (.lst (.cons (.callF 1 (.cons (.lst (.cons (.callF 0 (.cons (.var 4) .nil)) (.cons (.var 6) .nil))) (.cons (.const .none) .nil))) (.cons (.callF 1 (.cons (.lst (.cons (.callF 0 (.cons (.var 5) .nil)) (.cons (.var 6) .nil))) (.cons (.const .none) .nil))) .nil))) .nil))) (.cons (.ifS (.or (.cons (.cmp .ne (.callF 32 (.cons (.var 2) (.cons (.var 7) (.cons (.var 8) .nil)))) (.var 7)) (.cons (.cmp .ne (.callF 32 (.cons (.var 2) (.cons (.var 8) (.cons (.var 7) .nil)))) (.var 8)) .nil))) (.cons (.ret (.const (.bool false))) .nil) .nil) (.cons (.assign (.tg (.one 9)) (.comp [1, 3, 7, 8] (.callF 40 (.cons (.var 0) (.cons (.lst (.cons (.var 2) (.cons (.var 3) .nil))) (.cons (.var 1) .nil)))) (.one 4) (.range (.callF 39 (.cons (.var 1) (.cons (.const (.int 5)) .nil)))) .nil)) (.cons (.assign (.tg (.one 10)) (.var 8)) (.cons (.forS (.one 11) (.over (.var 9)) (.cons (.assign (.tg (.one 10)) (.callF 32 (.cons (.var 2) (.cons (.var 10) (.cons (.var 11) .nil))))) .nil)) (.cons (.ret (.cmp .eq (.comp [10, 2] (.var 2) (.one 2) (.over (.var 9)) (.cons (.cmp .ne (.callF 32 (.cons (.var 1) (.cons (.var 0) (.cons (.var 2) .nil)))) (.var 0)) .nil)) (.lst .nil))) .nil)))))))))))) }
noncomputable def D_Search_init : FnDef := { nm := ["self", "kinds", "fuel"], np := 3, dfl := [], body := (.cons (.assign (.attr (.var 0) "kinds") (.var 1)) (.cons (.assign (.attr (.var 0) "fuel") (.var 2)) (.cons (.assign (.attr (.var 0) "known") .dict0) .nil))) }
noncomputable def D_Search_run : FnDef := { nm := ["self", "goals", "sides", "waiting", "left", "here", "found"], np := 3, dfl := [], body := (.cons (.assign (.tg (.one 3)) (.lst (.cons (.tup (.cons (.callB .list (.cons (.var 1) .nil)) (.cons (.var 2) .nil))) .nil))) (.cons (.whileS 2000 (.and (.cons (.cmp .ne (.var 3) (.lst .nil)) (.cons (.cmp .gt (.attr (.var 0) "fuel") (.const (.int 0))) .nil))) (.cons (.assign (.tg (.tup [4, 5])) (.callM (.var 3) "pop" .nil)) (.cons (.assign (.tg (.one 6)) (.callM (.var 0) "settled" (.cons (.var 4) (.cons (.var 5) (.cons (.var 3) .nil))))) (.cons (.ifS (.cmp .isnt (.var 6) (.const .none)) (.cons (.ret (.var 6)) .nil) .nil) .nil)))) (.cons (.ret (.const .none)) .nil))) }
noncomputable def D_Search_settled : FnDef := { nm := ["self", "left", "sides", "waiting", "goal", "ways", "way"], np := 4, dfl := [], body := (.cons (.whileS 2000 (.cmp .ne (.var 1) (.lst .nil)) (.cons (.assign (.attr (.var 0) "fuel") (.bin .sub (.attr (.var 0) "fuel") (.const (.int 1)))) (.cons (.assign (.tg (.one 4)) (.callM (.var 1) "pop" .nil)) (.cons (.assign (.tg (.one 5)) (.ite (.cmp .ge (.attr (.var 0) "fuel") (.const (.int 0))) (.callM (.var 0) "step" (.cons (.var 4) (.cons (.var 2) .nil))) (.lst .nil))) (.cons (.ifS (.and (.cons (.cmp .gt (.callB .len (.cons (.var 5) .nil)) (.const (.int 1))) (.cons (.not (.callM (.var 2) "has_asked" (.cons (.slice (.var 4) .tl) .nil))) .nil))) (.cons (.assign (.tg (.one 5)) (.ite (.callM (.var 0) "holds" (.cons (.var 4) (.cons (.var 5) (.cons (.var 2) .nil)))) (.lst (.cons (.lst .nil) .nil)) (.lst .nil))) .nil) .nil) (.cons (.ifS (.cmp .eq (.var 5) (.lst .nil)) (.cons (.ret (.const .none)) .nil) .nil) (.cons (.forS (.one 6) (.over (.slice (.var 5) .rtl)) (.cons .bad .nil)) (.cons (.expr (.callM (.var 1) "extend" (.cons (.sub (.var 5) (.const (.int 0))) .nil))) .nil)))))))) (.cons (.ret (.ite (.callM (.var 0) "are_concrete" (.cons (.var 2) .nil)) (.var 2) (.const .none))) .nil)) }
noncomputable def D_Search_holds : FnDef := { nm := ["self", "goal", "ways", "sides", "is_closed", "found", "way"], np := 4, dfl := [], body := (.cons (.ifS (.cmp .inn (.var 1) (.attr (.var 0) "known")) (.cons .bad .nil) .nil) (.cons (.assign (.tg (.tup [4, 5])) (.tup (.cons (.and (.cons (.cmp .eq (.callF 6 (.cons (.sub (.var 1) (.const (.int 1))) .nil)) (.lst .nil)) (.cons (.cmp .eq (.callF 6 (.cons (.sub (.var 1) (.const (.int 2))) .nil)) (.lst .nil)) .nil))) (.cons (.const (.bool false)) .nil)))) (.cons (.forS (.one 6) (.over (.var 2)) (.cons (.assign (.tg (.one 5)) (.or (.cons (.var 5) (.cons (.cmp .isnt (.callM (.var 0) "run" (.cons (.var 6) (.cons (.ite (.var 4) (.callC 1 .nil) (.callM (.var 3) "copied" .nil)) .nil))) (.const .none)) .nil)))) .nil)) (.cons (.ifS (.var 4) (.cons (.assign (.sub (.attr (.var 0) "known") (.var 1)) (.var 5)) .nil) .nil) (.cons (.ret (.var 5)) .nil))))) }
noncomputable def D_Search_step : FnDef := { nm := ["self", "goal", "sides", "word", "one", "other"], np := 3, dfl := [], body := (.cons (.assign (.tg (.tup [3, 4, 5])) (.var 1)) (.cons (.ifS (.cmp .eq (.var 4) (.var 5)) (.cons (.ret (.lst (.cons (.lst .nil) .nil))) .nil) .nil) (.cons (.ifS (.cmp .inn (.const (.str "n")) (.tup (.cons (.sub (.var 4) (.const (.int 0))) (.cons (.sub (.var 5) (.const (.int 0))) .nil)))) (.cons .bad .nil) .nil) (.cons (.ifS (.cmp .eq (.var 3) (.const (.str "same"))) (.cons .bad .nil) .nil) (.cons (.ifS (.or (.cons (.callF 14 (.cons (.var 4) .nil)) (.cons (.cmp .eq (.var 5) (.glob 0)) .nil))) (.cons (.ret (.lst (.cons (.lst .nil) .nil))) .nil) .nil) (.cons (.ifS (.callM (.var 2) "is_asked" (.cons (.var 4) .nil)) (.cons .bad .nil) .nil) (.cons (.ifS (.callM (.var 2) "is_asked" (.cons (.var 5) .nil)) (.cons .bad .nil) .nil) (.cons (.ret (.callM (.var 0) "by_form" (.cons (.var 4) (.cons (.var 5) (.cons (.var 2) .nil))))) .nil)))))))) }
noncomputable def D_Search_by_form : FnDef := { nm := ["self", "one", "other", "sides", "cases", "parts", "ways", "upper", "lower"], np := 4, dfl := [], body := (.cons (.ifS (.cmp .eq (.sub (.var 1) (.const (.int 0))) (.const (.str "union"))) (.cons (.ret (.lst (.cons (.comp [2] (.tup (.cons (.const (.str "sub")) (.cons (.var 1) (.cons (.var 0) .nil)))) (.one 1) (.over (.sub (.var 1) (.const (.int 1)))) .nil) .nil))) .nil) .nil) (.cons (.assign (.tg (.one 4)) (.ite (.and (.cons (.cmp .inn (.sub (.var 1) (.const (.int 0))) (.tup (.cons (.const (.str "tuple")) (.cons (.const (.str "all")) .nil)))) (.cons (.cmp .inn (.sub (.var 2) (.const (.int 0))) (.tup (.cons (.const (.str "union")) (.cons (.const (.str "all")) .nil)))) .nil))) (.callF 12 (.cons (.var 1) .nil)) (.lst (.cons (.var 1) .nil)))) (.cons (.ifS (.cmp .ne (.var 4) (.lst (.cons (.var 1) .nil))) (.cons .bad .nil) .nil) (.cons (.ifS (.cmp .eq (.sub (.var 1) (.const (.int 0))) (.const (.str "all"))) (.cons .bad .nil) .nil) (.cons (.ifS (.cmp .eq (.sub (.var 2) (.const (.int 0))) (.const (.str "union"))) (.cons (.assign (.tg (.one 5)) (.bin .add (.comp [3] (.var 1) (.one 1) (.over (.sub (.var 2) (.const (.int 1)))) (.cons (.not (.callM (.var 0) "is_asked" (.cons (.var 1) .nil))) .nil)) (.comp [3] (.var 1) (.one 1) (.over (.sub (.var 2) (.const (.int 1)))) (.cons (.callM (.var 0) "is_asked" (.cons (.var 1) .nil)) .nil)))) (.cons (.assign (.tg (.one 6)) (.comp [1] (.lst (.cons (.tup (.cons (.const (.str "sub")) (.cons (.var 0) (.cons (.var 1) .nil)))) .nil)) (.one 1) (.over (.var 5)) .nil)) (.cons (.ret (.bin .add (.var 6) (.ite (.cmp .eq (.sub (.var 1) (.const (.int 0))) (.const (.str "var"))) (.lst (.cons (.lst (.cons (.tup (.cons (.const (.str "sub")) (.cons (.callM (.callM (.var 3) "side" (.cons (.sub (.var 1) (.const (.int 1))) .nil)) "upper" .nil) (.cons (.var 2) .nil)))) .nil)) .nil)) (.lst .nil)))) .nil))) .nil) (.cons (.ifS (.cmp .eq (.sub (.var 2) (.const (.int 0))) (.const (.str "all"))) (.cons .bad (.cons .bad .nil)) .nil) (.cons (.ifS (.cmp .eq (.sub (.var 1) (.const (.int 0))) (.const (.str "var"))) (.cons .bad (.cons .bad (.cons .bad .nil))) .nil) (.cons (.ifS (.cmp .eq (.sub (.var 2) (.const (.int 0))) (.const (.str "var"))) (.cons .bad (.cons .bad .nil)) .nil) (.cons (.ret (.callM (.var 0) "plain" (.cons (.var 1) (.cons (.var 2) .nil)))) .nil))))))))) }
noncomputable def D_Search_plain : FnDef := { nm := ["self", "one", "other", "words"], np := 3, dfl := [], body := (.cons (.assign (.tg (.one 3)) (.tup (.cons (.sub (.var 1) (.const (.int 0))) (.cons (.sub (.var 2) (.const (.int 0))) .nil)))) (.cons (.ifS (.cmp .eq (.var 3) (.tup (.cons (.const (.str "name")) (.cons (.const (.str "name")) .nil)))) (.cons (.ret (.callM (.var 0) "nominal" (.cons (.var 1) (.cons (.var 2) .nil)))) .nil) .nil) (.cons (.ifS (.cmp .eq (.var 3) (.tup (.cons (.const (.str "tuple")) (.cons (.const (.str "tuple")) .nil)))) (.cons (.ret (.callF 17 (.cons (.var 1) (.cons (.var 2) .nil)))) .nil) .nil) (.cons (.ifS (.cmp .eq (.var 3) (.tup (.cons (.const (.str "typeof")) (.cons (.const (.str "typeof")) .nil)))) (.cons (.ret (.lst (.cons (.lst (.cons (.tup (.cons (.const (.str "same")) (.cons (.sub (.var 1) (.const (.int 1))) (.cons (.sub (.var 2) (.const (.int 1))) .nil)))) .nil)) .nil))) .nil) .nil) (.cons (.ifS (.or (.cons (.and (.cons (.cmp .eq (.sub (.var 1) (.const (.int 0))) (.const (.str "typeof"))) (.cons (.cmp .eq (.var 2) (.glob 2)) .nil))) (.cons (.and (.cons (.cmp .eq (.sub (.var 1) (.const (.int 0))) (.const (.str "fn"))) (.cons (.cmp .eq (.var 2) (.glob 3)) .nil))) .nil))) (.cons (.ret (.lst (.cons (.lst .nil) .nil))) .nil) .nil) (.cons (.ret (.lst .nil)) .nil)))))) }
noncomputable def D_Search_nominal : FnDef := { nm := ["self", "one", "other", "above"], np := 3, dfl := [], body := (.cons (.forS (.one 3) (.over (.callM (.attr (.var 0) "kinds") "supers" (.cons (.var 1) .nil))) (.cons (.ifS (.cmp .eq (.sub (.var 3) (.const (.int 1))) (.sub (.var 2) (.const (.int 1)))) (.cons (.ret (.lst (.cons (.comp [] (.tup (.cons (.const (.str "same")) (.cons (.var 0) (.cons (.var 1) .nil)))) (.tup [0, 1]) (.zip (.sub (.var 3) (.const (.int 2))) (.sub (.var 2) (.const (.int 2)))) .nil) .nil))) .nil) .nil) .nil)) (.cons (.ret (.lst .nil)) .nil)) }
noncomputable def D_Search_are_concrete : FnDef := { nm := ["self", "sides", "name", "side"], np := 2, dfl := [], body := (.cons (.forS (.one 2) (.over (.callB .sorted (.cons (.attr (.var 1) "rows") .nil))) (.cons .bad (.cons .bad .nil))) (.cons (.ret (.const (.bool true))) .nil)) }
noncomputable def D_Sides_init : FnDef := { nm := ["self", "rows", "many"], np := 3, dfl := [.none, (.int 0)], body := (.cons (.assign (.attr (.var 0) "rows") (.ite (.cmp .is_ (.var 1) (.const .none)) .dict0 (.var 1))) (.cons (.assign (.attr (.var 0) "many") (.var 2)) .nil)) }
noncomputable def D_Sides_is_asked : FnDef := { nm := ["self", "kind"], np := 2, dfl := [], body := (.cons (.ret (.and (.cons (.cmp .eq (.sub (.var 1) (.const (.int 0))) (.const (.str "var"))) (.cons (.attr (.callM (.var 0) "side" (.cons (.sub (.var 1) (.const (.int 1))) .nil)) "is_asked") .nil)))) .nil) }
noncomputable def D_Sides_has_asked : FnDef := { nm := ["self", "kinds", "left", "met", "name", "side"], np := 2, dfl := [], body := (.cons (.assign (.tg (.tup [2, 3])) (.tup (.cons (.comp2 [] (.var 1) (.one 0) (.over (.var 1)) (.one 1) (.over (.callF 6 (.cons (.var 0) .nil)))) (.cons (.lst .nil) .nil)))) (.cons (.whileS 2000 (.cmp .ne (.var 2) (.lst .nil)) (.cons .bad (.cons .bad (.cons .bad (.cons .bad .nil))))) (.cons (.ret (.const (.bool false))) .nil))) }
noncomputable def D_Decl_init : FnDef := { nm := ["self", "name", "params", "above", "is_abstract", "is_mutable", "fields"], np := 7, dfl := [(.bool false), (.tuple [])], body := (.cons (.assign (.attr (.var 0) "name") (.var 1)) (.cons (.assign (.attr (.var 0) "params") (.callB .list (.cons (.var 2) .nil))) (.cons (.assign (.attr (.var 0) "super") (.var 3)) (.cons (.assign (.attr (.var 0) "is_abstract") (.var 4)) (.cons (.assign (.attr (.var 0) "is_mutable") (.var 5)) (.cons (.assign (.attr (.var 0) "fields") (.callB .list (.cons (.var 6) .nil))) .nil)))))) }
noncomputable def D_Decl_table_for : FnDef := { nm := ["self", "params"], np := 2, dfl := [], body := (.cons (.ret (.callB .dict (.cons (.comp [] (.tup (.cons (.sub (.var 0) (.const (.int 0))) (.cons (.var 1) .nil))) (.tup [0, 1]) (.zip (.attr (.var 0) "params") (.var 1)) .nil) .nil))) .nil) }
noncomputable def D_Kinds_init : FnDef := { nm := ["self"], np := 1, dfl := [], body := (.cons (.assign (.attr (.var 0) "decls") (.dict1 (.const (.str "Any")) (.callC 2 (.cons (.const (.str "Any")) (.cons (.lst .nil) (.cons (.const .none) (.cons (.const (.bool true)) .nil))))))) .nil) }
noncomputable def D_Kinds_declare : FnDef := { nm := ["self", "decl", "above", "own", "wild", "variable", "lower", "upper", "name", "kind"], np := 2, dfl := [], body := (.cons (.ifS (.cmp .inn (.attr (.var 1) "name") (.attr (.var 0) "decls")) (.cons .bad .nil) .nil) (.cons (.assign (.tg (.one 2)) (.attr (.var 1) "super")) (.cons (.ifS (.or (.cons (.cmp .ne (.sub (.var 2) (.const (.int 0))) (.const (.str "name"))) (.cons (.cmp .notin (.sub (.var 2) (.const (.int 1))) (.attr (.var 0) "decls")) (.cons (.not (.attr (.sub (.attr (.var 0) "decls") (.sub (.var 2) (.const (.int 1)))) "is_abstract")) .nil)))) (.cons .bad .nil) .nil) (.cons (.ifS (.or (.cons (.cmp .eq (.var 2) (.glob 2)) (.cons (.cmp .ne (.callB .len (.cons (.sub (.var 2) (.const (.int 2))) .nil)) (.callB .len (.cons (.attr (.sub (.attr (.var 0) "decls") (.sub (.var 2) (.const (.int 1)))) "params") .nil))) .nil))) (.cons .bad .nil) .nil) (.cons (.assign (.tg (.tup [3, 4])) (.tup (.cons (.lst .nil) (.cons (.lst .nil) .nil)))) (.cons (.forS (.tup [5, 6, 7]) (.over (.attr (.var 1) "params")) (.cons (.assign (.tg (.one 4)) (.bin .add (.var 4) (.comp [3] (.var 1) (.one 1) (.over (.bin .add (.callF 6 (.cons (.var 6) .nil)) (.callF 6 (.cons (.var 7) .nil)))) (.cons (.cmp .notin (.var 1) (.var 0)) .nil)))) (.cons (.assign (.tg (.one 4)) (.bin .add (.var 4) (.ite (.cmp .inn (.var 5) (.var 3)) (.lst (.cons (.var 5) .nil)) (.lst .nil)))) (.cons (.expr (.callM (.var 3) "append" (.cons (.var 5) .nil))) .nil)))) (.cons (.assign (.tg (.one 4)) (.bin .add (.var 4) (.comp [3] (.var 1) (.one 1) (.over (.callF 6 (.cons (.var 2) .nil))) (.cons (.cmp .notin (.var 1) (.var 0)) .nil)))) (.cons (.forS (.tup [8, 9]) (.over (.attr (.var 1) "fields")) (.cons (.assign (.tg (.one 4)) (.bin .add (.var 4) (.comp [3] (.var 1) (.one 1) (.over (.callF 6 (.cons (.var 9) .nil))) (.cons (.cmp .notin (.var 1) (.var 0)) .nil)))) .nil)) (.cons (.ifS (.or (.cons (.cmp .ne (.var 4) (.lst .nil)) (.cons (.cmp .ne (.callB .len (.cons (.callB .dict (.cons (.attr (.var 1) "fields") .nil)) .nil)) (.callB .len (.cons (.attr (.var 1) "fields") .nil))) .nil))) (.cons .bad .nil) .nil) (.cons (.assign (.sub (.attr (.var 0) "decls") (.attr (.var 1) "name")) (.var 1)) .nil)))))))))) }
noncomputable def D_Kinds_is_declared : FnDef := { nm := ["self", "name"], np := 2, dfl := [], body := (.cons (.ret (.cmp .inn (.var 1) (.attr (.var 0) "decls"))) .nil) }
noncomputable def D_Kinds_decl : FnDef := { nm := ["self", "name"], np := 2, dfl := [], body := (.cons (.ifS (.cmp .notin (.var 1) (.attr (.var 0) "decls")) (.cons .bad .nil) .nil) (.cons (.ret (.sub (.attr (.var 0) "decls") (.var 1))) .nil)) }
noncomputable def D_Kinds_super_of : FnDef := { nm := ["self", "kind", "decl", "found"], np := 2, dfl := [], body := (.cons (.ifS (.cmp .eq (.sub (.var 1) (.const (.int 0))) (.const (.str "typeof"))) (.cons (.ret (.glob 2)) .nil) .nil) (.cons (.ifS (.cmp .eq (.sub (.var 1) (.const (.int 0))) (.const (.str "fn"))) (.cons (.ret (.glob 3)) .nil) .nil) (.cons (.ifS (.or (.cons (.cmp .ne (.sub (.var 1) (.const (.int 0))) (.const (.str "name"))) (.cons (.cmp .eq (.var 1) (.glob 0)) (.cons (.not (.callM (.var 0) "is_declared" (.cons (.sub (.var 1) (.const (.int 1))) .nil))) .nil)))) (.cons (.ret (.glob 0)) .nil) .nil) (.cons (.assign (.tg (.one 2)) (.callM (.var 0) "decl" (.cons (.sub (.var 1) (.const (.int 1))) .nil))) (.cons (.assign (.tg (.one 3)) (.callF 5 (.cons (.attr (.var 2) "super") (.cons (.callM (.var 2) "table_for" (.cons (.sub (.var 1) (.const (.int 2))) .nil)) .nil)))) (.cons (.ifS (.callF 33 (.cons (.var 3) .nil)) (.cons .bad .nil) .nil) (.cons (.ret (.var 3)) .nil))))))) }
noncomputable def D_Kinds_supers : FnDef := { nm := ["self", "kind", "found"], np := 2, dfl := [], body := (.cons (.assign (.tg (.one 2)) (.lst (.cons (.var 1) .nil))) (.cons (.whileS 2000 (.cmp .ne (.sub (.var 2) (.const (.int (-1)))) (.glob 0)) (.cons (.expr (.callM (.var 2) "append" (.cons (.callM (.var 0) "super_of" (.cons (.sub (.var 2) (.const (.int (-1)))) .nil)) .nil))) .nil)) (.cons (.ret (.var 2)) .nil))) }
noncomputable def fnNames : List PySem.Str := (["named", "tuple_of", "union_of", "members_of", "parts_of_kind", "substituted", "free_vars", "written_kind", "kind_text", "kind_key", "depth_of_kind", "size_of_kind", "left_cases", "tuple_cases", "is_empty", "tail_of", "is_too_deep", "tuple_ways", "is_subtype", "kind_of", "kind_of_element", "is_within", "base_of", "common", "common_all", "common_tuple", "cut_tuple", "is_small", "cut", "pruned_members", "few_members", "widened_lattice", "joined", "is_too_large", "nominal", "start_kinds", "start_errors", "start_rows", "_law_tank", "_law_poured", "_law_element", "law"] : List String).map PySem.Str.ofString
noncomputable def clsNames : List PySem.Str := ["Search", "Sides", "Decl", "Kinds"]
noncomputable def globNames : List PySem.Str := ["ANY", "BOTTOM", "TYPE", "FUNCTION", "MOST_CASES", "MOST_DEPTH_subtypes", "MOST_UNION", "MOST_DEPTH_lattice", "MOST_PARTS", "MOST_SIZE_lattice", "SIGNED", "UNSIGNED", "PLAIN_ERRORS", "TEXT_ERRORS", "CALL_ERRORS", "MOST_SIZE_kinds"]
noncomputable def fnDefs : List FnDef := [D_named, D_tuple_of, D_union_of, D_members_of, D_parts_of_kind, D_substituted, D_free_vars, D_written_kind, D_kind_text, D_kind_key, D_depth_of_kind, D_size_of_kind, D_left_cases, D_tuple_cases, D_is_empty, D_tail_of, D_is_too_deep, D_tuple_ways, D_is_subtype, D_kind_of, D_kind_of_element, D_is_within, D_base_of, D_common, D_common_all, D_common_tuple, D_cut_tuple, D_is_small, D_cut, D_pruned_members, D_few_members, D_widened_lattice, D_joined, D_is_too_large, D_nominal, D_start_kinds, D_start_errors, D_start_rows, D_law_tank, D_law_poured, D_law_element, D_law]
noncomputable def meDefs : List (Nat × PySem.Str × FnDef) := [(0, "__init__", D_Search_init), (0, "run", D_Search_run), (0, "settled", D_Search_settled), (0, "holds", D_Search_holds), (0, "step", D_Search_step), (0, "by_form", D_Search_by_form), (0, "plain", D_Search_plain), (0, "nominal", D_Search_nominal), (0, "are_concrete", D_Search_are_concrete), (1, "__init__", D_Sides_init), (1, "is_asked", D_Sides_is_asked), (1, "has_asked", D_Sides_has_asked), (2, "__init__", D_Decl_init), (2, "table_for", D_Decl_table_for), (3, "__init__", D_Kinds_init), (3, "declare", D_Kinds_declare), (3, "is_declared", D_Kinds_is_declared), (3, "decl", D_Kinds_decl), (3, "super_of", D_Kinds_super_of), (3, "supers", D_Kinds_supers)]
noncomputable def globVals : List PyData := [(.tuple [(.str "name"), (.str "Any"), (.tuple [])]), (.tuple [(.str "bottom")]), (.tuple [(.str "name"), (.str "Type"), (.tuple [])]), (.tuple [(.str "name"), (.str "Function"), (.tuple [])]), (.int 64), (.int 60), (.int 3), (.int 4), (.int 6), (.int 200), (.tuple [(.str "Int8"), (.str "Int16"), (.str "Int32"), (.str "Int64"), (.str "BigInt")]), (.tuple [(.str "UInt8"), (.str "UInt16"), (.str "UInt32"), (.str "UInt64")]), (.tuple [(.str "DivideError"), (.str "StackOverflowError")]), (.tuple [(.str "ArgumentError"), (.str "OverflowError"), (.str "DimensionMismatch"), (.str "ErrorException")]), (.tuple [(.str "MethodError"), (.str "AmbiguousError")]), (.int 4000)]
noncomputable def atList : List (Nat × PySem.Str) := [(0, "kinds"), (0, "fuel"), (0, "known"), (1, "rows"), (1, "many"), (2, "name"), (2, "params"), (2, "super"), (2, "is_abstract"), (2, "is_mutable"), (2, "fields"), (3, "decls")]
noncomputable def tl : TL := { fns := fnNames.zip fnDefs, fn0 := ("named", D_named), cls := clsNames, cls0 := "Search", globs := globNames.zip globVals, glob0 := ("ANY", (.tuple [(.str "name"), (.str "Any"), (.tuple [])])), mes := meDefs, me0 := (0, "__init__", D_Search_init), ats := atList }
noncomputable def fnIdx : List Nat := [4, 4, 5, 6, 7, 8, 10, 12, 16, 17, 18, 19, 20, 28, 30, 31, 32, 44, 45, 46, 56, 62, 63, 64, 65, 66, 67, 68, 69, 70, 71, 72, 73, 75, 84, 86, 87, 88, 89, 91, 92, 93, 94]
noncomputable def meIdx : List (Nat × Nat) := [(37, 0), (37, 1), (37, 2), (37, 3), (37, 4), (37, 8), (37, 11), (37, 12), (37, 13), (24, 0), (24, 4), (24, 5), (83, 0), (83, 1), (85, 0), (85, 1), (85, 2), (85, 3), (85, 4), (85, 5)]
noncomputable abbrev pw : Program := PySem.Challenge.pw_sy0060_01
noncomputable def qv : Program := { pw with main := { pw.main with body := pw.main.body.drop 94 } }
noncomputable def loose : List Str := pw.boundNames.filter (· != ("law" : Str))

noncomputable def topRunT (tb : String → Option Builtin) (p : Program) (w : World) (n₀ : Nat) (ann : Option Value) : Nat → SharedT → Thread → Option SharedT
  | 0, _, _ => none
  | n + 1, s, t => match through t with
    | true => some s
    | false => match stepOk n₀ ann t with
      | false => none
      | true => match stepT (denote tb) p w s t with
        | some x => topRunT tb p w n₀ ann n x.1 x.2
        | none => none
theorem topRunT_of {tb : String → Option Builtin} {p : Program} {w : World} {n₀ : Nat} {ann : Option Value} : ∀ (n : Nat) (s s' : SharedT) (t : Thread), topRunT tb p w n₀ ann n s t = some s' → topRun tb p w n₀ ann n s.abs t = some s'.abs
  | 0, _, _, _, h => by cases h
  | n + 1, s, s', t, h => by
    unfold topRunT at h
    unfold topRun
    cases ht : through t with
    | true => rw [ht] at h; cases h; rfl
    | false =>
      rw [ht] at h
      dsimp only at h ⊢
      cases hk : stepOk n₀ ann t with
      | false => rw [hk] at h; cases h
      | true =>
        rw [hk] at h
        dsimp only at h ⊢
        cases hs : stepT (denote tb) p w s t with
        | none => rw [hs] at h; cases h
        | some x =>
          rw [hs] at h
          rw [stepT_spec (t' := x.2) (s' := x.1) hs]
          exact topRunT_of n x.1 s' x.2 h

noncomputable def topRunQ (p : Program) (w : World) (n₀ : Nat) (ann : Option Value) : Nat → SharedT → Thread → Option SharedT
  | 0, _, _ => none
  | n + 1, s, t => match through t with
    | true => some s
    | false => match PySem.W.Fast.tw6613529449190102663 n₀ ann t with
      | false => none
      | true => match PySem.W.Fast.tw10156331382660048174 (PySem.W.Fast.tw11892475500146522536 PySem.W.Fast.tw14364793385576792824) p w s t with
        | some x => topRunQ p w n₀ ann n x.1 x.2
        | none => none
theorem topRunQ_eq (p : Program) (w : World) (n₀ : Nat) (ann : Option Value) : ∀ (n : Nat) (s : SharedT) (t : Thread), topRunT treeTable p w n₀ ann n s t = topRunQ p w n₀ ann n s t
  | 0, _, _ => rfl
  | n + 1, s, t => by
    have e1 : stepOk = PySem.W.Fast.tw6613529449190102663 := PySem.W.Fast.te6613529449190102663
    have e2 : stepT = PySem.W.Fast.tw10156331382660048174 := PySem.W.Fast.te10156331382660048174
    have e3 : denote = PySem.W.Fast.tw11892475500146522536 := PySem.W.Fast.te11892475500146522536
    have e4 : treeTable = PySem.W.Fast.tw14364793385576792824 := PySem.W.Fast.te14364793385576792824
    unfold topRunT topRunQ
    rw [e1, e2, e3, e4]
    cases through t with
    | true => rfl
    | false =>
      dsimp only
      cases PySem.W.Fast.tw6613529449190102663 n₀ ann t with
      | false => rfl
      | true =>
        dsimp only
        cases PySem.W.Fast.tw10156331382660048174 (PySem.W.Fast.tw11892475500146522536 PySem.W.Fast.tw14364793385576792824) p w s t with
        | none => rfl
        | some x => dsimp only; rw [← e4]; exact topRunQ_eq p w n₀ ann n x.1 x.2

noncomputable def bootTree (P : Params) : BT :=
  .node (boot_o_0 P)
    (.node (boot_o_1 P) (.node (boot_o_3 P) (.node (boot_o_7 P) .nil .nil) .nil) (.node (boot_o_5 P) (.node (boot_o_9 P) .nil .nil) .nil))
    (.node (boot_o_2 P) (.node (boot_o_4 P) (.node (boot_o_8 P) .nil .nil) .nil) (.node (boot_o_6 P) (.node (boot_o_10 P) .nil .nil) .nil))
theorem bootTree_abs (P : Params) : absHeap (bootTree P) 11 {} = boot_heap P := rfl
noncomputable def bootT (w : World) (os : OsState) : SharedT := { tree := bootTree w.params, n := 11, life := {}, gens := #[], drawn := boot_drawn, toks := boot_toks, os := os }
theorem bootT_abs (w : World) (os : OsState) : (bootT w os).abs = ⟨boot_heap w.params, #[], boot_drawn, boot_toks, os⟩ := rfl

noncomputable def annOf : Option Value := some (.ref 6)
theorem ann_ok (P : Params) : ((boot_heap P).isNs mainGlobals && (#[] : Array GenState).size == 0, (boot_heap P).objs.size, (boot_heap P).nsMap mainGlobals "__annotations__") = (true, 11, annOf) := by kernel_rfl

theorem boot_pw (w : World) : (fencedOpening treeTable pw w 20000).map (fun s => (s.heap, s.gens, s.drawn, s.toks)) = some (boot_heap w.params, #[], boot_drawn, boot_toks) :=
  boot_open (p := pw) (N := 20000) (by kernel_rfl) (by kernel_rfl) (fun s => by kernel_rfl) w

noncomputable abbrev row : String := "special-get-raises"
noncomputable def ranQ (W : World) (os : OsState) : Option SharedT := topRunQ pw W 11 annOf 5400 (bootT W os) (topStub pw)
noncomputable def looksQ (W : World) (s : Shared) :=
  ((staticsOk [] (boot_heap W.params) s.heap && namesBound pw s.heap && gensDone s && laidKept (boot_heap W.params) s.heap),
   PySem.W.Fast.tw4187177175401517315 qv loose [] (fun _ => true) true s)

noncomputable def getT (s : SharedT) (a : Addr) : Option Obj := match Nat.blt a s.n with
  | true => alive ((s.tree.get a).getD default)
  | false => none
theorem getT_eq (s : SharedT) : s.abs.heap.get? = getT s := by
  funext a
  show Heap.get? (absHeap s.tree s.n s.life) a = _
  unfold Heap.get? getT
  rw [absHeap_at]
  cases h : Nat.blt a s.n with
  | false => rw [if_neg fun x => by rw [Nat.blt_eq.mpr x] at h; exact nomatch h]
  | true =>
    rw [if_pos (Nat.blt_eq.mp h)]
    generalize (s.tree.get a).getD default = o
    obtain ⟨c, d, dt, sl⟩ := o
    cases dt <;> rfl
noncomputable def seenQ {α : Type} (facts : (Addr → Option Obj) → α) (W : World) (s : SharedT) := (looksQ W s.abs, facts (getT s))

theorem asBound {w : World} : w.withFollow row (w.params.followText row) = w := World.withFollow_self w row

theorem imports_ok : importedModules pw.main.body = [] := by kernel_rfl
theorem openSeen_twin : openSeen = PySem.W.Fast.tw4187177175401517315 := PySem.W.Fast.te4187177175401517315
theorem topFrom_of {p : Program} {w : World} {N : Nat} {s₀ s₁ : Shared} {m₀ : Nat} {ann : Option Value} (z1 : (s₀.heap.isNs mainGlobals && s₀.gens.size == 0) = true) (z2 : s₀.heap.objs.size = m₀) (z3 : s₀.heap.nsMap mainGlobals "__annotations__" = ann)
    (r : topRun treeTable p w m₀ ann N s₀ (topStub p) = some s₁) (im : importedModules p.main.body = [])
    (q : (staticsOk [] s₀.heap s₁.heap && namesBound p s₁.heap && gensDone s₁ && laidKept s₀.heap s₁.heap) = true) : topFrom treeTable p w N s₀ = some s₁ := by
  unfold topFrom
  rw [z1, z2, z3, r, im]
  show (match staticsOk [] s₀.heap s₁.heap && namesBound p s₁.heap && gensDone s₁ && laidKept s₀.heap s₁.heap with | true => _ | false => _) = _
  rw [q]
theorem openEnds_of {p : Program} {w : World} {N : Nat} {s₀ s₁ : Shared} {α : Type} {f : Shared → α} (e : fencedOpening treeTable p w N = some s₀) (t : topFrom treeTable p w N s₀ = some s₁) : (openEnds treeTable p w N).map f = some (f s₁) := by
  unfold openEnds
  rw [e]
  show (topFrom treeTable p w N s₀).map f = _
  rw [t]; rfl
theorem left_of {α : Type} {good : α} {facts : (Addr → Option Obj) → α} (h : ∀ (b : Bool) (w : World) (os : OsState), (ranQ (w.withFollow row b) os).map (fun s => seenQ facts (w.withFollow row b) s) = some ((true, openGood qv loose), good)) :
    LeftO pw qv loose (fun _ => true) (fun s => facts s.heap.get?) (fun _ => good) 20000 := fun w => by
  have h1 : ∀ os, (ranQ w os).map (fun s => seenQ facts w s) = some ((true, openGood qv loose), good) := fun os => by
    have := h (w.params.followText row) w os
    rwa [asBound] at this
  obtain ⟨⟨hp, gs, d, k, os⟩, e, e'⟩ := Option.map_eq_some_iff.mp (boot_pw w)
  obtain ⟨rfl, rfl, rfl, rfl⟩ : hp = boot_heap w.params ∧ gs = #[] ∧ d = boot_drawn ∧ k = boot_toks := by simpa using e'
  obtain ⟨z1, z2, z3⟩ : _ ∧ _ ∧ _ := by simpa only [Prod.mk.injEq] using ann_ok w.params
  obtain ⟨s', r1, r2⟩ := Option.map_eq_some_iff.mp (h1 os)
  have r3 : topRunT treeTable pw w 11 annOf 5400 (bootT w os) (topStub pw) = some s' := (topRunQ_eq ..).trans r1
  have r4 := topRunT_of _ _ _ _ r3
  rw [bootT_abs] at r4
  have r5 := topRun_mono 14600 _ _ _ _ r4
  obtain ⟨q1, q2⟩ : looksQ w s'.abs = (true, openGood qv loose) ∧ facts s'.abs.heap.get? = good := by rw [getT_eq]; simpa only [seenQ, Prod.mk.injEq] using r2
  obtain ⟨q3, q4⟩ : _ ∧ _ := by simpa only [looksQ, Prod.mk.injEq] using q1
  have t : topFrom treeTable pw w 20000 ⟨boot_heap w.params, #[], boot_drawn, boot_toks, os⟩ = some s'.abs := topFrom_of z1 z2 z3 r5 imports_ok q3
  rw [openEnds_of e t, imports_ok, openSeen_twin, q4]
  exact congrArg (fun b => some (openGood qv loose, b)) q2

open PySem.W.Fast in
theorem said_road : tw8326940854005059898 { strict := !R.allR (tw5923862056798008813 (tw2368527892694137696 PySem.Challenge.rw_sy0060_01).prog.main.body) (tw3471404346716756564 tw17691160309236699985), foot := none, bare := R.filterR (tw13343964577679436407 (tw2368527892694137696 PySem.Challenge.rw_sy0060_01).prog (tw2368527892694137696 PySem.Challenge.rw_sy0060_01).prog.main.body) [⟨⟨[118, 97, 114, 115]⟩⟩, ⟨⟨[100, 105, 114]⟩⟩, ⟨⟨[108, 111, 99, 97, 108, 115]⟩⟩] } (tw2368527892694137696 PySem.Challenge.rw_sy0060_01).prog.main.body = true := by kernel_rfl
open PySem.W.Fast in
theorem said_open : tw12908688711261696721 (tw2368527892694137696 PySem.Challenge.rw_sy0060_01).prog = true := by
  unfold tw12908688711261696721
  refine look_both (look_both ?_ said_road) ?_ <;> kernel_rfl
open PySem.W.Fast in
theorem wellSaid_ok : PySem.Challenge.rw_sy0060_01.wellSaid = true := by
  refine (congrFun te9446332074065402090 _).trans ?_
  unfold tw9446332074065402090
  repeat with_reducible refine look_both ?_ ?_
  unfold tw17960256430627541270
  repeat with_reducible refine look_both ?_ ?_
  unfold tw2436336058641802641
  repeat with_reducible refine look_both ?_ ?_
  exact said_open
  all_goals kernel_rfl
noncomputable def lawDef : DefRec := match defOf qv "law" with | some x => x.1 | none => ⟨"", ⟨[], [], none, [], [], none, []⟩, [], default, default⟩
theorem def_ok : defOf qv "law" = some (lawDef, []) := by kernel_rfl
theorem theDef_ok : pw.theDef "law" = some (lawDef.params, lawDef.body, lawDef.scope) := by kernel_rfl

noncomputable abbrev Xno : (Str → Option Value) → Heap → Prop := fun _ _ => True
theorem head {α : Type} {good : α} {facts : (Addr → Option Obj) → α} (h : ∀ (b : Bool) (w : World) (os : OsState), (ranQ (w.withFollow row b) os).map (fun s => seenQ facts (w.withFollow row b) s) = some ((true, openGood qv loose), good))
    (call : WalkX qv loose Xno (fun s => facts s.heap.get?) (fun _ => good) PySem.Challenge.rw_sy0060_01.row.toRowW lawDef [] fun f vs => PySem.call f vs) : PySem.Challenge.rw_sy0060_01.Holds := by
  refine holds_law wellSaid_ok fun k1 => ?_
  refine holds_openX (q := qv) (loose := loose) (Xt := fun _ => true) (XP := Xno) (left_of h) (fun _ _ => trivial) (fun _ _ _ _ _ => trivial) def_ok theDef_ok rfl (fun s _ => recFacts_of (R := []) rfl) rfl k1 (by decide +kernel) ⟨rfl, rfl, rfl, rfl, rfl, by decide +kernel⟩ ?_ call
  w_witness2
noncomputable abbrev textFs : List (Option (Scope × List Stmt)) := fnIdx.map (textF pw.main.body)
noncomputable abbrev textMs : List (Option (Scope × List Stmt)) := meIdx.map (textM pw.main.body)
theorem ran1 (w : World) (os : OsState) : (ranQ (w.withFollow row true) os).map (seenQ (seenB tl) (w.withFollow row true)) = some ((true, openGood qv loose), (true, textFs, textMs)) := by kernel_rfl
theorem ran0 (w : World) (os : OsState) : (ranQ (w.withFollow row false) os).map (seenQ (seenB tl) (w.withFollow row false)) = some ((true, openGood qv loose), (true, textFs, textMs)) := by kernel_rfl
theorem ran_ok (b : Bool) (w : World) (os : OsState) : (ranQ (w.withFollow row b) os).map (fun s => seenQ (seenB tl) (w.withFollow row b) s) = some ((true, openGood qv loose), (true, textFs, textMs)) := by
  cases b with
  | true => exact ran1 w os
  | false => exact ran0 w os
theorem textF_ok : ((tl.fn0 :: tl.fns).zip textFs).all (fun q => okCode tl.nam q.1.2 q.2) = true := by kernel_rfl
theorem textM_ok : (tl.mes.zip textMs).all (fun q => okCode tl.nam q.1.2.2 q.2) = true := by kernel_rfl
section
theorem none0_m {α : Type} {l : List α} {m : List α → Prop} (h : none0 l = true) (q : m []) : m l := (none0_k h).symm ▸ q
variable {N : Nam} {nm : List Str} {sc : Scope} {e : PySem.Expr} {m : PySem.Expr → Prop}
theorem i_none (hb : bE N nm sc (.const .none) e = true) (q : ∀ u p, m (.Constant .none u p)) : m e := asConstant_m hb fun _ u p h => dec_m (m := fun c => m (.Constant c u p)) h (q u p)
theorem i_bool {b : Bool} (hb : bE N nm sc (.const (.bool b)) e = true) (q : ∀ u p, m (.Constant (.bool b) u p)) : m e := asConstant_m hb fun _ u p h => dec_m (m := fun c => m (.Constant c u p)) h (q u p)
theorem i_str {b : Str} (hb : bE N nm sc (.const (.str b)) e = true) (q : ∀ u p, m (.Constant (.str b) u p)) : m e := asConstant_m hb fun _ u p h => dec_m (m := fun c => m (.Constant c u p)) h (q u p)
theorem i_nm1 {i : Nat} (hb : nm1 nm sc i e = true) (q : ∀ x p, nm[i]? = some x → isVar sc x = true → m (.Name x p)) : m e := asName_m hb fun x p h => band_k h fun h1 h2 => q x p (of_decide_eq_true h1) h2
theorem i_glob {g : Nat} (hb : bE N nm sc (.glob g) e = true) (q : ∀ p, isGlob sc (N.glob g) = true → m (.Name (N.glob g) p)) : m e :=
  asName_m hb fun x p h => band_k h fun h1 => dec_m (m := fun x => isGlob sc x = true → m (.Name x p)) h1 (q p)
theorem i_tup {es : CEs} (hb : bE N nm sc (.tup es) e = true) (q : ∀ l c p, bEs N nm sc es l = true → m (.Tuple l c p)) : m e := asTuple_m hb q
theorem i_lst {es : CEs} (hb : bE N nm sc (.lst es) e = true) (q : ∀ l p, bEs N nm sc es l = true → m (.List l p)) : m e := asList_m hb q
theorem i_dict0 (hb : bE N nm sc .dict0 e = true) (q : ∀ p, m (.Dict [] [] p)) : m e := asDict_m hb fun l v p h => band_k h fun h1 h2 => none0_k h1 ▸ none0_k h2 ▸ q p
theorem i_dict1 {k v : CE} (hb : bE N nm sc (.dict1 k v) e = true) (q : ∀ a b p, bE N nm sc k a = true → bE N nm sc v b = true → m (.Dict [some a] [b] p)) : m e :=
  asDict_m hb fun ks vs p h => l1_m (m := fun ks => m (.Dict ks vs p)) h fun a h => oB_m (m := fun a => m (.Dict [a] vs p)) h fun a h => l1_m (m := fun vs => m (.Dict [some a] vs p)) h fun b h => band_k h (q a b p)
theorem i_cmp {op : COp} {a b : CE} (hb : bE N nm sc (.cmp op a b) e = true) (q : ∀ l r p, notSet r = true → bE N nm sc a l = true → bE N nm sc b r = true → m (.Compare l [copM op] [r] p)) : m e :=
  asCompare_m hb fun l o r p h => l1_m (m := fun o => m (.Compare l o r p)) h fun o h => l1_m (m := fun r => m (.Compare l [o] r p)) h fun r h => band_k h fun h1 h2 => band_k h1 fun h1 h3 => dec_m (m := fun o => m (.Compare l [o] [r] p)) h1 (band_k h2 (q l r p h3))
theorem i_and {es : CEs} (hb : bE N nm sc (.and es) e = true) (q : ∀ l p, bEs N nm sc es l = true → m (.BoolOp .And l p)) : m e := asBoolOp_m hb fun _ l p h => band_k h fun h1 h2 => dec_m (m := fun o => m (.BoolOp o l p)) h1 (q l p h2)
theorem i_or {es : CEs} (hb : bE N nm sc (.or es) e = true) (q : ∀ l p, bEs N nm sc es l = true → m (.BoolOp .Or l p)) : m e := asBoolOp_m hb fun _ l p h => band_k h fun h1 h2 => dec_m (m := fun o => m (.BoolOp o l p)) h1 (q l p h2)
theorem i_not {a : CE} (hb : bE N nm sc (.not a) e = true) (q : ∀ x p, bE N nm sc a x = true → m (.UnaryOp .Not x p)) : m e := asUnaryOp_m hb fun _ x p h => band_k h fun h1 h2 => dec_m (m := fun o => m (.UnaryOp o x p)) h1 (q x p h2)
theorem i_bin {op : BOp} {a b : CE} (hb : bE N nm sc (.bin op a b) e = true) (q : ∀ l r p, bE N nm sc a l = true → bE N nm sc b r = true → m (.BinOp l (opM op) r p)) : m e :=
  asBinOp_m hb fun l _ r p h => band_k h fun h1 h2 => dec_m (m := fun o => m (.BinOp l o r p)) h1 (band_k h2 (q l r p))
theorem i_ite {c a b : CE} (hb : bE N nm sc (.ite c a b) e = true) (q : ∀ t x y p, bE N nm sc c t = true → bE N nm sc a x = true → bE N nm sc b y = true → m (.IfExp t x y p)) : m e :=
  asIfExp_m hb fun t x y p h => band_k h fun h1 h2 => band_k h2 (q t x y p h1)
theorem i_attr {o : CE} {x : Str} (hb : bE N nm sc (.attr o x) e = true) (q : ∀ v p, notSuper v = true → bE N nm sc o v = true → m (.Attribute v x p)) : m e :=
  asAttribute_m hb fun v _ p h => band_k h fun h1 h2 => dec_m (m := fun n => m (.Attribute v n p)) h1 (band_k h2 (q v p))
theorem i_sub {o i : CE} (hb : bE N nm sc (.sub o i) e = true) (q : ∀ v j p, bE N nm sc o v = true → bE N nm sc i j = true → m (.Subscript v j p)) : m e := asSubscript_m hb fun v j p h => band_k h (q v j p)
theorem i_slice {o : CE} {k : Sl} (hb : bE N nm sc (.slice o k) e = true) (q : ∀ v a b c p p2, bE N nm sc o v = true → boundOk (sl1 k) a = true → boundOk (sl2 k) b = true → boundOk (sl3 k) c = true → m (.Subscript v (.Slice a b c p) p2)) : m e :=
  asSubscript_m hb fun v j p2 h => asSlice_m (m := fun j => m (.Subscript v j p2)) h fun a b c p h => band_k h fun h1 h2 => band_k h1 fun h1 h3 => band_k h2 (q v a b c p p2 h1 h3)
theorem i_callF {f : Nat} {es : CEs} (hb : bE N nm sc (.callF f es) e = true) (q : ∀ p l p2, isGlob sc (N.fn f) = true → bEs N nm sc es l = true → m (.Call (.Name (N.fn f) p) l [] p2)) : m e :=
  asCallN_m hb fun _ p l p2 h => band_k h fun h1 h2 => band_k h1 fun h1 => dec_m (m := fun x => isGlob sc x = true → m (.Call (.Name x p) l [] p2)) h1 fun h3 => q p l p2 h3 h2
theorem i_callC {c : Nat} {es : CEs} (hb : bE N nm sc (.callC c es) e = true) (q : ∀ p l p2, isGlob sc (N.cls c) = true → bEs N nm sc es l = true → m (.Call (.Name (N.cls c) p) l [] p2)) : m e :=
  asCallN_m hb fun _ p l p2 h => band_k h fun h1 h2 => band_k h1 fun h1 => dec_m (m := fun x => isGlob sc x = true → m (.Call (.Name x p) l [] p2)) h1 fun h3 => q p l p2 h3 h2
theorem i_callB {b : BN} {es : CEs} (hb : bE N nm sc (.callB b es) e = true) (q : ∀ p l p2, isGlob sc (bnOf b) = true → bEs N nm sc es l = true → m (.Call (.Name (bnOf b) p) l [] p2)) : m e :=
  asCallN_m hb fun _ p l p2 h => band_k h fun h1 h2 => band_k h1 fun h1 => dec_m (m := fun x => isGlob sc x = true → m (.Call (.Name x p) l [] p2)) h1 fun h3 => q p l p2 h3 h2
theorem i_callM {o : CE} {x : Str} {es : CEs} (hb : bE N nm sc (.callM o x es) e = true)
    (q : ∀ v ap l p, notSuper v = true → (ap.endLine == p.line) = true → Nat.ble l.length 20 = true → bE N nm sc o v = true → bEs N nm sc es l = true → m (.Call (.Attribute v x ap) l [] p)) : m e :=
  asCall_m hb fun f l ks p h => asAttribute_m (m := fun f => m (.Call f l ks p)) h fun v n ap h => band_k h fun h1 h2 => band_k h1 fun h1 h3 => none0_k h1 ▸ dec_m (m := fun n => m (.Call (.Attribute v n ap) l [] p)) h3
    (band_k h2 fun h1 h2 => band_k h1 fun h1 h3 => band_k h3 fun h3 h4 => band_k h2 (q v ap l p h1 h3 h4))
theorem i_sortK {a : CE} {f : Nat} (hb : bE N nm sc (.sortK a f) e = true)
    (q : ∀ p y p2 p3 p4, isGlob sc "sorted" = true → isGlob sc (N.fn f) = true → notStar y = true → bE N nm sc a y = true → m (.Call (.Name "sorted" p) [y] [⟨some "key", .Name (N.fn f) p2, p3⟩] p4)) : m e :=
  asCall_m hb fun g l ks p4 h => asName_m (m := fun g => m (.Call g l ks p4)) h fun x p h => l1_m (m := fun l => m (.Call (.Name x p) l ks p4)) h fun y h => l1_m (m := fun ks => m (.Call (.Name x p) [y] ks p4)) h fun k h =>
    asKey_m (m := fun k => m (.Call (.Name x p) [y] [k] p4)) h fun k z p2 p3 h => band_k h fun h1 h2 => band_k h1 fun h1 h3 => band_k h2 fun h2 h4 => band_k h2 fun h2 h5 => band_k h5 fun h5 h6 =>
    dec_m (m := fun k => m (.Call (.Name x p) [y] [⟨some k, .Name z p2, p3⟩] p4)) h3 (dec_m (m := fun x => isGlob sc x = true → m (.Call (.Name x p) [y] [⟨some "key", .Name z p2, p3⟩] p4)) h1
      (dec_m (m := fun z => isGlob sc z = true → isGlob sc "sorted" = true → m (.Call (.Name "sorted" p) [y] [⟨some "key", .Name z p2, p3⟩] p4)) h2 (fun h6 h5 => band_k h4 (q p y p2 p3 p4 h5 h6)) h6) h5)
theorem i_comp {caps : List Nat} {elt : CE} {tg : Tg} {it : IT} {ifs : CEs} (hb : bE N nm sc (.comp caps elt tg it ifs) e = true)
    (q : ∀ x t i cs scope p, comOk caps nm sc scope tg t i = true → bIT N nm sc it i = true → bEs N (capNm caps nm ++ tgNames t) (relabelS scope sc) ifs cs = true → bE N (capNm caps nm ++ tgNames t) (relabelS scope sc) elt x = true →
      m (.ListComp x [⟨t, i, cs, 0⟩] scope p)) : m e :=
  asListComp_m hb fun x gs scope p h => l1_m (m := fun gs => m (.ListComp x gs scope p)) h fun g h => asGen_m (m := fun g => m (.ListComp x [g] scope p)) h fun t i cs h => band_k h fun h1 h2 => band_k h2 fun h2 h3 => band_k h3 (q x t i cs scope p h1 h2)
theorem i_comp2 {caps : List Nat} {elt : CE} {tg tg2 : Tg} {it it2 : IT} (hb : bE N nm sc (.comp2 caps elt tg it tg2 it2) e = true)
    (q : ∀ x t i t2 i2 scope p, com2Ok caps nm sc scope tg t i tg2 t2 i2 = true → bIT N nm sc it i = true → bIT N (capNm caps nm ++ (tgNames t ++ tgNames t2)) (relabelS scope sc) it2 i2 = true →
      bE N (capNm caps nm ++ (tgNames t ++ tgNames t2)) (relabelS scope sc) elt x = true → m (.ListComp x [⟨t, i, [], 0⟩, ⟨t2, i2, [], 0⟩] scope p)) : m e :=
  asListComp_m hb fun x gs scope p h => l2_m (m := fun gs => m (.ListComp x gs scope p)) h fun g g2 h => asGen_m (m := fun g => m (.ListComp x [g, g2] scope p)) h fun t i cs h => asGen_m (m := fun g2 => m (.ListComp x [⟨t, i, cs, 0⟩, g2] scope p)) h fun t2 i2 cs2 h =>
    band_k h fun h1 h2 => band_k h1 fun h1 h3 => band_k h1 fun h1 h4 => none0_m (m := fun cs => m (.ListComp x [⟨t, i, cs, 0⟩, ⟨t2, i2, cs2, 0⟩] scope p)) h1 (none0_m (m := fun cs2 => m (.ListComp x [⟨t, i, [], 0⟩, ⟨t2, i2, cs2, 0⟩] scope p)) h4 (band_k h2 fun h2 h5 => band_k h5 (q x t i t2 i2 scope p h3 h2)))
theorem i_range {c : CE} (hb : bIT N nm sc (.range c) e = true) (q : ∀ p a p2, isGlob sc "range" = true → notStar a = true → bE N nm sc c a = true → m (.Call (.Name "range" p) [a] [] p2)) : m e :=
  asCallN_m hb fun _ p l p2 h => l1_m (m := fun l => m (.Call (.Name _ p) l [] p2)) h fun a h => band_k h fun h1 h2 => band_k h1 fun h1 => dec_m (m := fun x => isGlob sc x = true → m (.Call (.Name x p) [a] [] p2)) h1 fun h3 => band_k h2 (q p a p2 h3)
theorem i_zip {c d : CE} (hb : bIT N nm sc (.zip c d) e = true)
    (q : ∀ p a b p2, isGlob sc "zip" = true → notStar a = true → notStar b = true → bE N nm sc c a = true → bE N nm sc d b = true → m (.Call (.Name "zip" p) [a, b] [] p2)) : m e :=
  asCallN_m hb fun _ p l p2 h => l2_m (m := fun l => m (.Call (.Name _ p) l [] p2)) h fun a b h => band_k h fun h1 h2 => band_k h1 fun h1 => dec_m (m := fun x => isGlob sc x = true → m (.Call (.Name x p) [a, b] [] p2)) h1 fun h3 =>
    band_k h2 fun h2 h4 => band_k h2 fun h2 h5 => band_k h4 (q p a b p2 h3 h2 h5)
theorem i_tgtup {l : List Nat} (h : tgOk (.tup l) nm sc e = true) (q : ∀ es k p, namesOk nm sc l es = true → m (.Tuple es k p)) : m e := asTuple_m h q
theorem i_esnil {m : List PySem.Expr → Prop} {l : List PySem.Expr} (hb : bEs N nm sc .nil l = true) (q : m []) : m l := none0_k hb ▸ q
theorem i_escons {m : List PySem.Expr → Prop} {l : List PySem.Expr} {c : CE} {cs : CEs} (hb : bEs N nm sc (.cons c cs) l = true) (q : ∀ e r, notStar e = true → bE N nm sc c e = true → bEs N nm sc cs r = true → m (e :: r)) : m l := by
  induction l using List.casesOn with
  | nil => exact bf hb
  | cons e r => exact band_k hb fun h1 h2 => band_k h1 fun h1 h3 => q e r h1 h3 h2
theorem i_ssnil {m : List Stmt → Prop} {l : List Stmt} (hb : bSs N nm sc .nil l = true) (q : m []) : m l := none0_k hb ▸ q
theorem i_sscons {m : List Stmt → Prop} {l : List Stmt} {c : CS} {cs : CSs} (hb : bSs N nm sc (.cons c cs) l = true) (q : ∀ e r, bS N nm sc c e = true → bSs N nm sc cs r = true → m (e :: r)) : m l := by
  induction l using List.casesOn with
  | nil => exact bf hb
  | cons e r => exact band_k hb (q e r)
variable {st : Stmt} {m : Stmt → Prop}
theorem i_asg {t : TgS} {c : CE} (hb : bS N nm sc (.assign t c) st = true) (q : ∀ g e p, tgSOk N t nm sc g = true → tupOk t e = true → bE N nm sc c e = true → m (.Assign [g] e p)) : m st :=
  stAssign_m hb fun l e p h => l1_m (m := fun l => m (.Assign l e p)) h fun g h => band_k h fun h1 h2 => band_k h1 fun h1 h3 => q g e p h1 h3 h2
theorem i_expr {c : CE} (hb : bS N nm sc (.expr c) st = true) (q : ∀ e p, bE N nm sc c e = true → noComp e = true → m (.Expr e p)) : m st := stExpr_m hb fun e p h => band_k h (q e p)
theorem i_ret {c : CE} (hb : bS N nm sc (.ret c) st = true) (q : ∀ e p, bE N nm sc c e = true → m (.Return (some e) p)) : m st := stReturn_m hb fun e p h => oB_m (m := fun e => m (.Return e p)) h fun e h => q e p h
theorem i_if {c : CE} {a b : CSs} (hb : bS N nm sc (.ifS c a b) st = true) (q : ∀ t x y p, bE N nm sc c t = true → bSs N nm sc a x = true → bSs N nm sc b y = true → m (.If t x y p)) : m st :=
  stIf_m hb fun t x y p h => band_k h fun h1 h2 => band_k h2 (q t x y p h1)
theorem i_while {n : Nat} {c : CE} {b : CSs} (hb : bS N nm sc (.whileS n c b) st = true) (q : ∀ t x p, bE N nm sc c t = true → bSs N nm sc b x = true → m (.While t x [] p)) : m st :=
  stWhile_m hb fun t x y p h => band_k h fun h1 h2 => none0_k h1 ▸ band_k h2 (q t x p)
theorem i_for {t : Tg} {it : IT} {b : CSs} (hb : bS N nm sc (.forS t it b) st = true) (q : ∀ g i x p, tgOk t nm sc g = true → notSet i = true → bIT N nm sc it i = true → bSs N nm sc b x = true → m (.For g i x [] p)) : m st :=
  stFor_m hb fun g i x y p h => band_k h fun h1 h2 => band_k h1 fun h1 h3 => none0_k h1 ▸ band_k h2 fun h2 h4 => band_k h4 (q g i x p h3 h2)
end
section
variable {prog : Program} {w : World} {cls : Cls} {B : Base} {μ μ' : Mu} {H H' : AH} {s s' : Shared} {h h' : Heap} {A : Around}

noncomputable abbrev F0 : Value → Shared → Prop := fun _ _ => False
noncomputable abbrev WP (prog : Program) (w : World) (A : Around) {α : Type} (t : Sem α) (Q : α → Shared → Prop) (s : Shared) : Prop := wpAny (model prog w) A t Q F0 s
theorem WP.any {α : Type} {t : Sem α} {Q : α → Shared → Prop} {E : Value → Shared → Prop} (x : WP prog w A t Q s) : wpAny (model prog w) A t Q E s := wpAny_mono x (fun _ _ q => q) fun _ _ f => f.elim
theorem WP.mono {α : Type} {t : Sem α} {Q Q' : α → Shared → Prop} (x : WP prog w A t Q s) (q : ∀ a s, Q a s → Q' a s) : WP prog w A t Q' s := wpAny_mono x q fun _ _ f => f

structure AOk (A : Around) (d u : Nat) : Prop where
  handled : A.handled = none
  guards : A.guards = some []
  depth : A.depth + d < recursionLimit
  units : A.units + u < cLine
theorem AOk.le {d u d' u' : Nat} (x : AOk A d u) (hd : d' ≤ d) (hu : u' ≤ u) : AOk A d' u' :=
  ⟨x.handled, x.guards, Nat.lt_of_le_of_lt (Nat.add_le_add_left hd _) x.depth, Nat.lt_of_le_of_lt (Nat.add_le_add_left hu _) x.units⟩
theorem AOk.deeper {d u : Nat} {env : Env} (x : AOk A (d + 1) (u + 3)) : AOk (A.deeper env) d u :=
  ⟨x.handled, x.guards, by have := x.depth; show A.depth + 1 + d < _; omega, by have := x.units; show A.units + 3 + u < _; omega⟩
theorem AOk.in1 {d u : Nat} (x : AOk A d (u + 1)) : AOk A.in1 d u :=
  ⟨x.handled, x.guards, x.depth, by have := x.units; show A.units + 1 + u < _; omega⟩

structure FR (B : Base) (env : Env) (nm : List Str) (vs : Vars) (μ : Mu) (h : Heap) : Prop where
  kind : env.scope.kind = .function
  globals : env.globals = mainGlobals
  builtins : env.builtins = builtinsNs
  len : vs.length = nm.length
  ns : ∃ m, h.Ns env.locals m ∧ ∀ (i : Nat) (x : Str) (a : AV), nm[i]? = some x → vs[i]? = some (some a) → ∃ v, VR μ h a v ∧
    ((env.kindOf x = some .local ∧ m x = some v) ∨ (env.kindOf x = some .cell ∧ ∃ c, env.cells.lookup x = some c ∧ h.IsCell c (some v)))
  offL : Off μ env.locals
  newL : B env.locals = none
  cell : ∀ x c, env.cells.lookup x = some c → (∃ v, h.IsCell c v) ∧ Off μ c ∧ B c = none ∧ c ≠ env.locals
  apart : ∀ x y c, env.cells.lookup x = some c → env.cells.lookup y = some c → x = y
  has : ∀ x, env.kindOf x = some .cell → ∃ c, env.cells.lookup x = some c

theorem Ns.to {a : Addr} {m : Str → Option Value} (x : h.Ns a m) (k : ∀ o, h.get? a = some o → h'.get? a = some o) : h'.Ns a m :=
  let ⟨o, es, ep, ho, r⟩ := x; ⟨o, es, ep, k o ho, r⟩
theorem Ns.at_ {a : Addr} {m : Str → Option Value} (x : h.Ns a m) : ∃ o, h.get? a = some o := let ⟨o, _, _, ho, _⟩ := x; ⟨o, ho⟩
theorem off_le (x : Le μ s μ' s') {a : Addr} {o : Obj} (e : s.heap.get? a = some o) (n : Off μ a) : Off μ' a := by
  obtain ⟨ν, rfl, f⟩ := x.ext
  intro hm
  rw [List.map_append, List.mem_append] at hm
  rcases hm with hm | hm
  · exact n hm
  · obtain ⟨p, hp, rfl⟩ := List.mem_map.mp hm
    rw [(f p hp).2] at e; cases e

theorem FR.le {env : Env} {nm : List Str} {vs : Vars} (F : FR B env nm vs μ s.heap) (S : SR w cls B μ H s.heap) (x : Le μ s μ' s') : FR B env nm vs μ' s'.heap :=
  { kind := F.kind, globals := F.globals, builtins := F.builtins, len := F.len
    ns := F.ns.imp fun m z => ⟨Ns.to z.1 fun o e => x.keep _ o e F.offL, fun i y a e1 e2 => (z.2 i y a e1 e2).imp fun v z => ⟨z.1.le S x, z.2.imp id fun z => ⟨z.1, z.2.imp fun c z => ⟨z.1, z.2.imp fun o w => ⟨x.keep _ _ w.1 (F.cell y c z.1).2.1, w.2⟩⟩⟩⟩⟩
    offL := (Ns.at_ F.ns.choose_spec.1).elim fun _ e => off_le x e F.offL
    newL := F.newL
    cell := fun y c e => let z := F.cell y c e; ⟨z.1.imp fun v w => w.imp fun o w => ⟨x.keep _ _ w.1 z.2.1, w.2⟩, z.1.elim fun _ w => w.elim fun _ w => off_le x w.1 z.2.1, z.2.2⟩
    apart := F.apart, has := F.has }
theorem isVar_dbg {sc : Scope} {x : Str} (h : isVar sc x = true) : (x == ("__debug__" : Str)) = false := band_k h fun h _ => band_k h fun _ h => Bool.not_eq_true' _ ▸ h
theorem load_var {env : Env} {nm : List Str} {vs : Vars} {i : Nat} {x : Str} {a : AV} {pos : Pos} {Q : Value → Shared → Prop} (F : FR B env nm vs μ s.heap) (e1 : nm[i]? = some x) (e2 : vs[i]? = some (some a)) (hd : isVar env.scope x = true)
    (q : ∀ v, VR μ s.heap a v → Q v s) : WP prog w A (eval (.Name x pos) env) Q s :=
  wpAny_Name (F.ns.elim fun _ z => (z.2 i x a e1 e2).elim fun v y => y.2.elim (fun k => wpAny_loadName_local F.kind k.1 z.1 k.2 (q v y.1))
    fun k => k.2.elim fun _ c => wpAny_loadName_cell F.kind k.1 c.1 c.2 (q v y.1)) (isVar_dbg hd)

theorem nodup_idx {nm : List Str} (n : nm.Nodup) {i j : Nat} {x : Str} (hi : nm[i]? = some x) (hj : nm[j]? = some x) : i = j := by
  obtain ⟨li, ei⟩ := List.getElem?_eq_some_iff.mp hi
  obtain ⟨lj, ej⟩ := List.getElem?_eq_some_iff.mp hj
  have n' := List.pairwise_iff_getElem.mp n
  rcases Nat.lt_trichotomy i j with q | q | q
  · exact absurd (ei.trans ej.symm) (n' i j li lj q)
  · exact q
  · exact absurd (ej.trans ei.symm) (n' j i lj li q)
end
section
variable {prog : Program} {w : World} {cls : Cls} {B : Base} {μ μ' : Mu} {H H' : AH} {s s' : Shared} {h h' : Heap} {A : Around}

inductive PV (w : World) (cls : Cls) (B : Base) (μ : Mu) (s : Shared) (Q : K1) (v : Value) (s' : Shared) : Prop
  | mk (a : AV) (μ' : Mu) (H' : AH) (q : Q a H') (S : SR w cls B μ' H' s'.heap) (L : Le μ s μ' s') (r : VR μ' s'.heap a v)
noncomputable def Ret (w : World) (cls : Cls) (B : Base) (μ : Mu) (s : Shared) (Q : K1) (R : Value → Shared → Prop) : Prop :=
  ∀ v s' a μ' H', Q a H' → SR w cls B μ' H' s'.heap → Le μ s μ' s' → VR μ' s'.heap a v → R v s'
theorem Ret.from {Q : K1} {R : Value → Shared → Prop} (k : Ret w cls B μ s Q R) (L : Le μ s μ' s') : Ret w cls B μ' s' Q R := fun v s2 a μ2 H2 q S L2 r => k v s2 a μ2 H2 q S (L.trans L2) r
theorem Ret.pv (Q : K1) : Ret w cls B μ s Q (PV w cls B μ s Q) := fun _ _ a μ2 H2 q S L r => ⟨a, μ2, H2, q, S, L, r⟩
theorem PV.ret {Q : K1} {R : Value → Shared → Prop} {v : Value} {s' : Shared} (x : PV w cls B μ s Q v s') (k : Ret w cls B μ s Q R) : R v s' := x.casesOn fun a μ2 H2 q S L r => k v s' a μ2 H2 q S L r
theorem Le.tok (tk : Nat) : Le μ s μ { s with toks := tk } := ⟨rfl, rfl, rfl, ⟨[], by simp, fun _ h => nomatch h⟩, fun _ _ e _ => e, fun _ o e => ⟨o, e⟩⟩
theorem Ret.same {Q : K1} {R : Value → Shared → Prop} {a : AV} {v : Value} (k : Ret w cls B μ s Q R) (S : SR w cls B μ H s.heap) (q : Q a H) (r : VR μ s.heap a v) : R v s := k v s a μ H q S (Le.refl ..) r
theorem Ret.tok {Q : K1} {R : Value → Shared → Prop} {a : AV} {v : Value} {tk : Nat} (k : Ret w cls B μ s Q R) (S : SR w cls B μ H s.heap) (q : Q a H) (r : VR μ s.heap a v) : R v { s with toks := tk } := k v _ a μ H q S (Le.tok tk) r
theorem Ret.list {Q : K1} {R : Value → Shared → Prop} {as : List AV} {vs : Array Value} {tk : Nat} (k : Ret w cls B μ s Q R) (S : SR w cls B μ H s.heap) (r : VRs μ s.heap as vs.toList) (q : Q (.ref H.length) (H ++ [.list as])) :
    R (.ref s.heap.objs.size) { s with heap := s.heap.push { cls := .type "list", data := .seq vs }, toks := tk } :=
  have z := S.newList (tk := tk) r; k _ _ _ _ _ q z.1 z.2.1 z.2.2
theorem Ret.tup {Q : K1} {R : Value → Shared → Prop} {as : List AV} {vs : Array Value} {a : AV} {tk : Nat} (k : Ret w cls B μ s Q R) (S : SR w cls B μ H s.heap) (r : VRs μ s.heap as vs.toList) (e : mkTup as = a) (q : Q a H) :
    R (.ref s.heap.objs.size) { s with heap := s.heap.push { cls := .type "tuple", data := .seq vs }, toks := tk } :=
  have z := S.newTuple (tk := tk) r; k _ _ _ _ _ q z.1 z.2.1 (e ▸ z.2.2)
theorem vr_int (n : Int) (t : Tok) : VR μ h (.i n) (.int n t) := .py (.int n t)
theorem vr_bool (b : Bool) : VR μ h (.b b) (.bool b) := .py (.bool b)
theorem vr_str (x : Str) (t : Tok) : VR μ h (.s x) (.str x t) := .py (.str x t)
theorem vr_none : VR μ h (.py .none) .none := .py .none

theorem VR.dat {x : AV} {v : Value} {d : PyData} (r : VR μ h x v) (e : vD x = some d) : Reads h v d [] := by rw [vD_k e] at r; exact r.inv
theorem VR.int_m {x : AV} {v : Value} {n : Int} (r : VR μ h x v) (e : vInt x = some n) {m : Value → Prop} (k : ∀ t, m (.int n t)) : m v := by
  rw [vInt_k e] at r; exact (reads_int_inv r.inv).elim fun t z => z.1 ▸ k t
theorem VR.str_m {x : AV} {v : Value} {n : Str} (r : VR μ h x v) (e : vStr x = some n) {m : Value → Prop} (k : ∀ t, m (.str n t)) : m v := by
  rw [vStr_k e] at r; exact (reads_str_inv r.inv).elim fun t z => z.1 ▸ k t
theorem VR.bool_m {x : AV} {v : Value} {n : Bool} (r : VR μ h x v) (e : vBool x = some n) {m : Value → Prop} (k : m (.bool n)) : m v := by
  rw [vBool_k e] at r; exact (reads_bool_inv r.inv).1 ▸ k
theorem VR.none_m {x : AV} {v : Value} (r : VR μ h x v) (e : isNn x = true) {m : Value → Prop} (k : m .none) : m v := by
  rw [isNn_k e] at r; exact (reads_none_inv r.inv).1 ▸ k
theorem VR.ref_m {x : AV} {v : Value} {i : Nat} (r : VR μ h x v) (e : vR x = some i) {m : Value → Prop} (k : ∀ p, μ[i]? = some p → m (.ref p.1)) : m v := by
  rw [vR_k e] at r; exact r.inv.elim fun p z => z.2 ▸ k p z.1
theorem pair_m {m : Addr × Addr → Prop} {p : Addr × Addr} (e : p.1 = p.2) (k : ∀ l, m (l, l)) : m p := by
  induction p using Prod.casesOn with
  | mk a b => exact (show a = b from e) ▸ k a
theorem list_m (S : SR w cls B μ H h) {j : Nat} {x : AV} {v : Value} {xs : List AV} (r : VR μ h x v) (e : vR x = some j) (e2 : hL H j = some xs) {m : Value → Prop}
    (k : ∀ l vs n, μ[j]? = some (l, l) → IsL h l vs n → VRs μ h xs vs.toList → m (.ref l)) : m v :=
  r.ref_m e fun p hp => S.at_k (hL_k e2) fun q hq o => by
    rw [hp] at hq; cases Option.some.inj hq
    exact pair_m (m := fun p => μ[j]? = some p → (∃ vs n, IsL h p.2 vs n ∧ VRs μ h xs vs.toList) → m (.ref p.1)) o.1 (fun l hp o => o.elim fun vs o => o.elim fun n o => k l vs n hp o.1 o.2) hp o.2
theorem dict_m (S : SR w cls B μ H h) {j : Nat} {x : AV} {v : Value} {es : List (PyData × AV)} (r : VR μ h x v) (e : vR x = some j) (e2 : H[j]? = some (.dict es)) {m : Value → Prop}
    (k : ∀ l d n, μ[j]? = some (l, l) → (l == sysModules) = false → (es.map (·.1)).Nodup → h.get? l = some (dictOf d n) → DR w μ h es d → m (.ref l)) : m v :=
  r.ref_m e fun p hp => S.at_k e2 fun q hq o => by
    rw [hp] at hq; cases Option.some.inj hq
    exact pair_m (m := fun p => μ[j]? = some p → (((p.2 == sysModules) = false ∧ (es.map (·.1)).Nodup) ∧ ∃ r n, h.get? p.2 = some (dictOf r n) ∧ DR w μ h es r) → m (.ref p.1)) o.1
      (fun l hp o => o.2.elim fun d o2 => o2.elim fun n o2 => k l d n hp o.1.1 o.1.2 o2.1 o2.2) hp o.2
theorem inst_m (S : SR w cls B μ H h) {j c : Nat} {x : AV} {v : Value} {fs : List (Str × AV)} (r : VR μ h x v) (e : vR x = some j) (e2 : H[j]? = some (.inst c fs)) {m : Value → Prop}
    (k : ∀ p d n, μ[j]? = some p → h.get? p.1 = some (instObj (cls c) p.2) → h.get? p.2 = some (dictOf d n) → FD μ h fs d → m (.ref p.1)) : m v :=
  r.ref_m e fun p hp => S.at_k e2 fun q hq o => by
    rw [hp] at hq; cases Option.some.inj hq
    exact o.elim fun d o => o.elim fun n o => k p d n hp o.1 o.2.1 o.2.2
theorem list_reads {xs : List AV} {ds : List PyData} {vs : Array Value} {a : Addr} {n : Nat} (hl : IsL h a vs n) (r : VRs μ h xs vs.toList) (e : allPy xs = some ds) : ∃ as, Reads h (.ref a) (.list ds) as := ⟨_, .list hl rfl rfl (r.reads e)⟩
theorem VRs.size {xs : List AV} {vs : Array Value} (r : VRs μ h xs vs.toList) : vs.size = xs.length := r.length.symm
theorem u64 {u : Nat} (k : AOk A 0 (u + 70)) : A.units + 64 < cLine := Nat.lt_of_le_of_lt (Nat.add_le_add_left (Nat.le_trans (by decide) (Nat.le_add_left 70 u)) _) k.units
theorem u0 {u : Nat} (k : AOk A 0 (u + 70)) : A.units < cLine := Nat.lt_of_le_of_lt (Nat.le_add_right _ _) k.units

theorem rc_emp {a b : Addr} {vs ws : Array Value} (l1 : s.heap.IsList a vs) (l2 : s.heap.IsList b ws) (h1 : vs.size = 0) (h2 : ws.size = 0) (hu : A.units < cLine) : SeqAt.RcAt A s (.ref a) (.ref b) true ∧ SeqAt.RcNeAt A s (.ref a) (.ref b) false := by
  have he : ∀ j (h1 : j < vs.size) (h2 : j < ws.size), SeqAt.EqAt A.in1 s vs[j] ws[j] ((fun _ => true) j) := fun j h => absurd (h1 ▸ h) (Nat.not_lt_zero _)
  have x := SeqAt.RcAt.lists l1 l2 (h1.trans h2.symm) hu he
  have y := SeqAt.RcNeAt.lists l1 l2 (h1.trans h2.symm) hu he
  rw [h1] at x y; exact ⟨x, y⟩
theorem rc_len {a b : Addr} {vs ws : Array Value} (l1 : s.heap.IsList a vs) (l2 : s.heap.IsList b ws) (h1 : vs.size ≠ ws.size) (hu : A.units < cLine) : SeqAt.RcAt A s (.ref a) (.ref b) false ∧ SeqAt.RcNeAt A s (.ref a) (.ref b) true :=
  ⟨SeqAt.RcAt.lists_lengths l1 l2 (bne_iff_ne.mpr h1) hu, SeqAt.RcNeAt.lists_lengths l1 l2 (bne_iff_ne.mpr h1) hu⟩
theorem eqL_sound {u : Nat} {a b : Addr} {vs ws : Array Value} {n m : Nat} (k : AOk A 0 (u + 70)) (l1 : IsL s.heap a vs n) (l2 : IsL s.heap b ws m) : ∀ (xs ys : List AV) {t : Bool}, VRs μ s.heap xs vs.toList → VRs μ s.heap ys ws.toList → eqL xs ys = some t →
    SeqAt.RcAt A s (.ref a) (.ref b) t ∧ SeqAt.RcNeAt A s (.ref a) (.ref b) (!t)
  | [], [], _, t1, t2, e => Option.some.inj e ▸ rc_emp (IsL.isList l1) (IsL.isList l2) t1.size t2.size (u0 k)
  | [], _ :: _, _, t1, t2, e => Option.some.inj e ▸ rc_len (IsL.isList l1) (IsL.isList l2) (by rw [t1.size, t2.size]; exact nofun) (u0 k)
  | _ :: _, [], _, t1, t2, e => Option.some.inj e ▸ rc_len (IsL.isList l1) (IsL.isList l2) (by rw [t1.size, t2.size]; exact nofun) (u0 k)
  | _ :: _, _ :: _, _, t1, t2, e => ob_k e fun _ a1 e => ob_k e fun _ a2 e => gB_k e fun hs e => shp2 hs fun g1 g2 => (list_reads l1 t1 a1).elim fun _ r1 => (list_reads l2 t2 a2).elim fun _ r2 =>
    Option.some.inj e ▸ ⟨fun _ _ _ _ q => eq_dataH r1 r2 g1 g2 (u64 k) q, fun _ _ _ _ q => ne_dataH r1 r2 g1 g2 (u64 k) q⟩
theorem eq_sound {x y : AV} {a b : Value} {t : Bool} {u : Nat} (S : SR w cls B μ H s.heap) (k : AOk A 0 (u + 70)) (rx : VR μ s.heap x a) (ry : VR μ s.heap y b) (e : eqA x y H = some t) :
    SeqAt.RcAt A s a b t ∧ SeqAt.RcNeAt A s a b (!t) := by
  induction x using AV.casesOn with
  | py d => exact ob_k e fun _ e1 e => gB_k e fun hs e => shp2 hs fun g1 g2 => Option.some.inj e ▸ ⟨fun _ _ _ _ q => eq_dataH rx.inv (ry.dat e1) g1 g2 (u64 k) q, fun _ _ _ _ q => ne_dataH rx.inv (ry.dat e1) g1 g2 (u64 k) q⟩
  | ref i => exact ob_k e fun j e1 e => ob_k e fun xs ex e => ob_k e fun ys ey e => list_m S rx rfl ex (m := fun a => SeqAt.RcAt A s a b t ∧ SeqAt.RcNeAt A s a b (!t)) fun l vs n _ hl r1 => list_m S ry e1 ey (m := fun b => SeqAt.RcAt A s (.ref l) b t ∧ SeqAt.RcNeAt A s (.ref l) b (!t)) fun l2 ws m _ hl2 r2 => eqL_sound k hl hl2 xs ys r1 r2 e
  | mix _ => exact nos e
  | fro _ => exact nos e
end
section
variable {prog : Program} {w : World} {cls : Cls} {B : Base} {μ μ' : Mu} {H H' : AH} {s s' : Shared} {h h' : Heap} {A : Around}

theorem VR.tup_m {a : AV} {xs : List AV} {v : Value} (r : VR μ h a v) (e : tupOf a = some xs) {m : Value → Prop} (k : ∀ t vs, IsTup h t vs → VRs μ h xs vs.toList → m (.ref t)) : m v := by
  induction a using AV.casesOn with
  | py d =>
    refine om_k e fun ds e1 e2 => ?_
    rw [pTup_k e1] at r
    exact (reads_tup_inv r.inv).elim fun t z => z.elim fun o z => z.elim fun vs z => z.elim fun n z => z.1 ▸ k t vs ⟨o, z.2.1, z.2.2.1, n, z.2.2.2.1⟩ (e2 ▸ VRs.ofReads z.2.2.2.2 rfl)
  | mix ys => exact r.inv.elim fun t z => z.elim fun o z => z.elim fun vs z => z.elim fun n z => z.1 ▸ k t vs ⟨o, z.2.1, z.2.2.1, n, z.2.2.2.1⟩ (Option.some.inj e ▸ z.2.2.2.2)
  | ref _ => exact nos e
  | fro _ => exact nos e
theorem canLayAll_of_shaped {ds : List PyData} (h : SeqAt.shaped (.list ds) = true) : PyData.canLayAll0 ds = true := SeqAt.canLay_of_shaped h
theorem canLayAll_of_shapedT {ds : List PyData} (h : SeqAt.shaped (.tuple ds) = true) : PyData.canLayAll0 ds = true := SeqAt.canLay_of_shaped h
noncomputable def FzOk (w : World) (cls : Cls) (B : Base) (F : Frz) : Prop := ∀ p o, F p = some o → ∀ h : Heap, (∀ a q, B a = some q → h.get? a = some q) → OR w cls [] h o p
theorem VR.up {a : AV} {v : Value} (r : VR [] h a v) : VR μ h a v := r.mono (fun i p e => nos e) (TK.refl h)
theorem OR.up {o : AO} {p : Addr × Addr} (x : OR w cls [] h o p) : OR w cls μ h o p :=
  x.mono_ne (fun i p e => nos e) (TK.refl h) (fun _ e => e) (fun _ e => e)
theorem obj_m {F : Frz} (fz : FzOk w cls B F) (S : SR w cls B μ H h) {x : AV} {v : Value} {o : AO} (r : VR μ h x v) (e : getO F H x = some o) {m : Value → Prop} (k : ∀ p, OR w cls μ h o p → m (.ref p.1)) : m v := by
  induction x using AV.casesOn with
  | py _ => exact nos e
  | ref i => exact r.ref_m rfl fun p hp => S.at_k e fun q hq z => k p (Option.some.inj (hq.symm.trans hp) ▸ z)
  | mix _ => exact nos e
  | fro p => exact (show v = .ref p.1 from r.inv) ▸ k p (fz _ _ e h S.base).up
theorem olist_m {F : Frz} (fz : FzOk w cls B F) (S : SR w cls B μ H h) {x : AV} {v : Value} {xs : List AV} (r : VR μ h x v) (e : getO F H x = some (.list xs)) {m : Value → Prop} (k : ∀ l vs n, IsL h l vs n → VRs μ h xs vs.toList → m (.ref l)) : m v :=
  obj_m fz S r e fun _ o => pair_m (m := fun p => (∃ vs n, IsL h p.2 vs n ∧ VRs μ h xs vs.toList) → m (.ref p.1)) o.1 (fun l o => o.elim fun vs o => o.elim fun n o => k l vs n o.1 o.2) o.2
theorem odict_m {F : Frz} (fz : FzOk w cls B F) (S : SR w cls B μ H h) {x : AV} {v : Value} {es : List (PyData × AV)} (r : VR μ h x v) (e : getO F H x = some (.dict es)) {m : Value → Prop}
    (k : ∀ l d n, (l == sysModules) = false → (es.map (·.1)).Nodup → h.get? l = some (dictOf d n) → DR w μ h es d → m (.ref l)) : m v :=
  obj_m fz S r e fun _ o => pair_m (m := fun p => (((p.2 == sysModules) = false ∧ (es.map (·.1)).Nodup) ∧ ∃ r n, h.get? p.2 = some (dictOf r n) ∧ DR w μ h es r) → m (.ref p.1)) o.1
    (fun l o => o.2.elim fun d o2 => o2.elim fun n o2 => k l d n o.1.1 o.1.2 o2.1 o2.2) o.2
theorem oinst_m {F : Frz} (fz : FzOk w cls B F) (S : SR w cls B μ H h) {x : AV} {v : Value} {c : Nat} {fs : List (Str × AV)} (r : VR μ h x v) (e : getO F H x = some (.inst c fs)) {m : Value → Prop}
    (k : ∀ (p : Addr × Addr) (d : List DictEntry) (n : Nat), h.get? p.1 = some (instObj (cls c) p.2) → h.get? p.2 = some (dictOf d n) → FD μ h fs d → m (.ref p.1)) : m v :=
  obj_m fz S r e fun p o => o.elim fun d o => o.elim fun n o => k p d n o.1 o.2.1 o.2.2
theorem items_m {F : Frz} (fz : FzOk w cls B F) (S : SR w cls B μ H h) {x : AV} {v : Value} {xs : List AV} (r : VR μ h x v) (e : itemsA F x H = some xs) {m : Value → Prop}
    (k1 : ∀ t vs, tupOf x = some xs → IsTup h t vs → VRs μ h xs vs.toList → m (.ref t)) (k2 : ∀ l vs n, getO F H x = some (.list xs) → IsL h l vs n → VRs μ h xs vs.toList → m (.ref l)) : m v := by
  unfold itemsA at e
  cases ht : tupOf x with
  | some ys => rw [ht] at e; cases Option.some.inj e; exact r.tup_m ht fun t vs => k1 t vs ht
  | none => rw [ht] at e; exact ob_k e fun o e1 e2 => olist_m fz S r (oL_k e2 ▸ e1) fun l vs n => k2 l vs n (oL_k e2 ▸ e1)

theorem room_line : room ≤ sizeLine := by decide +kernel
theorem rooml {n : Nat} (h : Nat.ble n room = true) : n ≤ sizeLine := Nat.le_trans (Nat.le_of_ble_eq_true h) room_line

theorem nn_dat {a : Value} {d : PyData} {as : List Addr} (r : Reads h a d as) : (a == Value.none) = isNnD d := by
  refine Reads.rec (motive_1 := fun a d _ _ => (a == Value.none) = isNnD d) (motive_2 := fun _ _ _ _ => True) rfl (fun _ => rfl) (fun _ _ => rfl) (fun _ _ => rfl) ?_ ?_ ?_ trivial ?_ r <;> intros <;> first | rfl | trivial
theorem nn_val {x : AV} {a : Value} (rx : VR μ h x a) : (a == Value.none) = isNn x := by
  induction x using AV.casesOn with
  | py d => exact nn_dat rx.inv
  | ref i => exact rx.ref_m (m := fun a => (a == Value.none) = false) rfl fun p _ => rfl
  | mix ys => exact rx.tup_m (m := fun a => (a == Value.none) = false) rfl fun p _ _ _ => rfl
  | fro p => exact (show a = .ref p.1 from rx.inv) ▸ rfl
theorem in_seq_sound {F : Frz} {x y : AV} {a b : Value} {t : Bool} {u : Nat} (fz : FzOk w cls B F) (S : SR w cls B μ H s.heap) (k : AOk A 0 (u + 70)) (rx : VR μ s.heap x a) (ry : VR μ s.heap y b) (e : inA F x y H = some t)
    {G : Prop} (kd : ∀ d es, vD x = some d → getO F H y = some (.dict es) → keyOk es d = true → (dget es d).isSome = t → G)
    (kk : (∀ Q : Value → Shared → Prop, Q (.bool t) s → WP prog w A (compareOp .In a b) Q s) → (∀ Q : Value → Shared → Prop, Q (.bool (!t)) s → WP prog w A (compareOp .NotIn a b) Q s) → G) : G := by
  refine ob_k e fun d ed e => ?_
  have r1 := rx.dat ed
  have hun : SeqAt.shaped d = true → ∀ n, A.units + 1 + min n d.depth < cLine := fun g n => Nat.lt_of_le_of_lt (Nat.le_trans (Nat.le_of_eq (Nat.add_right_comm ..)) (Nat.add_le_add_left (Nat.succ_le_succ (Nat.le_trans (Nat.min_le_right _ _) (SeqAt.depth_of_shaped g))) _)) (Nat.lt_of_le_of_lt (Nat.add_le_add_left (Nat.le_trans (by decide) (Nat.le_add_left 70 u)) _) k.units)
  cases hy : vTup y with
  | some ds =>
    rw [hy] at e
    refine gB_k e fun hs e => shp2 hs fun g1 g2 => ?_
    cases Option.some.inj e
    rw [vTup_k hy] at ry
    exact kk (fun Q q => SeqAt.in_tuple_reads ry.inv r1 (canLayAll_of_shapedT g2) (SeqAt.canLay_of_shaped g1) (hun g1 _) q) fun Q q => SeqAt.notIn_tuple_reads ry.inv r1 (canLayAll_of_shapedT g2) (SeqAt.canLay_of_shaped g1) (hun g1 _) q
  | none =>
    rw [hy] at e
    refine ob_k e fun o eo e => ?_
    induction o using AO.casesOn with
    | list ys =>
      refine ob_k e fun ds ed e => gB_k e fun hs e => shp2 hs fun g1 g2 => ?_
      cases Option.some.inj e
      exact olist_m (m := fun b => ((∀ Q : Value → Shared → Prop, Q (.bool _) s → WP prog w A (compareOp .In a b) Q s) → (∀ Q : Value → Shared → Prop, Q (.bool (!_)) s → WP prog w A (compareOp .NotIn a b) Q s) → G) → G) fz S ry eo
        (fun l vs n hl rl kk => (list_reads hl rl ed).elim fun _ rc => kk (fun Q q => SeqAt.in_list_reads rc r1 (canLayAll_of_shaped g2) (SeqAt.canLay_of_shaped g1) (hun g1 _) q) fun Q q => SeqAt.notIn_list_reads rc r1 (canLayAll_of_shaped g2) (SeqAt.canLay_of_shaped g1) (hun g1 _) q) kk
    | dict es => exact gB_k e fun hk e => kd d es ed eo hk (Option.some.inj e)
    | inst _ _ => exact nos e
theorem iop_k {β : Type} {x y : AV} {f : Int → Int → Option β} {r : β} (e : iop x y f = some r) {G : Prop} (k : ∀ a b, vInt x = some a → vInt y = some b → f a b = some r → G) : G := ob_k e fun a h1 e => ob_k e fun b h2 e => k a b h1 h2 e
theorem iop_m {β : Type} {x y : AV} {f : Int → Int → Option β} {r : β} {a b : Value} (rx : VR μ h x a) (ry : VR μ h y b) (e : iop x y f = some r) {m : Value → Value → Prop} (k : ∀ i j t u, f i j = some r → m (.int i t) (.int j u)) : m a b :=
  iop_k e fun i j h1 h2 e => rx.int_m h1 (m := fun a => m a b) fun t => ry.int_m h2 fun u => k i j t u e
set_option tactic.hygienic true in
theorem smallI_bits {a : Int} (h : smallI a = true) : Builtin.Int.intBits a ≤ 64 := by
  have h := Nat.le_of_ble_eq_true h
  unfold Builtin.Int.intBits
  split
  · exact Nat.zero_le _
  · rename_i h0
    have h1 : a.natAbs ≠ 0 := fun z => h0 (by rw [Int.natAbs_eq_zero.mp z]; rfl)
    exact Nat.le_trans (show a.natAbs.log2 < 63 from (Nat.log2_lt h1).mpr (Nat.lt_of_le_of_lt h (by decide))) (by decide)
theorem ob_of {α β : Type} {o : Option α} {f : α → Option β} {a : α} {r : β} (e : o = some a) (e2 : f a = some r) : o.bind f = some r := by subst e; exact e2
theorem kr {K : K1} {a : AV} {H : AH} {r : AV × AH} (e : some (a, H) = some r) (q : K r.1 r.2) : K a H := by cases e; exact q
theorem add_sound {x y : AV} {a b : Value} {r : AV × AH} (S : SR w cls B μ H s.heap) (rx : VR μ s.heap x a) (ry : VR μ s.heap y b) (e : addA x y H = some r)
    {R : Value → Shared → Prop} {K : K1} (kq : K r.1 r.2) (q : Ret w cls B μ s K R) : WP prog w A (binaryOp .Add a b) R s := by
  revert rx e
  induction x using AV.casesOn with
  | py d =>
    intro rx e
    refine ob_k e fun d2 e2 e => ?_
    revert rx e
    induction d using PyData.casesOn with
    | int i => exact fun rx e => ob_k e fun j e3 e => rx.int_m (n := i) rfl (m := fun a => WP prog w A (binaryOp .Add a b) R s) fun t => ry.int_m (ob_of e2 e3) (m := fun b => WP prog w A (binaryOp .Add (.int i t) b) R s) fun u => PySem.P.add_int (q.tok S (kr e kq) (vr_int _ _))
    | str i => exact fun rx e => ob_k e fun j e3 e => gB_k e fun hz e => rx.str_m (n := i) rfl (m := fun a => WP prog w A (binaryOp .Add a b) R s) fun t => ry.str_m (ob_of e2 e3) (m := fun b => WP prog w A (binaryOp .Add (.str i t) b) R s) fun u => add_str (fun t' tk => q.tok S (kr e kq) (vr_str _ _)) (rooml hz)
    | _ => exact fun _ e => nos e
  | ref i =>
    refine fun rx e => ob_k e fun j e1 e => ob_k e fun xs ex e => ob_k e fun ys ey e => gB_k e fun hz e => list_m S rx rfl ex (m := fun a => WP prog w A (binaryOp .Add a b) R s) fun l vs n _ hl r1 => list_m S ry e1 ey (m := fun b => WP prog w A (binaryOp .Add (.ref l) b) R s) fun l2 vs2 n2 _ hl2 r2 => ?_
    exact PySem.P.add_list hl hl2 (q.list S ((Array.toList_append (xs := vs) (ys := vs2)).symm ▸ r1.append r2) (kr e kq)) (by rw [r1.size, r2.size]; exact rooml hz)
  | mix _ => exact fun _ e => nos e
  | fro _ => exact fun _ e => nos e
theorem bin_sound {op : BOp} {x y : AV} {a b : Value} {r : AV × AH} (S : SR w cls B μ H s.heap) (rx : VR μ s.heap x a) (ry : VR μ s.heap y b) (e : binA op x y H = some r)
    {R : Value → Shared → Prop} {K : K1} (kq : K r.1 r.2) (q : Ret w cls B μ s K R) : WP prog w A (binaryOp (opM op) a b) R s := by
  induction op using BOp.casesOn with
  | add => exact add_sound S rx ry e kq q
  | sub => exact iop_m rx ry e (m := fun a b => WP prog w A (binaryOp .Sub a b) R s) fun i j t u e => PySem.P.sub_int (q.tok S (kr e kq) (vr_int _ _))
  | mul => exact iop_m rx ry e (m := fun a b => WP prog w A (binaryOp .Mult a b) R s) fun i j t u e => gB_k e fun hs e => PySem.P.mul_int (q.tok S (kr e kq) (vr_int _ _)) (IntMulOk.of_left (smallI_bits (Bool.and_eq_true_iff.mp hs).1))
  | fdiv =>
    refine iop_m rx ry e (m := fun a b => WP prog w A (binaryOp .FloorDiv a b) R s) fun i j t u e => gB_k e fun hs e => ?_
    have h1 := of_decide_eq_true (Bool.and_eq_true_iff.mp hs).1
    have h2 := of_decide_eq_true (Bool.and_eq_true_iff.mp hs).2
    exact floordiv_int (Int.ne_of_gt h1) (q.tok S (kr e kq) (vr_int _ _)) (Or.inl (PyProof.noPylong_small (by omega)))
  | mod => exact iop_m rx ry e (m := fun a b => WP prog w A (binaryOp .Mod a b) R s) fun i j t u e => gB_k e fun hs e => mod_int' (Int.ne_of_gt (of_decide_eq_true hs)) (q.tok S (kr e kq) (vr_int _ _))
end
section
variable {prog : Program} {w : World} {cls : Cls} {B : Base} {μ μ' : Mu} {H H' : AH} {s s' : Shared} {h h' : Heap} {A : Around}

noncomputable def HasGet (T : String) : Prop := ∃ id, typeLookup (.type T) "__getitem__" = pure (some (.builtin id))
noncomputable def GetQ (prog : Program) (w : World) (A : Around) (Q : Value → Shared → Prop) (s : Shared) (o i : Value) : Prop := ∃ T, HasGet T ∧ s.TypeIs o T ∧ WP prog w A (getItem o i) Q s
theorem subscr (slice : PySem.Expr) (o i : Value) : ∃ ops, subscripted slice false o i = operate ops (getItem o i) := by
  induction slice using PySem.Expr.casesOn with
  | Slice a b c p => cases c <;> exact ⟨_, rfl⟩
  | _ => exact ⟨_, rfl⟩
theorem Sub_ {env : Env} {value slice : PySem.Expr} {pos : Pos} {Q : Value → Shared → Prop}
    (hh : WP prog w A (eval value env) (fun o s₁ => WP prog w A (eval slice env) (fun i s₂ => GetQ prog w A Q s₂ o i) s₁) s) :
    WP prog w A (eval (.Subscript value slice pos) env) Q s := by
  show wpAny _ _ _ _ _ _
  rw [eval_Subscript]
  refine wpAny_bind (wpAny_mono hh (fun o s₁ h₁ => wpAny_bind (wpAny_holding (wpAny_mono h₁ (fun i s₂ h₂ => wpAny_bind (wpAny_standAt ?_)) fun _ _ x => x))) fun _ _ x => x)
  obtain ⟨T, ⟨id, hl⟩, hT, hg⟩ := h₂
  have fin : wpAny (model prog w) A (subscripted slice false o i) (fun r s₃ => wpAny (model prog w) A (letTemporaryGo value o r >>= fun _ => pure r) Q F0 s₃) F0 s₂ := by
    obtain ⟨ops, e⟩ := subscr slice o i
    rw [e]
    exact wpAny_operating (wpAny_mono hg (fun r s₃ h₃ => wpAny_bind (wpAny_letTemporaryGo (wpAny_pure h₃))) fun _ _ x => x)
  refine wpAny_bind ?_
  rw [getitemInPython_of_ne hT.not_modules]
  refine wpAny_bind (wpAny_specialOf hT hl ?_)
  first
    | exact wpAny_pure (wpAny_bind fin)
    | exact wpAny_bind (wpAny_pure (wpAny_bind fin))
    | exact wpAny_bind fin
theorem hasGet_tuple : HasGet "tuple" := ⟨_, slot_tuple_getitem.lookup⟩
theorem hasGet_list : HasGet "list" := ⟨_, slot_list_getitem.lookup⟩
theorem seqIndex_k {n : Int} {m k : Nat} (e : seqIndex? n m = some k) {G : Prop} (g1 : 0 ≤ n → n.toNat = k → n < m → G) (g2 : n < 0 → 0 ≤ n + m → n + m < m → (n + m).toNat = k → G) : G := by
  unfold seqIndex? at e
  by_cases hn : n < 0
  · rw [if_pos hn] at e
    by_cases q : (decide (0 ≤ n + m) && decide (n + m < m)) = true
    · rw [if_pos q] at e; exact band_k q fun q1 q2 => g2 hn (of_decide_eq_true q1) (of_decide_eq_true q2) (Option.some.inj e)
    · rw [if_neg q] at e; exact nos e
  · rw [if_neg hn] at e
    by_cases q : (decide (0 ≤ n) && decide (n < m)) = true
    · rw [if_pos q] at e; exact band_k q fun q1 q2 => g1 (of_decide_eq_true q1) (Option.some.inj e) (of_decide_eq_true q2)
    · rw [if_neg q] at e; exact nos e
theorem seqIndex_lt {n : Int} {m k : Nat} (e : seqIndex? n m = some k) : k < m :=
  seqIndex_k e (fun h1 h2 h3 => h2 ▸ (Int.toNat_lt h1).mpr h3) fun _ h1 h2 h3 => h3 ▸ (Int.toNat_lt h1).mpr h2
theorem small_b {n : Int} (h : smallI n = true) : -(2 ^ 63) ≤ n ∧ n < 2 ^ 63 := by
  have h2 : (n.natAbs : Int) < 2 ^ 63 := Int.ofNat_lt.mpr (Nat.lt_of_le_of_lt (Nat.le_of_ble_eq_true h) (by decide))
  exact ⟨Int.neg_le_of_neg_le (Int.le_trans (Int.natAbs_neg n ▸ Int.le_natAbs (a := -n)) (Int.le_of_lt h2)), Int.lt_of_le_of_lt Int.le_natAbs h2⟩
theorem toL {α : Type} {xs : Array α} {i : Nat} {v : α} (e : xs.toList[i]? = some v) : xs[i]? = some v := by rw [← Array.getElem?_toList]; exact e
theorem ix_m {xs : List AV} {vs : List Value} {r : AV} {k : PyData} (rv : VRs μ h xs vs) (e : ixL xs k = some r) {b : Value} (rk : Reads h b k []) {m : Value → Prop}
    (q : ∀ n t j v, smallI n = true → seqIndex? n xs.length = some j → vs[j]? = some v → VR μ h r v → m (.int n t)) : m b :=
  ob_k e fun n e1 e => gB_k e fun hs e => ob_k e fun j e2 e3 => (rv.get e3).elim fun v z => (VR.py (μ := μ) rk).int_m e1 fun t => q n t j v hs e2 z.1 z.2
theorem sub_tup_sound {x r : AV} {xs : List AV} {k : PyData} {a b : Value} (ex : tupOf x = some xs) (rx : VR μ s.heap x a) (rk : Reads s.heap b k []) (e : ixL xs k = some r)
    {Q : Value → Shared → Prop} (q : ∀ v, VR μ s.heap r v → Q v s) : GetQ prog w A Q s a b :=
  rx.tup_m ex (m := fun a => GetQ prog w A Q s a b) fun t vs ht rv => ix_m rv e rk (m := fun b => GetQ prog w A Q s (.ref t) b) fun n t j v hs e2 ev rr =>
    ⟨"tuple", hasGet_tuple, ht.typeIs, PyProof.Rows.getItem_tuple ht (small_b hs).1 (small_b hs).2 (by rw [rv.size]; exact e2) (toL ev) (q v rr)⟩
theorem getlist {l : Addr} {vs : Array Value} {m n j : Nat} {k : Int} {t : Tok} {v : Value} {Q : Value → Shared → Prop} (hl : IsL s.heap l vs m) (hz : vs.size = n) (hs : smallI k = true) (e : seqIndex? k n = some j) (ev : vs[j]? = some v) (q : Q v s) : GetQ prog w A Q s (.ref l) (.int k t) :=
  ⟨"list", hasGet_list, (IsL.isList hl).typeIs, seqIndex_k e (fun h1 h2 _ => wpAny_getItem_list (IsL.isList hl) h1 (small_b hs).2 (h2 ▸ ev) q)
    fun h1 h2 _ h3 => wpAny_getItem_list_neg (IsL.isList hl) h1 (by rw [hz]; omega) (small_b hs).1 (by rw [hz, h3]; exact ev) q⟩
theorem sub_list_sound {F : Frz} {x r : AV} {xs : List AV} {k : PyData} {a b : Value} (fz : FzOk w cls B F) (S : SR w cls B μ H s.heap) (ej : getO F H x = some (.list xs)) (rx : VR μ s.heap x a) (rk : Reads s.heap b k []) (e : ixL xs k = some r)
    {Q : Value → Shared → Prop} (q : ∀ v, VR μ s.heap r v → Q v s) : GetQ prog w A Q s a b :=
  olist_m fz S rx ej (m := fun a => GetQ prog w A Q s a b) fun l vs m hl rv => ix_m rv e rk (m := fun b => GetQ prog w A Q s (.ref l) b) fun n t j v hs e2 ev rr => getlist hl rv.size hs e2 (toL ev) (q v rr)

theorem rng_rev (m : Nat) : (List.range m).map (fun k => m - k) = ((List.range m).map Nat.succ).reverse := by
  rw [← List.map_reverse, ← krv_range, List.map_map]
  exact List.map_congr_left fun k hk => (Nat.sub_right_comm m 1 k ▸ Nat.sub_add_cancel (Nat.sub_pos_of_lt (List.mem_range.mp hk))).symm
theorem pick_rev1 (items : Array Value) : slicePick items none (some 0) (some (-1)) = (items.toList.drop 1).reverse.toArray := by
  have ha := krv_all items
  unfold slicePick
  cases hm : items.size with
  | zero => rw [Array.eq_empty_of_size_eq_zero hm]; rfl
  | succ m =>
    rw [hm, List.range_succ_eq_map] at ha
    have e0 : (((m + 1 : Nat) : Int) - 1) = m := Int.add_sub_cancel m 1
    have eb : sliceBounds none (some 0) (some (-1)) (m + 1) = ((m : Int), 0, -1) := by
      show ((((m + 1 : Nat) : Int) - 1), max (-1) (min 0 (((m + 1 : Nat) : Int) - 1)), (-1 : Int)) = _
      rw [e0, Int.min_eq_left (Int.natCast_nonneg m)]; rfl
    have er : sliceRange (m : Int) 0 (-1) = (List.range m).map fun k => m - k := by
      have ec : (if (m : Int) > 0 then ((m : Int) - 0 - -1 - 1) / (- -1) else 0).toNat = m := by
        rw [Int.sub_zero, Int.sub_neg, Int.add_sub_cancel, Int.neg_neg, Int.ediv_one]
        by_cases z : (m : Int) > 0
        · rw [if_pos z]; rfl
        · rw [if_neg z]; exact (Nat.eq_zero_of_not_pos fun y => z (Int.natCast_pos.mpr y)).symm
      show (List.range (if (m : Int) > 0 then ((m : Int) - 0 - -1 - 1) / (- -1) else 0).toNat).map (fun (k : Nat) => ((m : Int) + -1 * (k : Int)).toNat) = _
      rw [ec]
      exact List.map_congr_left fun k _ => by rw [Int.neg_mul, Int.one_mul, ← Int.sub_eq_add_neg]; exact Int.toNat_sub m k
    rw [eb]
    show ((sliceRange (m : Int) 0 (-1)).filterMap (items[·]?)).toArray = _
    rw [er, rng_rev, List.filterMap_reverse, ← ha, List.filterMap_cons, Array.getElem?_eq_getElem (hm ▸ Nat.succ_pos m)]
    rfl
end
section
variable {prog : Program} {w : World} {cls : Cls} {B : Base} {μ μ' : Mu} {H H' : AH} {s s' : Shared} {h h' : Heap} {A : Around}

theorem int_eval {i : Int} {e : PySem.Expr} {env : Env} {Q : Value → Shared → Prop} (b : isInt i e = true) (q : ∀ t tk, Q (.int i t) { s with toks := tk }) : WP prog w A (eval e env) Q s :=
  isInt_m (m := fun e => WP prog w A (eval e env) Q s) b (fun u p => wpAny_Constant_int (q _ _)) fun u p p' => wpAny_UnaryOp (wpAny_Constant_int (PySem.P.neg_int (by rw [Int.neg_neg]; exact q _ _)))
theorem part_eval : ∀ {o : Option Int} {e : Option PySem.Expr} {env : Env} {Q : Value → Shared → Prop}, boundOk o e = true → (∀ v tk, IsPart v o → Q v { s with toks := tk }) → WP prog w A (evalPart e env) Q s
  | none, none, _, _, _, q => by rw [evalPart_none]; exact wpAny_pure (q _ s.toks .none)
  | none, some _, _, _, b, _ => bf b
  | some _, none, _, _, b, _ => bf b
  | some _, some _, _, _, b, q => by rw [evalPart_some]; exact int_eval b fun _ _ => q _ _ (.int _ _)
theorem slice_eval {l u st : Option Int} {a b c : Option PySem.Expr} {p : Pos} {env : Env} {Q : Value → Shared → Prop} (hl : boundOk l a = true) (hu : boundOk u b = true) (hs : boundOk st c = true)
    (q : ∀ vl vu vs tk, IsPart vl l → IsPart vu u → IsPart vs st → Q (.ref s.heap.objs.size) { s with heap := s.heap.push { cls := .type "slice", data := .fields #[vl, vu, vs] }, toks := tk }) :
    WP prog w A (eval (.Slice a b c p) env) Q s :=
  wpAny_Slice (part_eval hl fun vl _ hl => part_eval hu fun vu _ hu => part_eval hs fun vs tk hs => q vl vu vs tk hl hu hs)

theorem slice_vals {μ : Mu} {h : Heap} {k : Sl} {xs : List AV} {vs : Array Value} (r : VRs μ h xs vs.toList) : VRs μ h (sliceL k xs) (slicePick vs (sl1 k) (sl2 k) (sl3 k)).toList := by
  induction k using Sl.casesOn with
  | rev => exact krv_pick vs ▸ r.reverse
  | tl => exact slicePick_from' vs 1 ▸ r.drop 1
  | rtl => exact pick_rev1 vs ▸ (r.drop 1).reverse
theorem Le.push {o : Obj} {tk : Nat} (S : SR w cls B μ H s.heap) : SR w cls B μ H (s.heap.push o) ∧ Le μ s μ { s with heap := s.heap.push o, toks := tk } :=
  S.grow fun _ _ e => Heap.get?_push_of_some _ e
theorem VR.push {a : AV} {v : Value} {o : Obj} (r : VR μ h a v) : VR μ (h.push o) a v := r.mono (fun _ _ e => e) fun _ _ _ _ e _ _ => Heap.get?_push_of_some _ e
theorem VRs.push {a : List AV} {v : List Value} {o : Obj} (r : VRs μ h a v) : VRs μ (h.push o) a v := r.mono (fun _ _ e => e) fun _ _ _ _ e _ _ => Heap.get?_push_of_some _ e

theorem slice_list_sound {j : Nat} {x : AV} {xs : List AV} {k : Sl} {vl vu vs : Value} {sl : Addr} {a : Value} (S : SR w cls B μ H s.heap) (ex : vR x = some j) (ej : hL H j = some xs) (rx : VR μ s.heap x a)
    (hsl : s.heap.IsSliceOf sl vl vu vs) (pl : IsPart vl (sl1 k)) (pu : IsPart vu (sl2 k)) (ps : IsPart vs (sl3 k)) (hz : Nat.ble xs.length room = true)
    {R : Value → Shared → Prop} {K : K1} (kq : K (.ref H.length) (H ++ [.list (sliceL k xs)])) (q : Ret w cls B μ s K R) : GetQ prog w A R s a (.ref sl) :=
  list_m S rx ex ej (m := fun a => GetQ prog w A R s a (.ref sl)) fun l ws n _ ht rv => by
    have hl := IsL.isList ht
    exact ⟨"list", hasGet_list, hl.typeIs, wpAny_getItem_list_slice hl hsl pl pu ps (by cases k <;> exact nofun) (q.list S (slice_vals rv) kq) (by rw [rv.size]; exact rooml hz)⟩

theorem pick_revT (xs : Array Value) : ((List.range xs.size).filterMap fun (k : Nat) => xs[(((xs.size : Int) - 1) + (k : Int) * (-1)).toNat]?).toArray = xs.toList.reverse.toArray := by
  have e : ∀ k : Nat, (((xs.size : Int) - 1) + (k : Int) * (-1)).toNat = xs.size - 1 - k := fun k => by
    rw [Int.mul_neg, Int.mul_one, ← Int.sub_eq_add_neg, Int.sub_sub, Nat.sub_sub]; exact Int.toNat_sub xs.size (1 + k)
  rw [show (fun (k : Nat) => xs[(((xs.size : Int) - 1) + (k : Int) * (-1)).toNat]?) = (fun k => xs[k]?) ∘ fun k => xs.size - 1 - k from funext fun k => congrArg (fun j : Nat => xs[j]?) (e k),
    ← List.filterMap_map, krv_range, List.filterMap_reverse, krv_all]
theorem adjust_rev (n : Nat) : Builtin.Slice.sliceAdjust none none (-1) (n : Int) = ((n : Int) - 1, -1) := by
  unfold Builtin.Slice.sliceAdjust
  simp only [show ((-1 : Int) < 0) by omega, if_true]
theorem places_rev (n : Nat) : Builtin.Slice.slicePlaces ((n : Int) - 1) (-1) (-1) = n := by
  unfold Builtin.Slice.slicePlaces
  simp only [show ¬ ((-1 : Int) > 0) by omega, if_false, Int.neg_neg, Int.ediv_one]
  split <;> omega
theorem sliceApplied_rev {sl : Addr} {n : Nat} {u : Tok} {Q : Int × Int × Nat → Shared → Prop} (hs : s.heap.IsSliceOf sl .none .none (.int (-1) u)) (h : Q ((n : Int) - 1, -1, n) s) :
    WP prog w A (Builtin.Slice.sliceApplied (.ref sl) (pure (n : Int))) Q s := by
  obtain ⟨os, hos, hcs, hds⟩ := id hs
  show wpAny _ _ _ _ _ _
  unfold Builtin.Slice.sliceApplied Builtin.Slice.sliceFields
  refine wpAny_bind (wpAny_bind (wpAny_field hos hds (x := .none) rfl (wpAny_bind (wpAny_field hos hds (x := .none) rfl (wpAny_bind (wpAny_field hos hds (x := .int (-1) u) rfl (wpAny_pure ?_)))))))
  refine wpAny_bind (slicePart_int ?_)
  show wpAny _ _ (if ((-1 : Int) == 0) = true then _ else _) _ _ s
  rw [if_neg (by decide)]
  refine wpAny_bind (slicePart_none (wpAny_bind (slicePart_none (wpAny_bind (wpAny_pure ?_)))))
  show wpAny _ _ (match Builtin.Slice.sliceAdjust none none (-1) (n : Int) with | (lo, hi) => pure (lo, (-1 : Int), Builtin.Slice.slicePlaces lo hi (-1))) _ _ s
  rw [adjust_rev n]
  show wpAny _ _ (pure ((n : Int) - 1, (-1 : Int), Builtin.Slice.slicePlaces ((n : Int) - 1) (-1) (-1))) _ _ s
  rw [places_rev n]
  exact wpAny_pure h
theorem getItem_tuple_rev {t sl : Addr} {items : Array Value} {u : Tok} {Q : Value → Shared → Prop} (ht : IsTup s.heap t items) (hs : s.heap.IsSliceOf sl .none .none (.int (-1) u))
    (h : Q (.ref s.heap.objs.size) { s with heap := s.heap.push { cls := .type "tuple", data := .seq items.toList.reverse.toArray } })
    (hsz : items.size ≤ sizeLine) : WP prog w A (getItem (.ref t) (.ref sl)) Q s := by
  have hdrop : sizeOk (.seq items.toList.reverse.toArray) := by
    show items.toList.reverse.toArray.size ≤ sizeLine
    rw [List.size_toArray, List.length_reverse, Array.length_toList]
    exact hsz
  obtain ⟨os, hos, hcs, hds⟩ := id hs
  have hTs : s.TypeIs (.ref sl) "slice" := ⟨os, hos, hcs⟩
  show wpAny _ _ _ _ _ _
  unfold getItem
  try with_reducible refine wpAny_holding ?_
  first | refine wpAny_bind (wpAny_pure ?_) | skip
  refine wpAny_bind (wpAny_sequenceKey ht.typeIs (by decide) ?_)
  refine wpAny_bind (wpAny_callSpecial?_slot (name := Str.ofString "__getitem__") ht.typeIs slot_tuple_getitem
    (wpAny_call_entry slot_tuple_getitem ht.typeIs entry_tuple_getitem ?_ (args_tuple_getitem _ _)))
  show wpAny _ _ (Builtin.Tuple.tupleItemsOf (.ref t) >>= _) _ _ s
  refine wpAny_bind (tupleItemsOf_ ht ?_)
  refine wpAny_bind (wpAny_typeOf hTs ?_)
  rw [if_pos (by decide)]
  refine wpAny_bind ((sliceApplied_rev hs ?_ : WP prog w _ _ _ _).any)
  have hno : ¬ ((((items.size : Int) - 1) == 0 && (-1 : Int) == 1 && items.size == items.size) = true) := by simp
  show wpAny _ _ (if (((items.size : Int) - 1) == 0 && (-1 : Int) == 1 && items.size == items.size) = true then _ else _) _ _ s
  rw [if_neg hno, pick_revT items]
  first
    | exact wpAny_bind (m := Builtin.Tuple.tupleExact _) (wpAny_newObj_type (wpAny_pure ⟨_, rfl, wpAny_pure h⟩) hdrop)
    | exact wpAny_bind (m := Builtin.Tuple.tupleExact _) (wpAny_newObj_type (wpAny_bind (wpAny_pure (wpAny_pure ⟨_, rfl, wpAny_pure h⟩))) hdrop)
    | exact wpAny_bind (wpAny_bind (m := Builtin.Tuple.tupleExact _) (wpAny_newObj_type (wpAny_pure (wpAny_pure ⟨_, rfl, wpAny_pure h⟩)) hdrop))
    | exact wpAny_bind (wpAny_bind (m := Builtin.Tuple.tupleExact _) (wpAny_newObj_type (wpAny_pure ⟨_, rfl, wpAny_pure h⟩) hdrop))
theorem mkTup_py (es : List PyData) : mkTup (es.map .py) = .py (.tuple es) := by unfold mkTup; rw [allPy_map]
theorem part_n {v : Value} (p : IsPart v none) : v = .none := by cases p; rfl
theorem part_i {v : Value} {i : Int} (p : IsPart v (some i)) : ∃ t, v = .int i t := by cases p; exact ⟨_, rfl⟩
theorem slice_tuple_sound {ds es : List PyData} {k : Sl} {vl vu vs : Value} {sl : Addr} {a : Value} (S : SR w cls B μ H s.heap) (rx : VR μ s.heap (.py (.tuple ds)) a)
    (hsl : s.heap.IsSliceOf sl vl vu vs) (pl : IsPart vl (sl1 k)) (pu : IsPart vu (sl2 k)) (ps : IsPart vs (sl3 k)) (hz : Nat.ble ds.length room = true) (e : sliceT k ds = some es)
    {R : Value → Shared → Prop} {K : K1} (kq : K (.py (.tuple es)) H) (q : Ret w cls B μ s K R) : GetQ prog w A R s a (.ref sl) :=
  rx.tup_m (xs := ds.map .py) rfl (m := fun a => GetQ prog w A R s a (.ref sl)) fun t ws ht rv => by
    have hw : ws.size = ds.length := rv.size.trans (List.length_map _)
    refine ⟨"tuple", hasGet_tuple, ht.typeIs, ?_⟩
    cases k with
    | rev =>
      rw [part_n pl, part_n pu] at hsl
      obtain ⟨t, e3⟩ := part_i ps
      rw [e3] at hsl
      exact getItem_tuple_rev ht hsl (q.tup S rv.reverse (by rw [← List.map_reverse, mkTup_py, Option.some.inj e]) kq) (hw ▸ rooml hz)
    | tl =>
      obtain ⟨t, e1⟩ := part_i pl
      rw [part_n pu, part_n ps, e1] at hsl
      exact gB_k e fun hne e => getItem_tuple_from (a := 1) ht hsl (Nat.le_refl _) (hw ▸ Nat.le_of_ble_eq_true hne) (q.tup S (rv.drop 1) (by rw [← List.map_drop, mkTup_py, Option.some.inj e]) kq) (hw ▸ rooml hz)
    | rtl => exact nos e
end
section
variable {prog : Program} {w : World} {cls : Cls} {B : Base} {μ μ' : Mu} {H H' : AH} {s s' : Shared} {h h' : Heap} {A : Around} {F : Frz} {R : Value → Shared → Prop} {K : K1}

theorem Ret.fresh (q : Ret w cls B μ s K R) (S : SR w cls B μ H s.heap) {as : List AV} {vs : Array Value} {n : Nat} (r : VRs μ s.heap as vs.toList) {tk : Nat} {a : Addr} (ha : s.heap.get? a = none)
    (k : ∀ b o, s.heap.get? b = some o → h'.get? b = some o) (hl : IsL h' a vs n) (kq : K (.ref H.length) (H ++ [.list as])) : R (.ref a) { s with heap := h', toks := tk } :=
  have hm : ∀ (i : Nat) (q : Addr × Addr), μ[i]? = some q → (μ ++ [(a, a)])[i]? = some q := fun i q e => (List.getElem?_append_left (List.getElem?_eq_some_iff.mp e).1).trans e
  have x := S.more (p := (a, a)) (o' := .list as) (h' := h') (tk := tk) k ha ha ⟨rfl, vs, n, hl, r.mono hm (fun a o _ _ e _ _ => k a o e)⟩
  q _ _ _ _ _ kq x.1 x.2 (.ref (p := (a, a)) (by rw [← S.len]; exact List.getElem?_concat_length))
theorem Ret.grow (q : Ret w cls B μ s K R) (S : SR w cls B μ H s.heap) {tk : Nat} {a : AV} {v : Value} (k : ∀ b o, s.heap.get? b = some o → h'.get? b = some o) (kq : K a H) (r : VR μ h' a v) : R v { s with heap := h', toks := tk } :=
  have x := S.grow (h' := h') (tk := tk) k; q _ _ _ _ _ kq x.1 x.2 r
theorem size_le {xs : List AV} {vs : Array Value} (rv : VRs μ h xs vs.toList) (hz : Nat.ble xs.length room = true) : vs.size ≤ sizeLine := rv.size ▸ rooml hz
theorem list_call (fz : FzOk w cls B F) (S : SR w cls B μ H s.heap) {x : AV} {v : Value} {xs : List AV} (r : VR μ s.heap x v) (e : itemsA F x H = some xs) (hz : Nat.ble xs.length room = true)
    (kq : K (.ref H.length) (H ++ [.list xs])) (q : Ret w cls B μ s K R) : WP prog w A (call (.type "list") [v]) R s :=
  items_m fz S r e (m := fun v => WP prog w A (call (.type "list") [v]) R s)
    (fun t vs _ ht rv => let ⟨_, ho, hc, _, hd⟩ := ht; call_list_seq t (T := "tuple") (.inr rfl) ho hc hd (fun _ _ k hn => q.fresh S rv (size_none _) k hn kq) (size_le rv hz))
    fun l vs n _ hl rv => call_list_seq l (T := "list") (.inl rfl) hl rfl rfl (fun _ _ k hn => q.fresh S rv (size_none _) k hn kq) (size_le rv hz)
theorem mkTup_of {x : AV} {xs : List AV} (e : tupOf x = some xs) {v : Value} (r : VR μ h x v) : VR μ h (mkTup xs) v :=
  r.tup_m e (m := fun v => VR μ h (mkTup xs) v) fun _ _ ht rv => let ⟨_, ho, hc, _, hd⟩ := ht; VR.tup ho hc hd rfl rv
theorem tuple_call (fz : FzOk w cls B F) (S : SR w cls B μ H s.heap) {x : AV} {v : Value} {xs : List AV} (r : VR μ s.heap x v) (e : itemsA F x H = some xs) (hz : Nat.ble xs.length room = true)
    (kq : K (mkTup xs) H) (q : Ret w cls B μ s K R) : WP prog w A (call (.type "tuple") [v]) R s :=
  items_m fz S r e (m := fun v => VR μ s.heap x v → WP prog w A (call (.type "tuple") [v]) R s) (fun _ _ et ht _ r => call_tuple_same ht (q.same S kq (mkTup_of et r)))
    (fun l vs _ _ hl rv _ => call_tuple_list (IsL.isList hl) (fun h' k =>
      have x := S.grow (h' := h') (tk := s.toks) k
      (q.from x.2).tup (s := { s with heap := h', toks := s.toks }) (tk := s.toks) x.1 (rv.mono (fun _ _ e => e) (fun a o _ _ e _ _ => k a o e)) rfl kq) (size_le rv hz)) r
theorem vr_len {n m : Nat} {t : Tok} (e : m = n) : VR μ h (.i n) (.int m t) := e ▸ vr_int _ _
theorem len_b {m n : Nat} (e : m = n) (h : Nat.ble n room = true) : (m : Int) < 2 ^ 63 := Int.ofNat_lt.mpr (Nat.lt_of_le_of_lt (Nat.le_of_eq e) (Nat.lt_of_le_of_lt (Nat.le_of_ble_eq_true h) (by decide)))
theorem len_seq (S : SR w cls B μ H s.heap) {x : AV} {v : Value} {xs : List AV} {n : Nat} (r : VR μ s.heap x v) (e : tupOf x = some xs) (en : xs.length = n) (hz : Nat.ble n room = true) (kq : K (.i n) H) (q : Ret w cls B μ s K R) : WP prog w A (call (.builtin "len") [v]) R s :=
  r.tup_m e (m := fun v => WP prog w A (call (.builtin "len") [v]) R s) fun _ _ ht rv => PyProof.Rows.len_tuple ht (len_b (rv.size.trans en) hz) (q.tok S kq (vr_len (rv.size.trans en)))
theorem len_list (S : SR w cls B μ H s.heap) {x : AV} {v : Value} {xs : List AV} {j : Nat} (r : VR μ s.heap x v) (e : vR x = some j) (e2 : hL H j = some xs) (hz : Nat.ble xs.length room = true) (kq : K (.i xs.length) H) (q : Ret w cls B μ s K R) : WP prog w A (call (.builtin "len") [v]) R s :=
  list_m S r e e2 (m := fun v => WP prog w A (call (.builtin "len") [v]) R s) fun _ _ _ _ hl rv => call_len_list (IsL.isList hl) (len_b rv.size hz) (q.tok S kq (vr_len rv.size))
theorem abs_call (S : SR w cls B μ H s.heap) {x : AV} {a : Int} {v : Value} (r : VR μ s.heap x v) (e : vInt x = some a) (kq : K (.i a.natAbs) H) (q : Ret w cls B μ s K R) : WP prog w A (call (.builtin "abs") [v]) R s :=
  r.int_m e (m := fun v => WP prog w A (call (.builtin "abs") [v]) R s) fun t => call_abs_int fun u tk => q.tok S kq (by
    have : (if a < 0 then -a else a) = (a.natAbs : Int) := by split <;> omega
    rw [this]; exact vr_int _ _)
theorem max_call (S : SR w cls B μ H s.heap) {d u : Nat} (k : AOk A d u) {a b : Int} {t t2 : Tok} (kq : K (.i (if b > a then b else a)) H) (q : Ret w cls B μ s K R) : WP prog w A (call (.builtin "max") [.int a t, .int b t2]) R s :=
  max_two_ints k.handled fun h' tk hk => q.grow S hk kq (by split <;> exact vr_int _ _)
theorem bools_at {xs : List AV} {vs : List Value} (r : VRs μ h xs vs) : ∀ {bs : List Bool}, boolsOf xs = some bs → vs = bs.map .bool :=
  r.ind (P := fun xs vs => ∀ {bs : List Bool}, boolsOf xs = some bs → vs = bs.map .bool) (fun e => Option.some.inj e ▸ rfl) fun a v as vs r _ ih bs e =>
    ob_k e fun b e1 e => om_k e fun l e2 e3 => e3 ▸ r.bool_m e1 (m := fun v => v :: vs = .bool b :: l.map .bool) (congrArg _ (ih e2))
theorem any_rng (bs : List Bool) : (List.range bs.length).any (fun i => bs.getD i false) = bs.any id := by
  have : bs = (List.range bs.length).map fun i => bs.getD i false := by
    apply List.ext_getElem?
    intro i
    by_cases hi : i < bs.length
    · simp [hi]
    · simp [hi]
  conv => rhs; rw [this, List.any_map]
  rfl
theorem any_call (S : SR w cls B μ H s.heap) {d u : Nat} (k : AOk A d u) {x : AV} {j : Nat} {v : Value} {xs : List AV} {bs : List Bool} (r : VR μ s.heap x v) (e : vR x = some j) (e2 : hL H j = some xs) (eb : boolsOf xs = some bs) (kq : K (.b (bs.any id)) H) (q : Ret w cls B μ s K R) :
    WP prog w A (call (.builtin "any") [v]) R s := by
  refine list_m S r e e2 (m := fun v => WP prog w A (call (.builtin "any") [v]) R s) fun l vs n _ hl rv => ?_
  have hv := bools_at rv eb
  have hlI := IsL.isList hl
  refine call_any_walk (wpAny_pyIter_list hlI ⟨_, _, _, _, _, _, fun i => bs.getD i false, rfl, Walks.list (A := A.in1) k.handled s.heap.objs.size l (Nat.ne_of_lt (Heap.lt_size hl)) vs, ⟨⟨_, Heap.get?_push_size _ rfl, rfl, rfl⟩, hlI.push _⟩, fun i v s' Q' E' hP hQ => ?_, fun h' tk hk => ?_⟩)
  · have : v = .bool (bs.getD i false) := by
      have h1 : vs.toList[i]? = some v := by rw [Array.getElem?_toList]; exact hP
      rw [hv, List.getElem?_map] at h1
      exact om_k h1 fun b hb e => by rw [List.getD_eq_getElem?_getD, hb]; exact e.symm
    rw [this]; exact wpAny_truthy_bool hQ
  · have hsz : vs.size = bs.length := (congrArg List.length hv).trans (List.length_map _)
    rw [hsz, any_rng]
    exact q.grow S (fun b o e => hk b o (fun hm => Nat.lt_irrefl _ (List.mem_singleton.mp hm ▸ Heap.lt_size e)) (Heap.get?_push_of_some _ e)) kq (vr_bool _)
theorem repr_call (S : SR w cls B μ H s.heap) {d : PyData} {v : Value} {du u : Nat} (k : AOk A du (u + 70)) (r : Reads s.heap v d []) (ht : isTupD d = true) (hs : SeqAt.shaped d = true) (hw : d.showable = true) (hz : Nat.ble d.shown.length room = true)
    (kq : K (.s d.shown) H) (q : Ret w cls B μ s K R) : WP prog w A (call (.builtin "repr") [v]) R s := by
  induction d using PyData.casesOn with
  | tuple ds =>
    refine (reads_tup_inv r).elim fun t z => z.elim fun o z => z.elim fun vs z => z.elim fun n z => ?_
    rw [z.1] at r ⊢
    exact repr_of_reads' r hw (PyData.noDict_hsm (PyData.hasDict_of_canLay _ (SeqAt.canLay_of_shaped hs))) k.guards
      (Nat.lt_of_le_of_lt (Nat.add_le_add_left (Nat.le_trans (Nat.succ_le_succ (SeqAt.depth_of_shaped hs)) (Nat.le_trans (by decide) (Nat.le_add_left 70 u))) _) k.units) (fun _ _ e => e) (fun h' u tk hk => q.grow S hk kq (vr_str _ _)) (rooml hz)
  | _ => exact bf ht
theorem strs_at {xs : List AV} {vs : List Value} (r : VRs μ h xs vs) : ∀ {ts : List PySem.Str}, strsOf xs = some ts → ∃ l : List (PySem.Str × Tok), vs = strValues l ∧ l.map (·.1) = ts :=
  r.ind (P := fun xs vs => ∀ {ts : List PySem.Str}, strsOf xs = some ts → ∃ l : List (PySem.Str × Tok), vs = strValues l ∧ l.map (·.1) = ts) (fun e => ⟨[], rfl, Option.some.inj e⟩) fun a v as vs r _ ih ts e =>
    ob_k e fun b e1 e => om_k e fun l e2 e3 => e3 ▸ r.str_m e1 (m := fun v => ∃ l' : List (PySem.Str × Tok), v :: vs = strValues l' ∧ l'.map (·.1) = b :: l) fun t => (ih e2).elim fun m z => ⟨(b, t) :: m, congrArg _ z.1, congrArg _ z.2⟩
theorem arr_m {α : Type} {vs : Array α} {l : List α} (e : vs.toList = l) {m : Array α → Prop} (x : m vs) : m l.toArray := by subst e; exact x
theorem join_call (S : SR w cls B μ H s.heap) {x y : AV} {sep : PySem.Str} {v v2 : Value} {j : Nat} {xs : List AV} {ts : List PySem.Str} (r : VR μ s.heap x v) (ex : vStr x = some sep) (r2 : VR μ s.heap y v2) (ey : vR y = some j) (e : hL H j = some xs) (et : strsOf xs = some ts) (hok : JoinOk sep ts)
    (kq : K (.s (Txt.join sep ts)) H) (q : Ret w cls B μ s K R) : WP prog w A (call (.builtin "str.join") [v, v2]) R s :=
  r.str_m ex (m := fun v => WP prog w A (call (.builtin "str.join") [v, v2]) R s) fun t => list_m S r2 ey e (m := fun v2 => WP prog w A (call (.builtin "str.join") [.str sep t, v2]) R s) fun l vs n _ hl rv => (strs_at rv et).elim fun m z =>
    PySem.SC.join (arr_m z.1 (m := fun vs => s.heap.IsList l vs) (IsL.isList hl)) z.2 hok fun t' k => q.tok S kq (vr_str _ _)
theorem SR.setList (S : SR w cls B μ H s.heap) {j : Nat} {l : Addr} {vs' : Array Value} {xs' : List AV} {tk : Nat} (hj : j < H.length) (hμ : μ[j]? = some (l, l)) (f : Obj → Obj) (hl : ∃ n, IsL (s.heap.update l f) l vs' n) (r : VRs μ s.heap xs' vs'.toList) :
    SR w cls B μ (H.set j (.list xs')) (s.heap.update l f) ∧ Le μ s μ { s with heap := s.heap.update l f, toks := tk } :=
  have hs : Heap.SameBut l s.heap (s.heap.update l f) := Heap.SameBut.update ..
  have hlm : l ∈ μ.map (·.2) := List.mem_map_of_mem (f := (·.2)) (List.mem_of_getElem? hμ)
  hl.elim fun n hn => S.upd (p := (l, l)) hμ hs ⟨rfl, vs', n, hn, r.mono (fun _ _ e => e) fun b o _ _ e c _ => (hs.2 b fun q => S.not_tuple e c (q ▸ hlm)).trans e⟩ hj
theorem lt_of_get {α : Type} {l : List α} {i : Nat} {a : α} (e : l[i]? = some a) : i < l.length := (List.getElem?_eq_some_iff.mp e).1
theorem append_call (S : SR w cls B μ H s.heap) {x : AV} {j : Nat} {v v2 : Value} {xs : List AV} {y : AV} (r : VR μ s.heap x v) (ex : vR x = some j) (e : hL H j = some xs) (r2 : VR μ s.heap y v2) (hz : Nat.ble xs.length room = true)
    (kq : K (.py .none) (H.set j (.list (xs ++ [y])))) (q : Ret w cls B μ s K R) : WP prog w A (call (.builtin "list.append") [v, v2]) R s :=
  list_m S r ex e (m := fun v => WP prog w A (call (.builtin "list.append") [v, v2]) R s) fun l vs n hμ hl rv =>
    call_meets PySem.F.slot_list_append ⟨_, hl, rfl⟩ PySem.F.entry_list_append (PySem.F.args_list_append_2 _ _) (list_append l vs n v2 (size_le rv hz)) ⟨hl,
      have x := S.setList (vs' := vs.push v2) (xs' := xs ++ [y]) (tk := s.toks) (lt_of_get (hL_k e)) hμ _ ⟨_, IsL.update hl (·.push v2)⟩ (by rw [Array.toList_push]; exact rv.append (.cons r2 .nil))
      q _ _ _ _ _ kq x.1 x.2 vr_none⟩
end
section
variable {prog : Program} {w : World} {cls : Cls} {B : Base} {μ μ' : Mu} {H H' : AH} {s s' : Shared} {h h' : Heap} {A : Around} {F : Frz} {K : Frag}


theorem isStr_str (x y : PySem.Str) (t : Tok) : (Value.str y t).isStr x = (y == x) := rfl
theorem FD.ind {P : List (PySem.Str × AV) → List DictEntry → Prop} (h0 : P [] []) (h1 : ∀ x a e t es r, e.key = .str x t → VR μ h a e.val → FD μ h es r → P es r → P ((x, a) :: es) (e :: r)) {es : List (PySem.Str × AV)} {r : List DictEntry} (d : FD μ h es r) : P es r :=
  d.rec (motive := fun es r _ => P es r) h0 fun k v r ih => h1 _ _ _ _ _ _ k v r ih
noncomputable def FDv (μ : Mu) (h : Heap) (r : List DictEntry) (x : PySem.Str) : Option AV → Prop
  | some a => ∃ e, r.find? (·.key.isStr x) = some e ∧ VR μ h a e.val
  | none => r.find? (·.key.isStr x) = none
theorem FD.find {fs : List (PySem.Str × AV)} {r : List DictEntry} (x : PySem.Str) (d : FD μ h fs r) : r.any (·.refKey) = false ∧ FDv μ h r x (fs.lookup x) :=
  d.ind (P := fun fs r => r.any (·.refKey) = false ∧ FDv μ h r x (fs.lookup x)) ⟨rfl, rfl⟩ fun y a e t es r hk hv _ ih => by
    refine ⟨by rw [List.any_cons, show e.refKey = false by unfold DictEntry.refKey; rw [hk], ih.1]; rfl, ?_⟩
    rw [List.lookup_cons]
    cases hxy : x == y with
    | true => exact ⟨e, by rw [List.find?_cons, hk, isStr_str, BEq.symm hxy], hv⟩
    | false =>
      have e2 : (e :: r).find? (·.key.isStr x) = r.find? (·.key.isStr x) := by rw [List.find?_cons, hk, isStr_str, BEq.symm_false hxy]
      have := ih.2
      unfold FDv at this ⊢
      rw [e2]; exact this
theorem FD.get {fs : List (PySem.Str × AV)} {r : List DictEntry} {x : PySem.Str} {a : AV} (d : FD μ h fs r) (e : fs.lookup x = some a) : ∃ v, getL x r = some (some v) ∧ VR μ h a v :=
  have h2 : FDv μ h r x (some a) := e ▸ (d.find x).2
  h2.elim fun en z => ⟨en.val, by unfold getL; rw [z.1], z.2⟩
theorem FD.miss {fs : List (PySem.Str × AV)} {r : List DictEntry} {x : PySem.Str} (d : FD μ h fs r) (e : fs.lookup x = none) : getL x r = some none := by
  have h2 : FDv μ h r x none := e ▸ (d.find x).2
  unfold getL; rw [show r.find? (·.key.isStr x) = none from h2, (d.find x).1]; rfl
theorem FD.known {fs : List (PySem.Str × AV)} {r : List DictEntry} (x : PySem.Str) (d : FD μ h fs r) : (getL x r).isSome = true := by
  cases e : fs.lookup x with
  | none => rw [d.miss e]; rfl
  | some a => exact (d.get e).elim fun v z => by rw [z.1]; rfl
theorem FD.put {x : PySem.Str} {a : AV} {v : Value} {t : Tok} {hs : Int} {fs : List (PySem.Str × AV)} {r : List DictEntry} (d : FD μ h fs r) (hv : VR μ h a v) : FD μ h (fput fs x a) (putL x hs (.str x t) v r) :=
  d.ind (P := fun fs r => FD μ h (fput fs x a) (putL x hs (.str x t) v r)) (.cons rfl hv .nil) fun y b e u es r hk hb hr ih => by
    unfold fput putL
    rw [hk, isStr_str]
    by_cases hxy : y = x
    · rw [if_pos hxy, if_pos (beq_iff_eq.mpr hxy)]; exact .cons rfl hv hr
    · rw [if_neg hxy, if_neg fun z => hxy (beq_iff_eq.mp z)]; exact .cons hk hb ih
theorem FD.length {fs : List (PySem.Str × AV)} {r : List DictEntry} (d : FD μ h fs r) : r.length = fs.length :=
  d.ind (P := fun fs r => r.length = fs.length) rfl fun _ _ _ _ _ _ _ _ _ ih => congrArg (· + 1) ih
theorem putL_length (x : PySem.Str) (hs : Int) (k v : Value) : ∀ r : List DictEntry, (putL x hs k v r).length ≤ r.length + 1
  | [] => Nat.le_refl _
  | e :: r => by
    unfold putL
    split
    · exact Nat.le_succ _
    · exact Nat.succ_le_succ (putL_length x hs k v r)
theorem handed_dat {v : Value} {d : PyData} {as : List Addr} (r : Reads h v d as) : handedIn v = true := by
  refine Reads.rec (motive_1 := fun v _ _ _ => handedIn v = true) (motive_2 := fun _ _ _ _ => True) rfl (fun _ => rfl) (fun _ _ => rfl) (fun _ _ => rfl) ?_ ?_ ?_ trivial ?_ r <;> intros <;> first | rfl | trivial
theorem handed_of {a : AV} {v : Value} (r : VR μ h a v) : handedIn v = true := by
  induction a using AV.casesOn with
  | py d => exact handed_dat r.inv
  | ref i => exact r.ref_m (m := fun v => handedIn v = true) rfl fun p _ => rfl
  | mix ys => exact r.tup_m (m := fun v => handedIn v = true) rfl fun p _ _ _ => rfl
  | fro p => exact (show v = .ref p.1 from r.inv) ▸ rfl
theorem instAt {p : Addr × Addr} {C : Addr} {r : List DictEntry} {n : Nat} (h1 : h.get? p.1 = some (instObj C p.2)) (h2 : h.get? p.2 = some (dictOf r n)) : InstAt h p.1 (instObj C p.2) C (some (dictOf r n)) :=
  ⟨h1, rfl, rfl, h2⟩
theorem clsOk_k {C : Addr} (h : clsOkB K C = true) : hasDictIn K C = true ∧ findIn K (.ref C) "__setattr__" = some (some (.builtin "object.__setattr__")) ∧ plainOver K C = true ∧ plainGet K C "" = true :=
  band_k h fun h1 h2 => band_k h1 fun h1 h3 => band_k h2 fun h2 h4 => ⟨h1, beq_iff_eq.mp h3, h2, h4⟩
theorem getattr_sound (fz : FzOk w cls B F) (S : SR w cls B μ H s.heap) (X : K.In s.heap) {x : AV} {v : Value} {c : Nat} {fs : List (PySem.Str × AV)} {name : PySem.Str} {a : AV} (r : VR μ s.heap x v) (e : getO F H x = some (.inst c fs))
    (hc : clsOkB K (cls c) = true) (ha : attrOkB K (cls c) name = true) (ea : fs.lookup name = some a) {expr : Bool} {Q : Value → Shared → Prop} (q : ∀ v, VR μ s.heap a v → Q v { s with toks := s.toks + 1 }) :
    WP prog w A (getAttr v name expr) Q s :=
  oinst_m fz S r e (m := fun v => WP prog w A (getAttr v name expr) Q s) fun p d n h1 h2 hd => (hd.get ea).elim fun u z => band_k ha fun ha _ =>
    oB_m (m := fun o => findIn K (.ref (cls c)) name = o → WP prog w A (getAttr (.ref p.1) name expr) Q s) ha (fun at_ hng hat =>
      get_value X (instAt h1 h2) (plainGet_of (clsOk_k hc).2.2.2).1 (findObj_own (clsOk_k hc).1 hat hng (by rw [lookIn_dict]; exact z.1)) (handed_of z.2) (q u z.2)) rfl
theorem getmeth_sound (fz : FzOk w cls B F) (S : SR w cls B μ H s.heap) (X : K.In s.heap) {x : AV} {v : Value} {c : Nat} {fs : List (PySem.Str × AV)} {name : PySem.Str} {f : Addr} (r : VR μ s.heap x v) (e : getO F H x = some (.inst c fs))
    (hc : clsOkB K (cls c) = true) (hm : methOkB K (cls c) name f = true) (ea : fs.lookup name = none) {pl : Sem Bool} {Q : Value × List Value → Shared → Prop} (q : Q (.ref f, [v]) s) :
    WP prog w A (getMethod v name pl) Q s :=
  oinst_m fz S r e (m := fun v => Q (.ref f, [v]) s → WP prog w A (getMethod v name pl) Q s) (fun p d n h1 h2 hd q => band_k hm fun hm1 hm2 => band_k hm2 fun hm2 _ =>
    method_fn X (instAt h1 h2) (plainGet_of (clsOk_k hc).2.2.2).1 (plainGet_of (clsOk_k hc).2.2.2).2 (beq_iff_eq.mp hm1) (beq_iff_eq.mp hm2) (by show (lookIn name (dictOf d n)).map _ = _; rw [lookIn_dict, hd.miss ea]; rfl) q) q

set_option tactic.hygienic true in
theorem known_any {x : PySem.Str} {es : List DictEntry} (hl : (getL x es).isSome = true) : (!es.any (·.key.isStr x) && es.any (·.refKey)) = false := by
  unfold getL at hl
  split at hl
  · rename_i en he
    rw [List.any_eq_true.mpr ⟨en, List.mem_of_find?_eq_some he, List.find?_some he⟩]; rfl
  · split at hl
    · exact bf hl
    · rename_i z; rw [Bool.not_eq_true] at z; rw [z, Bool.and_false]
theorem osa_own {R : Result → Shared → Prop} {C x dx : Addr} {name : PySem.Str} {tk : Tok} {v : Value} {es : List DictEntry} {n : Nat} (X : K.In s.heap)
    (I : s.heap.get? x = some (instObj C dx)) (hp : plainOver K C = true) (ht : takerIn K C name = some none) (hh : hasDictIn K C = true)
    (hl : (getL name es).isSome = true) (D : s.heap.get? dx = some (dictOf es n)) (hz : es.length ≤ 900)
    (q : R (.ok (.ret .none)) { s with heap := s.heap.update dx (Obj.putName name (PyData.keyHash w.params name) (.str name s.toks) v), toks := s.toks + 1 }) :
    codeAny (model prog w) A (.call (.builtin "object.__setattr__") ⟨[.ref x, .str name tk, v], []⟩) R s := by
  refine osa_open X (instAt (p := (x, dx)) I D) hp ht fun b => ?_
  obtain ⟨cd, hc, hd'⟩ := any_some hh
  have e := putName_dict name (PyData.keyHash w.params name) (.str name s.toks) v es n
  have D' : (s.heap.update dx (Obj.putName name (PyData.keyHash w.params name) (.str name s.toks) v)).get? dx = some (dictOf (putL name (PyData.keyHash w.params name) (.str name s.toks) v es) (putN name es n)) :=
    e ▸ Heap.get?_update_self _ D (e ▸ rfl)
  refine wpAny_bind (wpAny_pure (wpAny_bind (wpAny_bind (wpAny_loadPart I (wpAny_bind ((looks_clsIn X hc).here ?_))))))
  rw [hd']
  refine wpAny_pure (a := some dx) (wpAny_bind (wpAny_pure (wpAny_bind ?_)))
  unfold nsSet
  refine wpAny_bind (wpAny_bind (wpAny_askSetting (wpAny_pure (wpAny_bind (wpAny_mkText (wpAny_bind (wpAny_loadPart D ?_)))))))
  dsimp only
  rw [aRefKeyMayBeTheName_at, show (!es.toArray.any (·.key.isStr name) && es.toArray.any (·.refKey)) = false by rw [← Array.any_toList, ← Array.any_toList]; exact known_any hl]
  refine wpAny_updatePart D (wpAny_bind (wpAny_lookBehind D' (pastItsLine_dict ?_) (wpAny_pure q)))
  rw [List.size_toArray]; exact Nat.le_trans (putL_length ..) (Nat.le_trans (Nat.succ_le_succ hz) (sizeLine_eq ▸ by decide))
theorem setattr_sound (S : SR w cls B μ H s.heap) (X : K.In s.heap) {x : AV} {j : Nat} {v u : Value} {c : Nat} {fs : List (PySem.Str × AV)} {name : PySem.Str} {a : AV} (r : VR μ s.heap x v) (ex : vR x = some j) (e : H[j]? = some (.inst c fs))
    (hc : clsOkB K (cls c) = true) (ha : attrOkB K (cls c) name = true) (hz : fs.length ≤ 100) (ra : VR μ s.heap a u) {Q : Unit → Shared → Prop}
    (q : ∀ s', SR w cls B μ (H.set j (.inst c (fput fs name a))) s'.heap → Le μ s μ s' → Q () s') : WP prog w A (setAttr v name u) Q s := by
  refine inst_m S r ex e (m := fun v => WP prog w A (setAttr v name u) Q s) fun p d n hμ h1 h2 hd => ?_
  refine set_plain X (instAt h1 h2) (clsOk_k hc).2.1 ?_
  refine osa_own (s := { s with toks := s.toks + 1 }) X h1 (clsOk_k hc).2.2.1 (beq_iff_eq.mp (Bool.and_eq_true_iff.mp ha).2) (clsOk_k hc).1 (hd.known name) h2 (hd.length ▸ Nat.le_trans hz (by decide)) ?_
  generalize hf : Obj.putName name (PyData.keyHash w.params name) (.str name (s.toks + 1)) u = f
  have hs : Heap.SameBut p.2 s.heap (s.heap.update p.2 f) := Heap.SameBut.update ..
  have tk' : TK s.heap (s.heap.update p.2 f) := fun b o _ _ e c _ => (hs.2 b fun q => S.not_tuple e c (q ▸ List.mem_map_of_mem (f := (·.2)) (List.mem_of_getElem? hμ))).trans e
  have e2 := putName_dict name (PyData.keyHash w.params name) (.str name (s.toks + 1)) u d n
  rw [hf] at e2
  have x := S.upd (o' := .inst c (fput fs name a)) (tk := s.toks + 1 + 1) hμ hs ⟨_, putN name d n, (hs.2 _ fun z => by rw [z, h2] at h1; cases h1).trans h1, e2 ▸ Heap.get?_update_self _ h2 (e2 ▸ rfl), FD.put (hs := PyData.keyHash w.params name) (t := s.toks + 1) (hd.mono (fun _ _ e => e) tk') (ra.mono (fun _ _ e => e) tk')⟩ (lt_of_get e)
  exact q _ x.1 x.2
end
section
variable {prog : Program} {w : World} {cls : Cls} {B : Base} {μ μ' : Mu} {H H' : AH} {s s' : Shared} {h h' : Heap} {A : Around} {F : Frz} {K : Frag}

mutual
noncomputable def drawsD : PyData → Nat
  | .tuple ds => drawsAll ds + 1
  | _ => 1
noncomputable def drawsAll : List PyData → Nat
  | [] => 0
  | d :: r => drawsD d + drawsAll r
end
section
variable {P : PyData → Prop} {Q : List PyData → Prop} (hn : P .none) (hs : ∀ x, strok x = true → P (.str x)) (ht : ∀ ds, leafyAll ds = true → Q ds → P (.tuple ds)) (h0 : Q []) (h1 : ∀ d r, leafy d = true → leafyAll r = true → P d → Q r → Q (d :: r))
include hn hs ht h0 h1
mutual
theorem leafy_ind : ∀ d, leafy d = true → P d
  | .none, _ => hn
  | .str x, e => hs x e
  | .tuple ds, e => ht ds e (leafyAll_ind ds e)
  | .bool _, e => bf e
  | .int _, e => bf e
  | .list _, e => bf e
  | .dict _, e => bf e
theorem leafyAll_ind : ∀ ds, leafyAll ds = true → Q ds
  | [], _ => h0
  | d :: r, e => band_k e fun e1 e2 => h1 d r e1 e2 (leafy_ind d e1) (leafyAll_ind r e2)
end
end
theorem leafy_canLay (d : PyData) : leafy d = true → d.canLay0 = true :=
  leafy_ind (P := fun d => d.canLay0 = true) (Q := fun ds => PyData.canLayAll0 ds = true) rfl (fun _ e => strok_ok e) (fun _ _ e => e) rfl (fun _ _ _ _ a b => Bool.and_eq_true_iff.mpr ⟨a, b⟩) d
theorem leafy_eqv (d : PyData) : leafy d = true → ∀ e, leafy e = true → (PyData.eqv d e = true ↔ d = e) := by
  refine leafy_ind (P := fun d => ∀ e, leafy e = true → (PyData.eqv d e = true ↔ d = e)) (Q := fun ds => ∀ es, leafyAll es = true → (PyData.eqvAll ds es = true ↔ ds = es)) ?_ ?_ ?_ ?_ ?_ d
  · exact fun e he => leafy_ind (P := fun e => PyData.eqv .none e = true ↔ PyData.none = e) (Q := fun _ => True) ⟨fun _ => rfl, fun _ => rfl⟩ (fun x _ => ⟨bf, nofun⟩) (fun _ _ _ => ⟨bf, nofun⟩) trivial (fun _ _ _ _ _ _ => trivial) e he
  · exact fun x _ e he => leafy_ind (P := fun e => PyData.eqv (.str x) e = true ↔ PyData.str x = e) (Q := fun _ => True) ⟨bf, nofun⟩ (fun y _ => ⟨fun h => congrArg _ (beq_iff_eq.mp h), fun h => beq_iff_eq.mpr (PyData.str.inj h)⟩) (fun _ _ _ => ⟨bf, nofun⟩) trivial (fun _ _ _ _ _ _ => trivial) e he
  · intro ds _ ih e
    induction e using PyData.casesOn with
    | tuple es => exact fun he => ⟨fun h => congrArg _ ((ih es he).mp h), fun h => (ih es he).mpr (PyData.tuple.inj h)⟩
    | none => exact fun _ => ⟨bf, nofun⟩
    | str _ => exact fun _ => ⟨bf, nofun⟩
    | _ => exact bf
  · intro es he
    induction es using List.casesOn with
    | nil => exact ⟨fun _ => rfl, fun _ => rfl⟩
    | cons _ _ => exact ⟨bf, nofun⟩
  · intro d r _ _ i1 i2 es
    induction es using List.casesOn with
    | nil => exact fun _ => ⟨bf, nofun⟩
    | cons e es => exact fun he => band_k he fun he1 he2 => ⟨fun h => band_k h fun a b => List.cons_eq_cons.mpr ⟨(i1 e he1).mp a, (i2 es he2).mp b⟩, fun h => Bool.and_eq_true_iff.mpr ⟨(i1 e he1).mpr (List.cons_eq_cons.mp h).1, (i2 es he2).mpr (List.cons_eq_cons.mp h).2⟩⟩
theorem leafy_nil {h : Heap} (d : PyData) : leafy d = true → ∀ (v : Value) (as : List Addr), Reads h v d as → as = [] :=
  leafy_ind (P := fun d => ∀ (v : Value) (as : List Addr), Reads h v d as → as = []) (Q := fun ds => ∀ (vs : List Value) (as : List Addr), ReadsAll h vs ds as → as = []) (fun _ _ r => (reads_none_inv r).2) (fun _ _ _ _ r => (reads_str_inv r).elim fun _ h => h.2)
    (fun ds _ ih _ _ r => (reads_tup_inv r).elim fun _ z => z.elim fun _ z => z.elim fun _ z => z.elim fun _ z => ih _ _ z.2.2.2.2) (fun _ _ r => (readsAll_nil_inv r).2)
    (fun d ds _ _ i1 i2 _ _ r => (readsAll_cons_inv r).elim fun v z => z.elim fun vs z => z.elim fun a1 z => z.elim fun a2 z => by rw [z.2.1, i1 _ _ z.2.2.1, i2 _ _ z.2.2.2]; rfl) d
theorem hashGo (w : World) : ∀ ds : List PyData, hashD.go w ds = ds.map (hashD w)
  | [] => rfl
  | d :: r => congrArg (hashD w d :: ·) (hashGo w r)
theorem readsNil {d : PyData} {ds : List PyData} {vs : List Value} (r : ReadsAll h vs (d :: ds) []) {m : List Value → Prop} (k : ∀ v vs, Reads h v d [] → ReadsAll h vs ds [] → m (v :: vs)) : m vs :=
  (readsAll_cons_inv r).elim fun v z => z.elim fun vs z => z.elim fun a1 z => z.elim fun a2 z => by
    obtain ⟨e1, e, r1, r2⟩ := z
    have q := List.append_eq_nil_iff.mp e.symm
    rw [q.1] at r1; rw [q.2] at r2; rw [e1]; exact k v vs r1 r2
theorem tupNil {ds : List PyData} {v : Value} (r : Reads h v (.tuple ds) []) {m : Value → Prop} (k : ∀ (a : Addr) (o : Obj) (vs : Array Value) (n : Nat), h.get? a = some o → o.cls = .type "tuple" → o.data = .seq vs n → ReadsAll h vs.toList ds [] → m (.ref a)) : m v :=
  (reads_tup_inv r).elim fun a z => z.elim fun o z => z.elim fun vs z => z.elim fun n z => z.1 ▸ k a o vs n z.2.1 z.2.2.1 z.2.2.2.1 z.2.2.2.2
theorem lt_add_max {a b c L : Nat} (h : a + max b c < L) : a + b < L ∧ a + c < L := ⟨Nat.lt_of_le_of_lt (Nat.add_le_add_left (Nat.le_max_left _ _) _) h, Nat.lt_of_le_of_lt (Nat.add_le_add_left (Nat.le_max_right _ _) _) h⟩
section
variable {E : Value → Shared → Prop}
theorem hash_reads (d : PyData) : leafy d = true → ∀ (v : Value) (A : Around) (s : Shared) (Q : Int → Shared → Prop), Reads s.heap v d [] → A.units + d.depth < cLine →
    Q (hashD w d) { s with toks := s.toks + drawsD d } → wpAny (model prog w) A (pyHash v) Q E s := by
  refine leafy_ind (P := fun d => ∀ (v : Value) (A : Around) (s : Shared) (Q : Int → Shared → Prop), Reads s.heap v d [] → A.units + d.depth < cLine → Q (hashD w d) { s with toks := s.toks + drawsD d } → wpAny (model prog w) A (pyHash v) Q E s)
    (Q := fun ds => ∀ (vs : List Value) (A : Around) (s : Shared) (b : Array Int) (Q : Array Int → Shared → Prop), ReadsAll s.heap vs ds [] → A.units + PyData.depthAll ds < cLine →
      (∀ b', b'.toList = b.toList ++ hashD.go w ds → Q b' { s with toks := s.toks + drawsAll ds }) → wpAny (model prog w) A (forIn vs b fun x r => do let h ← pyHash x; pure PUnit.unit; pure (ForInStep.yield (r.push h))) Q E s) ?_ ?_ ?_ ?_ ?_ d
  · intro v A s Q r hu q
    rw [(reads_none_inv r).1]
    exact pyHash_slot (T := "NoneType") rfl PySem.F.slot_NoneType_hash PySem.F.entry_NoneType_hash (PySem.F.args_NoneType_hash_1 _) (beq_builtin_none _) (.inr (Nat.lt_of_le_of_lt (Nat.le_add_right _ _) hu))
      (wpAny_bind (wpAny_pure (wpAny_bind (wpAny_mkInt (wpAny_pure ⟨_, _, rfl, q⟩)))))
  · intro x _ v A s Q r hu q
    exact (reads_str_inv r).elim fun t z => z.1 ▸ wpAny_pyHash_str q
  · intro ds _ ih v A s Q r hu q
    refine tupNil r (m := fun v => wpAny (model prog w) A (pyHash v) Q E s) fun a o vs n h1 h2 h3 h4 => ?_
    refine pyHash_slot (T := "tuple") ⟨_, h1, h2⟩ PySem.F.slot_tuple_hash PySem.F.entry_tuple_hash (PySem.F.args_tuple_hash_1 _) (beq_builtin_none _) (.inr (Nat.lt_of_le_of_lt (Nat.le_add_right _ _) hu)) ?_
    show wpAny _ _ (Builtin.Tuple.tupleItemsOf (.ref a) >>= _) _ _ s
    refine wpAny_bind (wpAny_tupleItemsOf h1 h3 ?_)
    refine wpAny_bind ?_
    rw [← Array.forIn_toList]
    refine ih vs.toList A.in1 s #[] _ h4 (Nat.lt_of_le_of_lt (Nat.le_of_eq (Nat.add_right_comm A.units 1 _)) hu) fun b hb => ?_
    show wpAny _ _ (retInt (Builtin.Tuple.tupleHashOf b.toList)) _ _ _
    rw [hb]
    exact wpAny_bind (wpAny_mkInt (wpAny_pure ⟨_, _, rfl, q⟩))
  · intro vs A s b Q r _ q
    rw [(readsAll_nil_inv r).1]
    exact wpAny_pure (q b (List.append_nil _).symm)
  · intro d ds _ _ i1 i2 vs A s b Q r hu q
    refine readsNil r (m := fun vs => wpAny (model prog w) A (forIn vs b fun x r => do let h ← pyHash x; pure PUnit.unit; pure (ForInStep.yield (r.push h))) Q E s) fun v vs r1 r2 => ?_
    rw [List.forIn_cons]
    refine wpAny_bind (wpAny_bind (i1 v A s _ r1 (lt_add_max hu).1 ?_))
    refine wpAny_bind (wpAny_pure (wpAny_pure ?_))
    refine i2 vs A _ _ Q r2 (lt_add_max hu).2 fun b' hb => ?_
    have := q b' (by rw [hb, Array.toList_push, List.append_assoc]; rfl)
    rwa [show s.toks + drawsAll (d :: ds) = s.toks + drawsD d + drawsAll ds from (Nat.add_assoc _ _ _).symm] at this
theorem quiet_reads (d : PyData) : leafy d = true → ∀ (n : Nat) (v : Value) (A : Around) (s : Shared) (Q : Bool → Shared → Prop), Reads s.heap v d [] → d.depth ≤ n → Q true s → wpAny (model prog w) A (eqIsQuiet n v) Q E s := by
  refine leafy_ind (P := fun d => ∀ (n : Nat) (v : Value) (A : Around) (s : Shared) (Q : Bool → Shared → Prop), Reads s.heap v d [] → d.depth ≤ n → Q true s → wpAny (model prog w) A (eqIsQuiet n v) Q E s)
    (Q := fun ds => ∀ (n : Nat) (vs : List Value) (A : Around) (s : Shared) (Q : Option Bool × Unit → Shared → Prop), ReadsAll s.heap vs ds [] → PyData.depthAll ds ≤ n → Q (none, ()) s →
      wpAny (model prog w) A (forIn vs ((none, ()) : Option Bool × Unit) fun y _ => do
        let b ← eqIsQuiet n y
        if (!b) = true then pure (ForInStep.done (some false, ())) else pure (ForInStep.yield (none, ()))) Q E s) ?_ ?_ ?_ ?_ ?_ d
  · intro n v A s Q r _ q
    rw [(reads_none_inv r).1, eqIsQuiet_byValue n (v := .none) rfl]; exact wpAny_pure q
  · intro x _ n v A s Q r _ q
    exact (reads_str_inv r).elim fun t z => by rw [z.1, eqIsQuiet_byValue n (v := .str x t) rfl]; exact wpAny_pure q
  · intro ds _ ih n v A s Q r hn q
    refine tupNil r (m := fun v => wpAny (model prog w) A (eqIsQuiet n v) Q E s) fun a o vs m h1 h2 h3 h4 => ?_
    induction n using Nat.casesOn with
    | zero => exact absurd hn (Nat.not_succ_le_zero _)
    | succ n =>
      have hT : s.TypeIs (.ref a) "tuple" := ⟨_, h1, h2⟩
      unfold eqIsQuiet
      refine wpAny_bind (wpAny_specialOf hT PySem.F.slot_tuple_eq.lookup ?_)
      show wpAny _ _ (isInstance (.ref a) (.type "tuple") >>= _) _ _ s
      refine wpAny_bind (wpAny_isInstance hT isSubtype_tuple_tuple ?_)
      rw [if_neg (by decide)]
      refine wpAny_bind (wpAny_seqItems h1 h3 (wpAny_bind ?_))
      show wpAny _ _ (forIn vs _ _) _ _ s
      rw [← Array.forIn_toList]
      exact ih n vs.toList A s _ h4 (Nat.le_of_succ_le_succ hn) (wpAny_pure q)
  · intro n vs A s Q r _ q
    rw [(readsAll_nil_inv r).1]
    exact wpAny_pure q
  · intro d ds _ _ i1 i2 n vs A s Q r hn q
    refine readsNil r (m := fun vs => wpAny (model prog w) A (forIn vs ((none, ()) : Option Bool × Unit) fun y _ => do
        let b ← eqIsQuiet n y
        if (!b) = true then pure (ForInStep.done (some false, ())) else pure (ForInStep.yield (none, ()))) Q E s) fun v vs r1 r2 => ?_
    rw [List.forIn_cons]
    refine wpAny_bind (wpAny_bind (i1 n v A s _ r1 (Nat.le_trans (Nat.le_max_left _ _) hn) ?_))
    rw [if_neg (by decide)]
    have z := i2 n vs A s Q r2 (Nat.le_trans (Nat.le_max_right _ _) hn) q
    first
      | exact wpAny_pure z
      | exact wpAny_bind (wpAny_pure (wpAny_pure z))
end
noncomputable abbrev TKey := { d : PyData // tkey d = true }
theorem tkey_leafy {d : PyData} (h : tkey d = true) : leafy d = true := (Bool.and_eq_true_iff.mp (Bool.and_eq_true_iff.mp h).1).2
theorem tkey_depth {d : PyData} (h : tkey d = true) : d.depth ≤ 8 := Nat.le_of_ble_eq_true (Bool.and_eq_true_iff.mp h).2
theorem eqv_dec {d e : PyData} [Decidable (d = e)] (hd : leafy d = true) (he : leafy e = true) : PyData.eqv d e = decide (d = e) := by
  have h := leafy_eqv d hd e he
  by_cases q : d = e
  · rw [decide_eq_true q]; exact h.mpr q
  · rw [decide_eq_false q]; exact Bool.eq_false_iff.mpr fun z => q (h.mp z)
theorem dec_congr {p q : Prop} [Decidable p] [Decidable q] (h : p ↔ q) : decide p = decide q := by
  by_cases z : q
  · rw [decide_eq_true z, decide_eq_true (h.mpr z)]
  · rw [decide_eq_false z, decide_eq_false fun y => z (h.mp y)]
open scoped Classical in
noncomputable def tkKind (prog : Program) (w : World) : HeapKind prog w TKey where
  is := fun h k a => Reads h (.ref a) k.1 []
  hash := fun k => hashD w k.1
  draws := fun k => drawsD k.1
  room := fun A => A.units + 10 < cLine
  inj := fun {h a x y} hx hy => Subtype.ext (SeqAt.Reads.unique _ _ _ _ _ (leafy_canLay _ (tkey_leafy x.2)) hx hy)
  keeps := fun {h h' k a d o es ep} hx ho hd hs => reads_tk (fun b o' vs n e c dd => (hs.2 b fun z => by rw [z, ho] at e; cases e; rw [hd] at dd; cases dd).trans e) hx rfl
  pyHash := fun {A E s k a Q} hu hk q => hash_reads k.1 (tkey_leafy k.2) _ A s Q hk (Nat.lt_of_le_of_lt (Nat.add_le_add_left (Nat.le_trans (tkey_depth k.2) (by decide)) _) hu) q
  eqBool := fun {A E s x y a b Q} hu hx hy q => by
    refine SeqAt.eqAt_reads x.1 y.1 A s _ _ _ _ hx hy (leafy_canLay _ (tkey_leafy x.2)) (leafy_canLay _ (tkey_leafy y.2)) (Nat.lt_of_le_of_lt (Nat.add_le_add_left (Nat.le_trans (Nat.min_le_left _ _) (Nat.le_trans (tkey_depth x.2) (by decide))) _) hu) prog w E Q ?_
    rw [eqv_dec (tkey_leafy x.2) (tkey_leafy y.2), dec_congr (q := x = y) ⟨Subtype.ext, congrArg _⟩]; exact q
  quiet := fun {A E s k a Q} hk q => quiet_reads k.1 (tkey_leafy k.2) 8 _ A s Q hk (tkey_depth k.2) q
end
section
variable {prog : Program} {w : World} {cls : Cls} {B : Base} {μ μ' : Mu} {H H' : AH} {s s' : Shared} {h h' : Heap} {A : Around} {F : Frz} {K : Frag}

section
variable {T : Type} [DecidableEq T] {enc : T → PyData}
inductive KV (enc : T → PyData) (μ : Mu) (h : Heap) : List (PyData × AV) → List (T × Value) → Prop
  | nil : KV enc μ h [] []
  | cons {k a v es kvs} : VR μ h a v → KV enc μ h es kvs → KV enc μ h ((enc k, a) :: es) ((k, v) :: kvs)
theorem KV.ind {P : List (PyData × AV) → List (T × Value) → Prop} (h0 : P [] []) (h1 : ∀ k a v es kvs, VR μ h a v → KV enc μ h es kvs → P es kvs → P ((enc k, a) :: es) ((k, v) :: kvs)) {es : List (PyData × AV)} {kvs : List (T × Value)} (x : KV enc μ h es kvs) : P es kvs :=
  x.rec (motive := fun es kvs _ => P es kvs) h0 fun r x ih => h1 _ _ _ _ _ r x ih
theorem KV.mono (hm : ∀ (i : Nat) (p : Addr × Addr), μ[i]? = some p → μ'[i]? = some p) (k : TK h h') {es : List (PyData × AV)} {kvs : List (T × Value)} (x : KV enc μ h es kvs) : KV enc μ' h' es kvs :=
  x.ind (P := fun es kvs => KV enc μ' h' es kvs) .nil fun _ _ _ _ _ r _ ih => .cons (r.mono hm k) ih
theorem KV.keys {es : List (PyData × AV)} {kvs : List (T × Value)} (x : KV enc μ h es kvs) : es.map (·.1) = (kvs.map (·.1)).map enc :=
  x.ind (P := fun es kvs => es.map (·.1) = (kvs.map (·.1)).map enc) rfl fun _ _ _ _ _ _ _ ih => congrArg _ ih
theorem KV.length {es : List (PyData × AV)} {kvs : List (T × Value)} (x : KV enc μ h es kvs) : kvs.length = es.length :=
  x.ind (P := fun es kvs => kvs.length = es.length) rfl fun _ _ _ _ _ _ _ ih => congrArg _ ih
noncomputable def KVf (μ : Mu) (h : Heap) (kvs : List (T × Value)) (k : T) : Option AV → Prop
  | some a => ∃ v, valueAt kvs k = some v ∧ VR μ h a v
  | none => valueAt kvs k = none
theorem KV.find (henc : ∀ a b, PyData.eqv (enc a) (enc b) = decide (a = b)) (k : T) {es : List (PyData × AV)} {kvs : List (T × Value)} (x : KV enc μ h es kvs) : KVf μ h kvs k (dget es (enc k)) :=
  x.ind (P := fun es kvs => KVf μ h kvs k (dget es (enc k))) rfl fun y a v es kvs r x ih => by
    by_cases q : y = k
    · rw [show dget ((enc y, a) :: es) (enc k) = some a by unfold dget; rw [List.find?_cons, henc, decide_eq_true q]; rfl]
      exact ⟨v, by unfold valueAt; rw [List.find?_cons, decide_eq_true q]; rfl, r⟩
    · have e : valueAt ((y, v) :: kvs) k = valueAt kvs k := by unfold valueAt; rw [List.find?_cons, decide_eq_false q]
      rw [show dget ((enc y, a) :: es) (enc k) = dget es (enc k) by unfold dget; rw [List.find?_cons, henc, decide_eq_false q]]
      unfold KVf at ih ⊢; rw [e]; exact ih
theorem stored_eq {y : T} {u v : Value} {kvs : List (T × Value)} (hn : y ∉ kvs.map (·.1)) : stored ((y, u) :: kvs) y v = (y, v) :: kvs := by
  unfold stored
  rw [if_pos (by rw [List.any_cons, decide_eq_true rfl]; rfl), List.map_cons, map_store_of_not_mem kvs y v hn, if_pos rfl]
theorem stored_cons_ne {y k : T} {u v : Value} {kvs : List (T × Value)} (q : ¬ y = k) : stored ((y, u) :: kvs) k v = (y, u) :: stored kvs k v := by
  unfold stored
  rw [List.any_cons, decide_eq_false q, Bool.false_or, List.map_cons, if_neg q]
  split <;> rfl
theorem KV.put (henc : ∀ a b, PyData.eqv (enc a) (enc b) = decide (a = b)) (k : T) {a : AV} {v : Value} (r : VR μ h a v) {es : List (PyData × AV)} {kvs : List (T × Value)} (x : KV enc μ h es kvs) : (kvs.map (·.1)).Nodup → KV enc μ h (dput es (enc k) a) (stored kvs k v) :=
  x.ind (P := fun es kvs => (kvs.map (·.1)).Nodup → KV enc μ h (dput es (enc k) a) (stored kvs k v)) (fun _ => .cons r .nil) fun y b u es kvs rb x ih hn => by
    have hn := List.nodup_cons.mp hn
    show KV enc μ h (cond (PyData.eqv (enc y) (enc k)) ((enc y, a) :: es) ((enc y, b) :: dput es (enc k) a)) _
    rw [henc]
    by_cases q : y = k
    · rw [decide_eq_true q, ← q, stored_eq hn.1]; exact .cons r x
    · rw [decide_eq_false q, stored_cons_ne q]; exact .cons rb (ih hn.2)
theorem KV.has (henc : ∀ a b, PyData.eqv (enc a) (enc b) = decide (a = b)) (k : T) {es : List (PyData × AV)} {kvs : List (T × Value)} (x : KV enc μ h es kvs) : (valueAt kvs k).isSome = (dget es (enc k)).isSome := by
  have := x.find henc k
  generalize dget es (enc k) = o at this
  cases o with
  | none => rw [show valueAt kvs k = none from this]; rfl
  | some a => exact this.elim fun v z => by rw [z.1]; rfl
theorem KV.get (henc : ∀ a b, PyData.eqv (enc a) (enc b) = decide (a = b)) (k : T) {es : List (PyData × AV)} {kvs : List (T × Value)} (x : KV enc μ h es kvs) {a : AV} (e : dget es (enc k) = some a) : ∃ v, valueAt kvs k = some v ∧ VR μ h a v := (show KVf μ h kvs k (some a) from e ▸ x.find henc k)
end
theorem enc_inj_nodup {T : Type} {enc : T → PyData} (hi : ∀ a b, enc a = enc b → a = b) : ∀ {l : List T}, (l.map enc).Nodup ↔ l.Nodup
  | [] => ⟨fun _ => List.nodup_nil, fun _ => List.nodup_nil⟩
  | x :: r => by
    rw [List.map_cons, List.nodup_cons, List.nodup_cons, enc_inj_nodup hi (l := r)]
    exact and_congr_left' ⟨fun a hm => a (List.mem_map_of_mem hm), fun a hm => (List.mem_map.mp hm).elim fun y z => a (hi y x z.2 ▸ z.1)⟩

theorem sEnc (a b : PySem.Str) : PyData.eqv (.str a) (.str b) = decide (a = b) := by
  by_cases q : a = b
  · rw [decide_eq_true q]; exact beq_iff_eq.mpr q
  · rw [decide_eq_false q]; exact beq_eq_false_iff_ne.mpr q
theorem isStrD_k {k : PyData} (h : isStrD k = true) {m : PyData → Prop} (q : ∀ x, m (.str x)) : m k := by
  induction k using PyData.casesOn with
  | str x => exact q x
  | _ => exact bf h
noncomputable def SKeys (prog : Program) (w : World) (r : List DictEntry) : Prop := ∀ e ∈ r, ∃ k, (strKind prog w).is k e.key = true ∧ e.hash = (strKind prog w).hash k
theorem dr_str {es : List (PyData × AV)} {r : List DictEntry} (x : DR w μ h es r) : es.all (fun e => isStrD e.1) = true → ∃ kvs : List (PySem.Str × Value), KV PyData.str μ h es kvs ∧ Pairs (strKind prog w) r kvs ∧ SKeys prog w r :=
  x.ind (P := fun es r => es.all (fun e => isStrD e.1) = true → ∃ kvs : List (PySem.Str × Value), KV PyData.str μ h es kvs ∧ Pairs (strKind prog w) r kvs ∧ SKeys prog w r) (fun _ => ⟨[], .nil, .nil, fun _ h => absurd h List.not_mem_nil⟩)
    fun k a e es r hk hv hh _ ih hs => band_k hs fun hs1 hs2 => (ih hs2).elim fun kvs z =>
      isStrD_k hs1 (m := fun k => Reads h e.key k [] → e.hash = hashD w k → ∃ kvs : List (PySem.Str × Value), KV PyData.str μ h ((k, a) :: es) kvs ∧ Pairs (strKind prog w) (e :: r) kvs ∧ SKeys prog w (e :: r)) (fun x hk hh => (reads_str_inv hk).elim fun t ht =>
        have his : (strKind prog w).is x e.key = true := ht.1 ▸ strKind_is prog w x t
        ⟨(x, e.val) :: kvs, .cons hv z.1, .cons his rfl z.2.1, fun e' he => (List.mem_cons.mp he).elim (fun q => q ▸ ⟨x, his, hh⟩) (z.2.2 e')⟩) hk hh
theorem str_dr {es : List (PyData × AV)} {kvs : List (PySem.Str × Value)} (x : KV PyData.str μ h es kvs) : ∀ {r : List DictEntry}, Pairs (strKind prog w) r kvs → SKeys prog w r → DR w μ h es r :=
  x.ind (P := fun es kvs => ∀ {r : List DictEntry}, Pairs (strKind prog w) r kvs → SKeys prog w r → DR w μ h es r) (fun p _ => by cases p; exact .nil) fun k a v es kvs hv x ih r p hk => by
    cases p with
    | @cons e _ _ _ h1 h2 hp =>
      obtain ⟨k', i1, i2⟩ := hk e List.mem_cons_self
      obtain ⟨t, ht⟩ := Value.isStrOf_shape h1
      exact .cons (ht ▸ .str _ _) (h2 ▸ hv) (i2.trans (congrArg (hashStr w) ((strKind prog w).inj _ _ _ h1 i1).symm)) (ih hp fun e he => hk e (List.mem_cons_of_mem _ he))
theorem nodup_enc {T : Type} [DecidableEq T] {enc : T → PyData} (hi : ∀ a b, enc a = enc b → a = b) {es : List (PyData × AV)} {kvs : List (T × Value)} (x : KV enc μ h es kvs) : (es.map (·.1)).Nodup ↔ (kvs.map (·.1)).Nodup := by rw [x.keys]; exact enc_inj_nodup hi
theorem str_of {l : Addr} {n : Nat} {es : List (PyData × AV)} {r : List DictEntry} (ho : h.get? l = some (dictOf r n)) (d : DR w μ h es r) (hs : es.all (fun e => isStrD e.1) = true) (hn : (es.map (·.1)).Nodup)
    {G : Prop} (k : ∀ kvs : List (PySem.Str × Value), KV PyData.str μ h es kvs → h.DictOf (strKind prog w) l kvs → (kvs.map (·.1)).Nodup → G) : G :=
  (dr_str (prog := prog) d hs).elim fun kvs z => have nd := (nodup_enc (fun _ _ e => PyData.str.inj e) z.1).mp hn
    k kvs z.1 ⟨_, r.toArray, n, ho, ⟨rfl, rfl, rfl⟩, rfl, fun e he => z.2.2 e (List.mem_toArray.mp he), z.2.1, nd⟩ nd
theorem exact_m {h : Heap} {l : Addr} {o : Obj} {eA : Array DictEntry} {ep : Nat} (ho : h.get? l = some o) (c : o.ExactDict) (hd : o.data = .dict eA ep) : h.get? l = some (dictOf eA.toList ep) := by
  obtain ⟨oc, od, oda, osl⟩ := o
  obtain ⟨c1, c2, c3⟩ := c
  rw [show oc = _ from c1, show od = _ from c2, show osl = _ from c3, show oda = _ from hd] at ho
  exact ho
theorem of_str {l : Addr} {es : List (PyData × AV)} {kvs : List (PySem.Str × Value)} (x : KV PyData.str μ h es kvs) (d : h.DictOf (strKind prog w) l kvs) : ((es.map (·.1)).Nodup) ∧ ∃ r n, h.get? l = some (dictOf r n) ∧ DR w μ h es r :=
  d.elim fun _ z => z.elim fun eA z => z.elim fun ep z => ⟨(nodup_enc (fun _ _ e => PyData.str.inj e) x).mpr z.2.2.2.2.2, eA.toList, ep, exact_m z.1 z.2.1 z.2.2.1, str_dr x z.2.2.2.2.1 fun e he => z.2.2.2.1 e (Array.mem_toList_iff.mp he)⟩

section
open scoped Classical
theorem tEnc (a b : TKey) : PyData.eqv a.1 b.1 = decide (a = b) := by
  rw [eqv_dec (tkey_leafy a.2) (tkey_leafy b.2), dec_congr (q := a = b) ⟨Subtype.ext, congrArg _⟩]
theorem tkey_ref {k : PyData} (ht : tkey k = true) {v : Value} {as : List Addr} (r : Reads h v k as) : ∃ a, v = .ref a := by
  induction k using PyData.casesOn with
  | tuple ds => exact (reads_tup_inv r).elim fun a z => ⟨a, z.elim fun _ z => z.elim fun _ z => z.elim fun _ z => z.1⟩
  | _ => exact bf ht
theorem dr_tup {es : List (PyData × AV)} {r : List DictEntry} (x : DR w μ h es r) : es.all (fun e => tkey e.1) = true → ∃ xs : List (TKey × Addr × Value), KV (Subtype.val (p := fun d => tkey d = true)) μ h es (kvsOf xs) ∧ r = xs.map (entryOfKey (tkKind prog w)) ∧ ∀ x ∈ xs, (tkKind prog w).is h x.1 x.2.1 :=
  x.ind (P := fun es r => es.all (fun e => tkey e.1) = true → ∃ xs : List (TKey × Addr × Value), KV (Subtype.val (p := fun d => tkey d = true)) μ h es (kvsOf xs) ∧ r = xs.map (entryOfKey (tkKind prog w)) ∧ ∀ x ∈ xs, (tkKind prog w).is h x.1 x.2.1) (fun _ => ⟨[], .nil, rfl, fun _ h => absurd h List.not_mem_nil⟩)
    fun k a e es r hk hv hh _ ih hs => band_k hs fun hs1 hs2 => (ih hs2).elim fun xs z => (tkey_ref hs1 hk).elim fun ad ha =>
      ⟨(⟨k, hs1⟩, ad, e.val) :: xs, .cons (k := (⟨k, hs1⟩ : TKey)) hv z.1, by rw [List.map_cons, ← z.2.1]; exact congrArg (· :: r) (show e = ⟨hashD w k, .ref ad, e.val⟩ by rw [← hh, ← ha]), fun x hx => (List.mem_cons.mp hx).elim (fun q => q ▸ (show Reads h (.ref ad) k [] from ha ▸ hk)) (z.2.2 x)⟩
theorem tup_dr {es : List (PyData × AV)} {kvs : List (TKey × Value)} (x : KV (Subtype.val (p := fun d => tkey d = true)) μ h es kvs) : ∀ {xs : List (TKey × Addr × Value)}, kvs = kvsOf xs → (∀ x ∈ xs, (tkKind prog w).is h x.1 x.2.1) → DR w μ h es (xs.map (entryOfKey (tkKind prog w))) :=
  x.ind (P := fun es kvs => ∀ {xs : List (TKey × Addr × Value)}, kvs = kvsOf xs → (∀ x ∈ xs, (tkKind prog w).is h x.1 x.2.1) → DR w μ h es (xs.map (entryOfKey (tkKind prog w)))) (fun {xs} e _ => by
      cases xs with
      | nil => exact .nil
      | cons _ _ => cases e) fun k a v es kvs hv x ih xs e hi => by
    cases xs with
    | nil => cases e
    | cons y xs =>
      have e1 := (List.cons_eq_cons.mp e).1
      have e2 : k = y.1 := congrArg Prod.fst e1
      exact .cons (e2 ▸ hi _ List.mem_cons_self) (show VR μ h a y.2.2 from (show v = y.2.2 from congrArg Prod.snd e1) ▸ hv) (e2 ▸ rfl) (ih (List.cons_eq_cons.mp e).2 fun x hx => hi x (List.mem_cons_of_mem _ hx))
theorem val_inj (a b : TKey) (e : a.1 = b.1) : a = b := Subtype.ext e
theorem kvs_keys (xs : List (TKey × Addr × Value)) : (kvsOf xs).map (·.1) = xs.map (·.1) := by unfold kvsOf; rw [List.map_map]; rfl
theorem tup_of {l : Addr} {n : Nat} {es : List (PyData × AV)} {r : List DictEntry} (ho : h.get? l = some (dictOf r n)) (d : DR w μ h es r) (hs : es.all (fun e => tkey e.1) = true) (hn : (es.map (·.1)).Nodup)
    {G : Prop} (k : ∀ xs : List (TKey × Addr × Value), KV (Subtype.val (p := fun d => tkey d = true)) μ h es (kvsOf xs) → h.DictOfH (tkKind prog w) l xs → ((kvsOf xs).map (·.1)).Nodup → G) : G :=
  (dr_tup (prog := prog) d hs).elim fun xs z => have nd := (nodup_enc val_inj z.1).mp hn
    k xs z.1 ⟨_, r.toArray, n, ho, ⟨rfl, rfl, rfl⟩, rfl, z.2.1, z.2.2, kvs_keys xs ▸ nd⟩ nd
theorem of_tup {l : Addr} {es : List (PyData × AV)} {xs : List (TKey × Addr × Value)} (x : KV (Subtype.val (p := fun d => tkey d = true)) μ h es (kvsOf xs)) (d : h.DictOfH (tkKind prog w) l xs) : ((es.map (·.1)).Nodup) ∧ ∃ r n, h.get? l = some (dictOf r n) ∧ DR w μ h es r :=
  d.elim fun _ z => z.elim fun eA z => z.elim fun ep z => ⟨(nodup_enc val_inj x).mpr ((kvs_keys xs).symm ▸ z.2.2.2.2.2), eA.toList, ep, exact_m z.1 z.2.1 z.2.2.1, z.2.2.2.1 ▸ tup_dr x rfl z.2.2.2.2.1⟩

theorem keyOk_k {es : List (PyData × AV)} {k : PyData} (hk : keyOk es k = true) {m : PyData → Prop} (k1 : es.all (fun e => isStrD e.1) = true → ∀ x, m (.str x)) (k2 : es.all (fun e => tkey e.1) = true → ∀ t : TKey, m t.1) : m k :=
  (Bool.or_eq_true_iff.mp hk).elim (fun hk => band_k hk fun h1 h2 => isStrD_k h1 (k1 h2)) fun hk => band_k hk fun h1 h2 => k2 h2 ⟨k, h1⟩
theorem u11 {u : Nat} (k : AOk A 0 (u + 70)) : A.units + 1 + 10 < cLine := Nat.lt_of_le_of_lt (show A.units + 11 ≤ A.units + (u + 70) from Nat.add_le_add_left (Nat.le_trans (by decide) (Nat.le_add_left 70 u)) _) k.units

theorem in_dict_sound {y : AV} {a b : Value} {d : PyData} {es : List (PyData × AV)} {u : Nat} (fz : FzOk w cls B F) (S : SR w cls B μ H s.heap) (k : AOk A 0 (u + 70)) (rx : Reads s.heap a d []) (ry : VR μ s.heap y b) (ey : getO F H y = some (.dict es)) (hk : keyOk es d = true)
    {Q : Value → Shared → Prop} : ((∀ tk, Q (.bool (dget es d).isSome) { s with toks := tk }) → WP prog w A (compareOp .In a b) Q s) ∧ ((∀ tk, Q (.bool (!(dget es d).isSome)) { s with toks := tk }) → WP prog w A (compareOp .NotIn a b) Q s) :=
  odict_m fz S ry ey (m := fun b => ((∀ tk, Q (.bool (dget es d).isSome) { s with toks := tk }) → WP prog w A (compareOp .In a b) Q s) ∧ ((∀ tk, Q (.bool (!(dget es d).isSome)) { s with toks := tk }) → WP prog w A (compareOp .NotIn a b) Q s)) fun l r n hsm hn ho hd =>
    keyOk_k hk (m := fun d => Reads s.heap a d [] → ((∀ tk, Q (.bool (dget es d).isSome) { s with toks := tk }) → WP prog w A (compareOp .In a (.ref l)) Q s) ∧ ((∀ tk, Q (.bool (!(dget es d).isSome)) { s with toks := tk }) → WP prog w A (compareOp .NotIn a (.ref l)) Q s))
      (fun hs z rk => str_of (prog := prog) ho hd hs hn fun kvs h1 h2 _ => (reads_str_inv rk).elim fun t z2 => by
        rw [z2.1, ← h1.has sEnc z]
        exact ⟨fun q => wpAny_in_of (strKind_is prog w z t) hsm h2.mapOf (q _), fun q => wpAny_notIn_of (strKind_is prog w z t) hsm h2.mapOf (q _)⟩)
      (fun hs t rk => tup_of (prog := prog) ho hd hs hn fun xs h1 h2 _ => (tkey_ref t.2 rk).elim fun ad z2 => by
        have e := h1.has tEnc t
        rw [valueAt_kvsOf, Option.isSome_map] at e
        rw [z2] at rk ⊢
        rw [← e]
        exact ⟨fun q => wpAny_in_heap (u11 k) rk hsm h2 (q _), fun q => wpAny_notIn_heap (u11 k) rk hsm h2 (q _)⟩) rx
theorem hasGet_dict : HasGet "dict" := ⟨_, slot_dict_getitem.lookup⟩
theorem sub_dict_sound {y r : AV} {a b : Value} {d : PyData} {es : List (PyData × AV)} {u : Nat} (fz : FzOk w cls B F) (S : SR w cls B μ H s.heap) (k : AOk A 0 (u + 70)) (rx : Reads s.heap a d []) (ry : VR μ s.heap y b) (ey : getO F H y = some (.dict es)) (hk : keyOk es d = true)
    (er : dget es d = some r) {Q : Value → Shared → Prop} (q : ∀ v tk, VR μ s.heap r v → Q v { s with toks := tk }) : GetQ prog w A Q s b a :=
  odict_m fz S ry ey (m := fun b => GetQ prog w A Q s b a) fun l dr n hsm hn ho hd => ⟨"dict", hasGet_dict, ⟨_, ho, rfl⟩,
    keyOk_k hk (m := fun d => Reads s.heap a d [] → dget es d = some r → WP prog w A (getItem (.ref l) a) Q s)
      (fun hs z rk er => str_of (prog := prog) ho hd hs hn fun kvs h1 h2 _ => (reads_str_inv rk).elim fun t z2 => (h1.get sEnc z er).elim fun v e => z2.1 ▸ wpAny_getItem_of (strKind_is prog w z t) h2.mapOf e.1 (q _ _ e.2))
      (fun hs t rk er => tup_of (prog := prog) ho hd hs hn fun xs h1 h2 _ => (tkey_ref t.2 rk).elim fun ad z2 => (h1.get tEnc t er).elim fun v e =>
        om_k ((valueAt_kvsOf ..).symm.trans e.1) fun p hp z3 => z2 ▸ wpAny_getItem_heap (u11 k) (show Reads s.heap (.ref ad) t.1 [] from z2 ▸ rk) h2 hp (q _ _ (z3 ▸ e.2))) rx er⟩
theorem setitem_dict_sound {x c : AV} {a b v : Value} {d : PyData} {es : List (PyData × AV)} {j u : Nat} (S : SR w cls B μ H s.heap) (k : AOk A 0 (u + 70)) (rx : Reads s.heap a d []) (ry : VR μ s.heap x b) (ex : vR x = some j) (ey : H[j]? = some (.dict es)) (hk : keyOk es d = true)
    (rc : VR μ s.heap c v) (hz : es.length ≤ room) {Q : Unit → Shared → Prop} (q : ∀ s', SR w cls B μ (H.set j (.dict (dput es d c))) s'.heap → Le μ s μ s' → Q () s') : WP prog w A (setItem b a v) Q s :=
  dict_m S ry ex ey (m := fun b => WP prog w A (setItem b a v) Q s) fun l dr n hμ hsm hn ho hd =>
    have tk' : ∀ h', Heap.SameBut l s.heap h' → TK s.heap h' := fun h' hs b o _ _ e c _ => (hs.2 b fun q => S.not_tuple e c (q ▸ List.mem_map_of_mem (f := (·.2)) (List.mem_of_getElem? hμ))).trans e
    have fin : ∀ (d : PyData) (h' : Heap) (tk : Nat), Heap.SameBut l s.heap h' → (((dput es d c).map (·.1)).Nodup ∧ ∃ r n, h'.get? l = some (dictOf r n) ∧ DR w μ h' (dput es d c) r) → (∀ s', SR w cls B μ (H.set j (.dict (dput es d c))) s'.heap → Le μ s μ s' → Q () s') → Q () { s with heap := h', toks := tk } :=
      fun d h' tk hs' z q => have x := S.upd (tk := tk) (o' := .dict (dput es d c)) hμ hs' ⟨rfl, ⟨hsm, z.1⟩, z.2⟩ (lt_of_get ey); q _ x.1 x.2
    keyOk_k hk (m := fun d => Reads s.heap a d [] → (∀ s', SR w cls B μ (H.set j (.dict (dput es d c))) s'.heap → Le μ s μ s' → Q () s') → WP prog w A (setItem (.ref l) a v) Q s)
      (fun hs z rk q => str_of (prog := prog) ho hd hs hn fun kvs h1 h2 hkn => (reads_str_inv rk).elim fun t z2 => z2.1 ▸ wpAny_setItem_pairs (strKind_is prog w z t) h2 (fun h' hm' hs' =>
        fin _ _ _ hs' (of_str ((h1.mono (μ' := μ) (fun _ _ e => e) (tk' h' hs')).put sEnc z (rc.mono (μ' := μ) (fun _ _ e => e) (tk' h' hs')) hkn) hm') q) (h1.length ▸ Nat.le_trans hz room_line))
      (fun hs t rk q => tup_of (prog := prog) ho hd hs hn fun xs h1 h2 hkn => (tkey_ref t.2 rk).elim fun ad z2 => z2 ▸ wpAny_setItem_heap (u11 k) (show Reads s.heap (.ref ad) t.1 [] from z2 ▸ rk) h2 (fun h' hm' hs' =>
        fin _ _ _ hs' (of_tup (kvsOf_storedH xs t ad v ▸ (h1.mono (μ' := μ) (fun _ _ e => e) (tk' h' hs')).put tEnc t (rc.mono (μ' := μ) (fun _ _ e => e) (tk' h' hs')) hkn) hm') q)
        ((List.length_map _).symm.trans h1.length ▸ Nat.le_trans hz room_line)) rx q
end
end
section
variable {prog : Program} {w : World} {cls : Cls} {B : Base} {μ μ' μ'' : Mu} {H H' : AH} {s s' s'' : Shared} {h h' : Heap} {A : Around} {F : Frz} {K : Frag} {X : Addr → Prop}

structure LeX (X : Addr → Prop) (μ : Mu) (s : Shared) (μ' : Mu) (s' : Shared) : Prop where
  gens : s'.gens = s.gens
  drawn : s'.drawn = s.drawn
  os : s'.os = s.os
  ext : ∃ ν, μ' = μ ++ ν ∧ ∀ p ∈ ν, s.heap.get? p.1 = none ∧ s.heap.get? p.2 = none
  keep : ∀ a o, s.heap.get? a = some o → a ∉ μ.map (·.2) → ¬ X a → s'.heap.get? a = some o
  alive : ∀ a o, s.heap.get? a = some o → ∃ o', s'.heap.get? a = some o'
  tk : TK s.heap s'.heap
theorem LeX.of (x : Le μ s μ' s') (S : SR w cls B μ H s.heap) : LeX X μ s μ' s' := ⟨x.gens, x.drawn, x.os, x.ext, fun a o e n _ => x.keep a o e n, x.alive, x.tk S⟩
theorem LeX.refl : LeX X μ s μ s := ⟨rfl, rfl, rfl, ⟨[], (List.append_nil _).symm, fun _ h => nomatch h⟩, fun _ _ e _ _ => e, fun _ o e => ⟨o, e⟩, TK.refl _⟩
theorem ext_trans {ν ν' : Mu} (e1 : μ' = μ ++ ν) (f1 : ∀ p ∈ ν, s.heap.get? p.1 = none ∧ s.heap.get? p.2 = none) (e2 : μ'' = μ' ++ ν') (f2 : ∀ p ∈ ν', s'.heap.get? p.1 = none ∧ s'.heap.get? p.2 = none) (al : ∀ a o, s.heap.get? a = some o → ∃ o', s'.heap.get? a = some o') :
    ∃ ν, μ'' = μ ++ ν ∧ ∀ p ∈ ν, s.heap.get? p.1 = none ∧ s.heap.get? p.2 = none :=
  ⟨ν ++ ν', by rw [e2, e1, List.append_assoc], fun p hp => (List.mem_append.mp hp).elim (f1 p) fun hp => ⟨none_of_alive al (f2 p hp).1, none_of_alive al (f2 p hp).2⟩⟩
theorem off_ext {ν : Mu} (e1 : μ' = μ ++ ν) (f1 : ∀ p ∈ ν, s.heap.get? p.1 = none ∧ s.heap.get? p.2 = none) {a : Addr} {o : Obj} (e : s.heap.get? a = some o) (n : a ∉ μ.map (·.2)) : a ∉ μ'.map (·.2) := fun hm => by
  rw [e1, List.map_append, List.mem_append] at hm
  exact hm.elim n fun hm => (List.mem_map.mp hm).elim fun p hp => by have := (f1 p hp.1).2; rw [hp.2, e] at this; cases this
theorem LeX.trans (x : LeX X μ s μ' s') (y : LeX X μ' s' μ'' s'') : LeX X μ s μ'' s'' :=
  x.ext.elim fun _ z1 => y.ext.elim fun _ z2 => ⟨y.gens.trans x.gens, y.drawn.trans x.drawn, y.os.trans x.os, ext_trans z1.1 z1.2 z2.1 z2.2 x.alive, fun a o e n hx => y.keep a o (x.keep a o e n hx) (off_ext z1.1 z1.2 e n) hx,
    fun a o e => (x.alive a o e).elim fun o' e' => y.alive a o' e', x.tk.trans y.tk⟩
theorem LeX.le (x : LeX X μ s μ' s') (f : ∀ a, X a → s.heap.get? a = none) : Le μ s μ' s' :=
  ⟨x.gens, x.drawn, x.os, x.ext, fun a o e n => x.keep a o e n fun hx => nos ((f a hx).symm.trans e), x.alive⟩
theorem LeX.mu (x : LeX X μ s μ' s') (i : Nat) (p : Addr × Addr) (e : μ[i]? = some p) : μ'[i]? = some p :=
  x.ext.elim fun _ z => z.1 ▸ (List.getElem?_append_left (List.getElem?_eq_some_iff.mp e).1).trans e
theorem VR.lex {a : AV} {v : Value} (r : VR μ s.heap a v) (x : LeX X μ s μ' s') : VR μ' s'.heap a v := r.mono x.mu x.tk
theorem VRs.lex {a : List AV} {v : List Value} (r : VRs μ s.heap a v) (x : LeX X μ s μ' s') : VRs μ' s'.heap a v := r.mono x.mu x.tk

noncomputable def Own (env : Env) (a : Addr) : Prop := a = env.locals ∨ ∃ x, env.cells.lookup x = some a

noncomputable def PlX (X : Addr → Prop) (env : Env) (x : PySem.Str) : Prop := (env.kindOf x = some .local → X env.locals) ∧ (env.kindOf x = some .cell → ∀ c, env.cells.lookup x = some c → X c)
theorem PlX.own {env : Env} {x : PySem.Str} : PlX (Own env) env x := ⟨fun _ => .inl rfl, fun _ c e => .inr ⟨x, e⟩⟩
theorem turn_off {d : Addr} {od : Obj} {tk : Nat} (S : SR w cls B μ H s.heap) (hXd : X d) (off : Off μ d) (newB : B d = none) (hod : s.heap.get? d = some od) (hns : ∀ vs n, od.data ≠ .seq vs n) (hnp : od.data ≠ .plain) (ho' : ∃ o, h'.get? d = some o) (hs : Heap.SameBut d s.heap h')
    {G : Prop} (g : SR w cls B μ H h' → LeX X μ s μ { s with heap := h', toks := tk } → TK s.heap h' → G) : G := by
  have k : ∀ b o, s.heap.get? b = some o → b ≠ d → h'.get? b = some o := fun b o e n => (hs.2 b n).trans e
  have tk' : TK s.heap h' := fun b o vs n e _ q => k b o e fun z => hns vs n (Option.some.inj (hod.symm.trans (z ▸ e)) ▸ q)
  refine g ⟨S.len, S.nodup, fun j o p ej ep => ?_, fun b o e => k b o (S.base b o e) (fun z => nos (newB.symm.trans (z ▸ e))), S.new⟩
    ⟨rfl, rfl, rfl, ⟨[], (List.append_nil _).symm, fun _ h => nomatch h⟩, fun b o e _ hx => k b o e fun z => hx (z ▸ hXd), fun b o e => ?_, tk'⟩ tk'
  · have hp : p.2 ≠ d := fun z => off (z ▸ List.mem_map_of_mem (List.mem_of_getElem? ep))
    have z := S.obj j o p ej ep
    refine z.mono_ne (fun _ _ e => e) tk' (fun y e => k _ y e hp) fun y e => ?_
    induction o using AO.casesOn with
    | list xs => rw [z.1] at e ⊢; exact k _ y e hp
    | dict xs => rw [z.1] at e ⊢; exact k _ y e hp
    | inst c fs => exact k _ y e fun q => z.elim fun _ z => z.elim fun _ z => hnp (Option.some.inj (hod.symm.trans (q ▸ z.1)) ▸ rfl)
  · by_cases z : b = d
    · exact z ▸ ho'
    · exact ⟨o, k b o e z⟩
theorem set_at {nm : List PySem.Str} {vs : Vars} {i : Nat} {x : PySem.Str} {a : AV} (nd : nm.Nodup) (hi : i < vs.length) (e1 : nm[i]? = some x) {j : Nat} {y : PySem.Str} {b : AV} (ey : nm[j]? = some y) (eb : (vs.set i (some a))[j]? = some (some b)) {G : Prop}
    (g1 : y = x → b = a → G) (g2 : y ≠ x → vs[j]? = some (some b) → G) : G := by
  by_cases hij : i = j
  · rw [← hij] at ey eb
    rw [List.getElem?_set_self hi] at eb
    exact g1 (Option.some.inj (ey.symm.trans e1)) (Option.some.inj (Option.some.inj eb)).symm
  · rw [List.getElem?_set_ne hij] at eb
    exact g2 (fun z => hij (nodup_idx nd e1 (z ▸ ey))) eb
theorem cell_ns {c : Addr} {v : Option Value} (x : h.IsCell c v) : ∃ oc, h.get? c = some oc ∧ (∀ vs n, oc.data ≠ .seq vs n) ∧ oc.data ≠ .plain := x.elim fun oc z => ⟨oc, z.1, fun vs n e => (nomatch z.2.symm.trans e), fun e => (nomatch z.2.symm.trans e)⟩
theorem ns_ns {c : Addr} {m : PySem.Str → Option Value} (x : h.Ns c m) : ∃ oc, h.get? c = some oc ∧ (∀ vs n, oc.data ≠ .seq vs n) ∧ oc.data ≠ .plain := x.elim fun oc z => z.elim fun _ z => z.elim fun _ z => ⟨oc, z.1, fun vs n e => (nomatch z.2.1.symm.trans e), fun e => (nomatch z.2.1.symm.trans e)⟩
theorem cell_k {c : Addr} {v : Option Value} (x : h.IsCell c v) (e : ∀ o, h.get? c = some o → h'.get? c = some o) : h'.IsCell c v := x.imp fun o z => ⟨e o z.1, z.2⟩
theorem store_var {env : Env} {nm : List PySem.Str} {vs : Vars} {i : Nat} {x : PySem.Str} {a : AV} {v : Value} {Q : Unit → Shared → Prop} (hX : PlX X env x) (S : SR w cls B μ H s.heap) (Fr : FR B env nm vs μ s.heap) (e1 : nm[i]? = some x) (hd : isVar env.scope x = true) (nd : nm.Nodup)
    (r : VR μ s.heap a v) (q : ∀ s', SR w cls B μ H s'.heap → FR B env nm (vs.set i (some a)) μ s'.heap → LeX X μ s μ s' → Q () s') : WP prog w A (storeName env x v) Q s := by
  have hi : i < vs.length := Fr.len ▸ (List.getElem?_eq_some_iff.mp e1).1
  refine Fr.ns.elim fun m z => ?_
  refine (Bool.or_eq_true_iff.mp (Bool.and_eq_true_iff.mp (Bool.and_eq_true_iff.mp hd).1).1).elim (fun hl => ?_) fun hc => ?_
  · have hl : env.kindOf x = some .local := beq_iff_eq.mp hl
    refine wpAny_storeName_local hl z.1 (fun h' hn hs => ?_) (by rw [Fr.kind]; rfl)
    refine (ns_ns z.1).elim fun o ho => turn_off (tk := s.toks + 1) S (hX.1 hl) Fr.offL Fr.newL ho.1 ho.2.1 ho.2.2 (Ns.at_ hn) hs fun S' L' tk' => ?_
    have kc : ∀ y c, env.cells.lookup y = some c → ∀ {v}, s.heap.IsCell c v → h'.IsCell c v := fun y c e _ w => cell_k w fun o e' => (hs.2 c (Fr.cell y c e).2.2.2).trans e'
    exact q _ S' { kind := Fr.kind, globals := Fr.globals, builtins := Fr.builtins, len := (List.length_set ..).trans Fr.len
                   ns := ⟨_, hn, fun j y b ey eb => set_at nd hi e1 ey eb (fun h1 h2 => ⟨v, h2 ▸ r.mono (fun _ _ e => e) tk', .inl ⟨h1 ▸ hl, if_pos h1⟩⟩)
                     fun hne eb' => (z.2 j y b ey eb').imp fun v' z => ⟨z.1.mono (fun _ _ e => e) tk', z.2.imp (fun z => ⟨z.1, (if_neg hne).trans z.2⟩) fun z => ⟨z.1, z.2.imp fun c w => ⟨w.1, kc y c w.1 w.2⟩⟩⟩⟩
                   offL := Fr.offL, newL := Fr.newL
                   cell := fun y c e => have w := Fr.cell y c e; ⟨w.1.imp fun _ u => kc y c e u, w.2⟩
                   apart := Fr.apart, has := Fr.has } L'
  · have hc : env.kindOf x = some .cell := beq_iff_eq.mp hc
    refine (Fr.has x hc).elim fun c ec => ?_
    have w := Fr.cell x c ec
    refine w.1.elim fun z1 hcell => wpAny_storeName_cell Fr.kind hc ec hcell fun h' hc' hs => ?_
    refine (cell_ns hcell).elim fun oc ho => turn_off (tk := s.toks) S (hX.2 hc c ec) w.2.1 w.2.2.1 ho.1 ho.2.1 ho.2.2 (hc'.imp fun _ u => u.1) hs fun S' L' tk' => ?_
    exact q _ S' { kind := Fr.kind, globals := Fr.globals, builtins := Fr.builtins, len := (List.length_set ..).trans Fr.len
                   ns := ⟨m, z.1.sameBut hs (Ne.symm w.2.2.2), fun j y b ey eb => set_at nd hi e1 ey eb (fun h1 h2 => ⟨v, h2 ▸ r.mono (fun _ _ e => e) tk', .inr ⟨h1 ▸ hc, c, h1 ▸ ec, hc'⟩⟩)
                     fun hne eb' => (z.2 j y b ey eb').imp fun v' z => ⟨z.1.mono (fun _ _ e => e) tk', z.2.imp id fun z => ⟨z.1, z.2.imp fun c' u => ⟨u.1, cell_k u.2 fun o e' => (hs.2 c' fun z => hne (Fr.apart y x _ u.1 (z ▸ ec))).trans e'⟩⟩⟩⟩
                   offL := Fr.offL, newL := Fr.newL
                   cell := fun y c' e => have u := Fr.cell y c' e; ⟨by
                     by_cases hyc : c' = c
                     · exact hyc ▸ ⟨_, hc'⟩
                     · exact u.1.imp fun _ u => cell_k u fun o e' => (hs.2 c' hyc).trans e', u.2⟩
                   apart := Fr.apart, has := Fr.has } L'

noncomputable def BLe (B0 B : Base) : Prop := ∀ a o, B0 a = some o → B a = some o
theorem BLe.refl (B : Base) : BLe B B := fun _ _ e => e
theorem BLe.trans {B0 B1 B2 : Base} (x : BLe B0 B1) (y : BLe B1 B2) : BLe B0 B2 := fun a o e => y a o (x a o e)
noncomputable def Holds (B : Base) (h : Heap) : Prop := ∀ a o, B a = some o → h.get? a = some o
theorem Holds.le {B0 B : Base} (x : Holds B h) (y : BLe B0 B) : Holds B0 h := fun a o e => x a o (y a o e)

noncomputable def RV (P : Value → Shared → Prop) (r : Result) (s : Shared) : Prop := match r with
  | .ok (.ret v) => P v s
  | _ => False
theorem RV_k {P : Value → Shared → Prop} {r : Result} {s : Shared} (x : RV P r s) {m : Result → Prop} (k : ∀ v, P v s → m (.ok (.ret v))) : m r := by
  rcases r with e | (v | _ | _ | _) <;> first | exact k _ x | exact x.elim
theorem RV.mono {P P' : Value → Shared → Prop} {r : Result} {s : Shared} (x : RV P r s) (k : ∀ v, P v s → P' v s) : RV P' r s := RV_k x (m := fun r => RV P' r s) k
noncomputable def FnOk (prog : Program) (w : World) (cls : Cls) (B0 : Base) (n : Nat) (f : Value) (S : Spec) : Prop :=
  ∀ (B : Base), BLe B0 B → ∀ (A : Around) (μ : Mu) (H : AH) (s : Shared) (as : List AV) (vs : List Value) (Q : K1), SR w cls B μ H s.heap → AOk A (2 * n) (100 * n) → VRs μ s.heap as vs → S as H Q →
    codeAny (model prog w) A (.call f ⟨vs, []⟩) (RV (PV w cls B μ s Q)) s
theorem FnOk.call {B0 : Base} {n : Nat} {f : Value} {S : Spec} (x : FnOk prog w cls B0 n f S) (hB : BLe B0 B) {as : List AV} {vs : List Value} {Q : K1} {R : Value → Shared → Prop} (hS : SR w cls B μ H s.heap) (hA : AOk A (2 * n) (100 * n)) (r : VRs μ s.heap as vs) (q : S as H Q) (k : Ret w cls B μ s Q R) :
    WP prog w A (call f vs) R s :=
  wpAny_call (codeAny_mono (x B hB A μ H s as vs Q hS hA r q) fun r s' z => by rcases r with e | (v | _ | _ | _) <;> first | exact z.ret k | exact z.elim)

noncomputable def bnV : BN → Value
  | .list => .type "list"
  | .tuple => .type "tuple"
  | .dict => .type "dict"
  | .len => .builtin "len"
  | .max => .builtin "max"
  | .abs => .builtin "abs"
  | .any => .builtin "any"
  | .repr => .builtin "repr"
  | .sorted => .builtin "sorted"
structure NsOk (prog : Program) (w : World) (N : Nam) (cls : Cls) (B0 : Base) (K : Frag) (Γ : Gam) (n : Nat) (mg mb : PySem.Str → Option Value) : Prop where
  ns : ∀ h, Holds B0 h → h.Ns mainGlobals mg ∧ h.Ns builtinsNs mb
  fn : ∀ f, ∃ a, mg (N.fn f) = some (.ref a) ∧ keepIn K (.ref a) = true ∧ FnOk prog w cls B0 n (.ref a) (Γ.fn f)
  cl : ∀ c, mg (N.cls c) = some (.ref (cls c)) ∧ keepIn K (.ref (cls c)) = true
  glob : ∀ g, ∃ v, mg (N.glob g) = some v ∧ ∀ h, Holds B0 h → VR [] h (Γ.glob g) v
  bn : ∀ b, mg (bnOf b) = none ∧ mb (bnOf b) = some (bnV b)
  rng : mg "range" = none ∧ mb "range" = some (.type "range")
  zip : mg "zip" = none ∧ mb "zip" = some (.type "zip")
structure MeOk (prog : Program) (w : World) (cls : Cls) (B0 : Base) (K : Frag) (Γ : Gam) (n : Nat) (c : Nat) (x : PySem.Str) (f : Addr) : Prop where
  co : clsOkB K (cls c) = true
  mo : methOkB K (cls c) x f = true
  ok : FnOk prog w cls B0 n (.ref f) (Γ.me c x)
  init : x = "__init__" → makesIn K (cls c) = true
structure Tx (prog : Program) (w : World) (N : Nam) (cls : Cls) (B0 : Base) (K : Frag) (Γ : Gam) (n : Nat) : Prop where
  kIn : ∀ a o, K.lookup a = some o → B0 a = some o
  fz : FzOk w cls B0 Γ.frz
  sys : ∃ o, B0 sysModules = some o
  ns : ∃ mg mb, NsOk prog w N cls B0 K Γ n mg mb
  me : ∀ c x, Γ.meths c x = true → ∃ f, MeOk prog w cls B0 K Γ n c x f
  attrs : ∀ c x, Γ.attrs c x = true → clsOkB K (cls c) = true ∧ attrOkB K (cls c) x = true
theorem holds_sr {B0 : Base} (S : SR w cls B μ H h) (hB : BLe B0 B) : Holds B0 h := fun a o e => S.base a o (hB a o e)
theorem Tx.kin {N : Nam} {B0 : Base} {Γ : Gam} {n : Nat} (T : Tx prog w N cls B0 K Γ n) (S : SR w cls B μ H h) (hB : BLe B0 B) : K.In h := fun a o e => S.base a o (hB a o (T.kIn a o e))
theorem Tx.fzb {N : Nam} {B0 : Base} {Γ : Gam} {n : Nat} (T : Tx prog w N cls B0 K Γ n) (hB : BLe B0 B) : FzOk w cls B Γ.frz := fun p o e h hh => T.fz p o e h fun a q eq => hh a q (hB a q eq)
end
section
variable {prog : Program} {w : World} {cls : Cls} {B B0 : Base} {μ μ' μ'' : Mu} {H H' : AH} {s s' s'' : Shared} {h h' : Heap} {A : Around} {F : Frz} {N : Nam} {Γ : Gam} {n : Nat} {R : Value → Shared → Prop} {K : K1}

theorem list_extendT (l b : Addr) (items items2 : Array Value) (n n2 : Nat) (dd : Option Addr) (sl : Array (Option Value)) (h0 : ¬(!items.isEmpty && Builtin.List.listTooLong (items.size + items2.size)) = true) (h1 : items.size ≤ sizeLine) (h2 : items.size + items2.size ≤ sizeLine + 1) :
    Meets (Builtin.«list.extend» ⟨[.ref l, .ref b], []⟩) (fun _ R s => s.heap.get? l = some { cls := .type "list", dict := none, data := .seq items n, slots := #[] } ∧ s.heap.get? b = some { cls := .type "tuple", dict := dd, data := .seq items2 n2, slots := sl } ∧ R (.ok (.ret Value.none)) { s with heap := s.heap.update l (Obj.mapSeq fun x => x ++ items2), toks := s.toks }) :=
  .of_wp fun prog w A R s h => by
    obtain ⟨hp, g, d, tk, os⟩ := s
    obtain ⟨hl, hb, h⟩ := h
    have f1 := AutoSeq1.idx_int; have f2 := AutoSeq1.sub_tuple_tuple; have f3 := AutoSeq1.sub_list_list; have f4 := AutoSeq1.sub_tuple_list; have f5 := AutoSeq1.sub_list_tuple
    have hz' : (items ++ items2).size ≤ sizeLine + 1 := by rw [Array.size_append]; exact h2
    wp_walk using (wpAny_updateSeq hl rfl (hz := h1) (_hz' := hz')), AutoSeq1.wpAny_loadPart' hl, AutoSeq1.wpAny_loadPart' hb; exact ⟨_, rfl, h⟩
theorem extend_call (fz : FzOk w cls B F) (S : SR w cls B μ H s.heap) {x : AV} {j : Nat} {y : AV} {v v2 : Value} {xs ys : List AV} (r : VR μ s.heap x v) (ex : vR x = some j) (e : hL H j = some xs) (r2 : VR μ s.heap y v2) (ey : itemsA F y H = some ys) (hz : Nat.ble (xs.length + ys.length) room = true)
    (kq : K (.py .none) (H.set j (.list (xs ++ ys)))) (q : Ret w cls B μ s K R) : WP prog w A (call (.builtin "list.extend") [v, v2]) R s := by
  refine list_m S r ex e (m := fun v => WP prog w A (call (.builtin "list.extend") [v, v2]) R s) fun l vs n hμ hl rv => ?_
  have hz1 : ∀ {ws : Array Value}, VRs μ s.heap ys ws.toList → vs.size + ws.size ≤ sizeLine := fun r => by rw [rv.size, r.size]; exact rooml hz
  have hno : ∀ {ws : Array Value}, VRs μ s.heap ys ws.toList → ¬(!vs.isEmpty && Builtin.List.listTooLong (vs.size + ws.size)) = true := fun {ws} r => by
    rw [show Builtin.List.listTooLong (vs.size + ws.size) = false from decide_eq_false fun z => Nat.lt_irrefl _ (Nat.lt_of_lt_of_le z (by have := hz1 r; rw [sizeLine_eq] at this; exact Nat.le_trans this (by decide))), Bool.and_false]; exact Bool.false_ne_true
  have fin : ∀ {ws : Array Value}, VRs μ s.heap ys ws.toList → R .none { s with heap := s.heap.update l (Obj.mapSeq fun x => x ++ ws), toks := s.toks } := fun {ws} rw' =>
    have x := S.setList (vs' := vs ++ ws) (xs' := xs ++ ys) (tk := s.toks) (lt_of_get (hL_k e)) hμ (Obj.mapSeq fun x => x ++ ws) ⟨_, IsL.update hl (fun x => x ++ ws)⟩ (by rw [Array.toList_append]; exact rv.append rw')
    q _ _ _ _ _ kq x.1 x.2 vr_none
  exact items_m fz S r2 ey (m := fun v2 => WP prog w A (call (.builtin "list.extend") [.ref l, v2]) R s)
    (fun b ws _ ht rw' => ht.elim fun o z => z.2.2.elim fun m hd => by
      obtain ⟨oc, od, oda, osl⟩ := o
      have ho := z.1
      rw [show oc = _ from z.2.1, show oda = _ from hd] at ho
      exact call_meets PySem.F.slot_list_extend ⟨_, hl, rfl⟩ PySem.F.entry_list_extend (PySem.F.args_list_extend_2 _ _) (list_extendT l b vs ws n m od osl (hno rw') (Nat.le_trans (Nat.le_add_right _ _) (hz1 rw')) (Nat.le_succ_of_le (hz1 rw'))) ⟨hl, ho, fin rw'⟩)
    fun b ws m _ hb rw' => call_meets PySem.F.slot_list_extend ⟨_, hl, rfl⟩ PySem.F.entry_list_extend (PySem.F.args_list_extend_2 _ _) (AutoSeq1.list_extend_list_list_0 l vs n b ws m (hno rw') (Nat.le_trans (Nat.le_add_right _ _) (hz1 rw')) (Nat.le_succ_of_le (hz1 rw'))) ⟨hl, hb, fin rw'⟩
theorem erase_last {α : Type} (vs : Array α) (hlt : vs.size - 1 < vs.size) : (vs.eraseIdxIfInBounds (vs.size - 1)).toList = vs.toList.dropLast := by
  unfold Array.eraseIdxIfInBounds
  rw [dif_pos hlt, Array.toList_eraseIdx]
  exact List.eraseIdx_length_sub_one
theorem pop_call (S : SR w cls B μ H s.heap) {x : AV} {j : Nat} {v : Value} {xs : List AV} {y : AV} (r : VR μ s.heap x v) (ex : vR x = some j) (e : hL H j = some xs) (ey : xs.getLast? = some y) (hz : Nat.ble xs.length room = true)
    (kq : K y (H.set j (.list xs.dropLast))) (q : Ret w cls B μ s K R) : WP prog w A (call (.builtin "list.pop") [v]) R s :=
  list_m S r ex e (m := fun v => WP prog w A (call (.builtin "list.pop") [v]) R s) fun l vs n hμ hl rv => (rv.get (List.getLast?_eq_getElem?.symm.trans ey)).elim fun u z => by
    have hu' : vs[vs.size - 1]? = some u := by rw [rv.size]; exact toL z.1
    have x := S.setList (vs' := vs.eraseIdxIfInBounds (vs.size - 1)) (xs' := xs.dropLast) (tk := s.toks) (lt_of_get (hL_k e)) hμ (Obj.mapSeq fun xs => xs.eraseIdxIfInBounds (vs.size - 1)) ⟨_, IsL.update hl (fun xs => xs.eraseIdxIfInBounds (vs.size - 1))⟩ (by rw [erase_last vs (Array.getElem?_eq_some_iff.mp hu').1]; exact rv.dropLast)
    exact call_meets PySem.F.slot_list_pop ⟨_, hl, rfl⟩ PySem.F.entry_list_pop (PySem.F.args_list_pop_1 _) (MeetsSeq.list_pop_last l vs n u hu' (size_le rv hz)) ⟨hl, q _ _ _ _ _ kq x.1 x.2 (z.2.mono (fun _ _ e => e) (x.2.tk S))⟩
theorem getmeth_list (S : SR w cls B μ H s.heap) {x : AV} {j : Nat} {v : Value} {xs : List AV} (r : VR μ s.heap x v) (ex : vR x = some j) (e : hL H j = some xs) {name : PySem.Str} {id : String} (slot : Slot "list" name id) (hty : typeOf (.builtin id) = pure (.type "method_descriptor")) {pl : Sem Bool}
    {Q : Value × List Value → Shared → Prop} (q : Q (.builtin id, [v]) s) : WP prog w A (getMethod v name pl) Q s :=
  list_m S r ex e (m := fun v => Q (.builtin id, [v]) s → WP prog w A (getMethod v name pl) Q s) (fun l vs n _ hl _ q => getMethod_builtin (s := s) ⟨_, hl, rfl⟩ PySem.F.plainAttrs_list slot hty (fun a e => by cases e; exact ⟨_, hl, rfl⟩) q) q
end
section
structure At (w : World) (cls : Cls) (B0 : Base) (n : Nat) (B : Base) (nm : List PySem.Str) (env : Env) (vs : Vars) (A : Around) (μ : Mu) (H : AH) (s : Shared) : Prop where
  hB : BLe B0 B
  nd : nm.Nodup
  S : SR w cls B μ H s.heap
  Fr : FR B env nm vs μ s.heap
  hA : AOk A (2 * n + 1) (100 * n + 75)
noncomputable def RetT (w : World) (cls : Cls) (B : Base) (μ : Mu) (s : Shared) (Q : KB) (R : Bool → Shared → Prop) : Prop := ∀ b s' μ' H', Q b H' → SR w cls B μ' H' s'.heap → Le μ s μ' s' → R b s'
noncomputable def RetL (w : World) (cls : Cls) (B : Base) (μ : Mu) (s : Shared) (Q : KL) (R : List Value → Shared → Prop) : Prop := ∀ vals s' as μ' H', Q as H' → SR w cls B μ' H' s'.heap → Le μ s μ' s' → VRs μ' s'.heap as vals → R vals s'
section
variable (prog : Program) (w : World) (N : Nam) (cls : Cls) (B0 : Base) (Γ : Gam) (n : Nat)
noncomputable abbrev EvS (c : CE) : Prop := ∀ {B : Base} {nm : List PySem.Str} {env : Env} {vs : Vars} {A : Around} {μ : Mu} {H : AH} {s : Shared} {Q : K1} {R : Value → Shared → Prop} {e : PySem.Expr}, At w cls B0 n B nm env vs A μ H s → bE N nm env.scope c e = true →
  eE Γ c vs H Q → Ret w cls B μ s Q R → WP prog w A (eval e env) R s
noncomputable abbrev EvT (c : CE) : Prop := ∀ {B : Base} {nm : List PySem.Str} {env : Env} {vs : Vars} {A : Around} {μ : Mu} {H : AH} {s : Shared} {Q : KB} {R : Bool → Shared → Prop} {e : PySem.Expr}, At w cls B0 n B nm env vs A μ H s → bE N nm env.scope c e = true →
  eE Γ c vs H (asB Q) → RetT w cls B μ s Q R → WP prog w A (isTrue e env (eval e env)) R s
noncomputable abbrev EvL (cs : CEs) : Prop := ∀ {B : Base} {nm : List PySem.Str} {env : Env} {vs : Vars} {A : Around} {μ : Mu} {H : AH} {s : Shared} {Q : KL} {R : List Value → Shared → Prop} {l : List PySem.Expr} {pos : Pos}, At w cls B0 n B nm env vs A μ H s → bEs N nm env.scope cs l = true →
  eEs Γ cs vs H Q → RetL w cls B μ s Q R → WP prog w A (spliced (backTo pos (starEach l env))) R s
end
variable {prog : Program} {w : World} {cls : Cls} {B B0 : Base} {μ μ' μ'' : Mu} {H H' : AH} {s s' s'' : Shared} {h h' : Heap} {A : Around} {F : Frz} {K : Frag} {N : Nam} {Γ : Gam} {n : Nat} {env : Env} {nm : List PySem.Str} {vs : Vars}

theorem At.next (z : At w cls B0 n B nm env vs A μ H s) (S : SR w cls B μ' H' s'.heap) (L : Le μ s μ' s') : At w cls B0 n B nm env vs A μ' H' s' := ⟨z.hB, z.nd, S, z.Fr.le z.S L, z.hA⟩
theorem starEach_cons {e : PySem.Expr} (h : notStar e = true) (r : List PySem.Expr) (env : Env) : starEach (e :: r) env = (false, eval e env) :: starEach r env := by
  revert h
  induction e using PySem.Expr.casesOn with
  | Starred => exact bf
  | _ => exact fun _ => rfl
theorem star_any (pos : Pos) : ∀ {cs : CEs} {l : List PySem.Expr} {sc : Scope}, bEs N nm sc cs l = true → (backTo pos (starEach l env)).any (·.1) = false
  | .nil, _, _, h => i_esnil (m := fun l => (backTo pos (starEach l env)).any (·.1) = false) h rfl
  | .cons _ cs, _, _, h => i_escons (m := fun l => (backTo pos (starEach l env)).any (·.1) = false) h fun e l h1 _ h3 => by
    rw [starEach_cons h1]; exact star_any pos (cs := cs) h3
theorem At.ok0 (z : At w cls B0 n B nm env vs A μ H s) : AOk A 0 (0 + 70) := z.hA.le (Nat.zero_le _) (Nat.le_trans (by decide) (Nat.le_add_left 75 _))

theorem evL_nil : EvL prog w N cls B0 Γ n .nil := @fun B nm env vs A μ H s Q R l pos z hb q k =>
  i_esnil (m := fun l => WP prog w A (spliced (backTo pos (starEach l env))) R s) hb (wpAny_items_nil (k [] s [] μ H q z.S (Le.refl ..) .nil))
theorem evL_cons {c : CE} {cs : CEs} (h1 : EvS prog w N cls B0 Γ n c) (h2 : EvL prog w N cls B0 Γ n cs) : EvL prog w N cls B0 Γ n (.cons c cs) := @fun B nm env vs A μ H s Q R l pos z hb q k =>
  i_escons (m := fun l => WP prog w A (spliced (backTo pos (starEach l env))) R s) hb fun e l hs he hl =>
    wpAny_items_cons (h1 z he q fun v s1 a μ1 H1 q1 S1 L1 r1 => h2 (z.next S1 L1) hl q1 fun vals s2 as μ2 H2 q2 S2 L2 r2 => k _ _ _ _ _ q2 S2 (L1.trans L2) (.cons (r1.le S1 L2) r2)) (starEach_cons hs _ _)

noncomputable def testShape (e : PySem.Expr) : Bool := by
  induction e using PySem.Expr.casesOn with
  | Compare => exact true
  | BoolOp => exact true
  | UnaryOp o _ _ => exact decide (o = .Not)
  | IfExp => exact true
  | _ => exact false
theorem isTrue_other {e : PySem.Expr} (h : testShape e = false) (env : Env) (whole : Sem Value) : isTrue e env whole = (do let v ← whole; standAt e.pos; holding [v] (truthy v)) := by
  revert h
  induction e using PySem.Expr.casesOn with
  | UnaryOp o _ _ => cases o <;> first | exact fun _ => rfl | exact fun h => bf h.symm
  | Compare => exact fun h => bf h.symm
  | BoolOp => exact fun h => bf h.symm
  | IfExp => exact fun h => bf h.symm
  | _ => exact fun _ => rfl
theorem ret_bool {Q : KB} {R : Bool → Shared → Prop} (k : RetT w cls B μ s Q R) : Ret w cls B μ s (asB Q) fun v s' => WP prog w A (truthy v) R s' := fun _ _ _ _ _ q S L r =>
  oP_k q fun _ e q => r.bool_m e (m := fun v => WP prog w A (truthy v) R _) (wpAny_truthy_bool (k _ _ _ _ q S L))
theorem evT_value {c : CE} (h1 : EvS prog w N cls B0 Γ n c) (hs : ∀ nm sc e, bE N nm sc c e = true → testShape e = false) : EvT prog w N cls B0 Γ n c := fun z hb q k =>
  wpAny_isTrue_value (h1 z hb q (ret_bool k)) (isTrue_other (hs _ _ _ hb) _ _)

theorem ev_const (d : PyData) : EvS prog w N cls B0 Γ n (.const d) := @fun B nm env vs A μ H s Q R e z hb q k => by
  induction d using PyData.casesOn with
  | none => exact i_none (m := fun e => WP prog w A (eval e env) R s) hb fun _ _ => wpAny_Constant_none (k.same z.S q vr_none)
  | bool b => exact i_bool (m := fun e => WP prog w A (eval e env) R s) hb fun _ _ => wpAny_Constant_bool (k.same z.S q (vr_bool _))
  | int i => exact int_eval hb fun _ _ => k.tok z.S q (vr_int _ _)
  | str x => exact i_str (m := fun e => WP prog w A (eval e env) R s) hb fun _ _ => wpAny_Constant_str (k.tok z.S q (vr_str _ _))
  | _ => exact bf hb
theorem ev_var (i : Nat) : EvS prog w N cls B0 Γ n (.var i) := @fun B nm env vs A μ H s Q R e z hb q k =>
  i_nm1 (m := fun e => WP prog w A (eval e env) R s) hb fun x p h1 h2 => oP_k q fun a ea q => load_var z.Fr h1 (Option.join_eq_some_iff.mp ea) h2 fun v r => k.same z.S q r
theorem isGlob_k {sc : Scope} {x : PySem.Str} (h : isGlob sc x = true) : sc.names.lookup x = some .globalImplicit ∧ (x == ("__debug__" : PySem.Str)) = false := band_k h fun h1 h2 => ⟨beq_iff_eq.mp h1, Bool.not_eq_true' _ ▸ h2⟩
theorem glob_load {x : PySem.Str} {p : Pos} {mg : PySem.Str → Option Value} {v : Value} {Q : Value → Shared → Prop} (Fr : FR B env nm vs μ s.heap) (hg : isGlob env.scope x = true) (hm : s.heap.Ns mainGlobals mg) (e : mg x = some v) (q : Q v s) : WP prog w A (eval (.Name x p) env) Q s :=
  Name_function_global Fr.kind (isGlob_k hg).1 (loadGlobal_global (Fr.globals.symm ▸ hm) e q) (isGlob_k hg).2
theorem builtin_load {x : PySem.Str} {p : Pos} {mg mb : PySem.Str → Option Value} {v : Value} {Q : Value → Shared → Prop} (Fr : FR B env nm vs μ s.heap) (hg : isGlob env.scope x = true) (hm : s.heap.Ns mainGlobals mg ∧ s.heap.Ns builtinsNs mb) (e : mg x = none ∧ mb x = some v) (q : Q v s) :
    WP prog w A (eval (.Name x p) env) Q s :=
  Name_function_global Fr.kind (isGlob_k hg).1 (loadGlobal_builtin (Fr.globals.symm ▸ hm.1) e.1 (Fr.builtins.symm ▸ hm.2) e.2 q) (isGlob_k hg).2
theorem Tx.ns_k (T : Tx prog w N cls B0 K Γ n) {G : Prop} (k : ∀ mg mb, NsOk prog w N cls B0 K Γ n mg mb → G) : G := T.ns.elim fun mg y => y.elim fun mb y => k mg mb y
theorem At.hh (z : At w cls B0 n B nm env vs A μ H s) : Holds B0 s.heap := holds_sr z.S z.hB
theorem Tx.fn_k (T : Tx prog w N cls B0 K Γ n) (z : At w cls B0 n B nm env vs A μ H s) (f : Nat) {p : Pos} {Q : Value → Shared → Prop} (hg : isGlob env.scope (N.fn f) = true) (k : ∀ a, keepIn K (.ref a) = true → FnOk prog w cls B0 n (.ref a) (Γ.fn f) → Q (.ref a) s) : WP prog w A (eval (.Name (N.fn f) p) env) Q s :=
  T.ns_k fun _ _ y => (y.fn f).elim fun a x => glob_load z.Fr hg (y.ns _ z.hh).1 x.1 (k a x.2.1 x.2.2)
theorem Tx.cls_k (T : Tx prog w N cls B0 K Γ n) (z : At w cls B0 n B nm env vs A μ H s) (f : Nat) {p : Pos} {Q : Value → Shared → Prop} (hg : isGlob env.scope (N.cls f) = true) (k : keepIn K (.ref (cls f)) = true → Q (.ref (cls f)) s) : WP prog w A (eval (.Name (N.cls f) p) env) Q s :=
  T.ns_k fun _ _ y => have x := y.cl f; glob_load z.Fr hg (y.ns _ z.hh).1 x.1 (k x.2)
theorem Tx.bn_k (T : Tx prog w N cls B0 K Γ n) (z : At w cls B0 n B nm env vs A μ H s) (b : BN) {p : Pos} {Q : Value → Shared → Prop} (hg : isGlob env.scope (bnOf b) = true) (k : Q (bnV b) s) : WP prog w A (eval (.Name (bnOf b) p) env) Q s :=
  T.ns_k fun _ _ y => builtin_load z.Fr hg (y.ns _ z.hh) (y.bn b) k
theorem ev_glob (T : Tx prog w N cls B0 K Γ n) (g : Nat) : EvS prog w N cls B0 Γ n (.glob g) := @fun B nm env vs A μ H s Q R e z hb q k =>
  i_glob (m := fun e => WP prog w A (eval e env) R s) hb fun p hg => T.ns_k fun _ _ y => (y.glob g).elim fun v x => glob_load z.Fr hg (y.ns _ z.hh).1 x.1 (k.same z.S q (x.2 _ z.hh).up)
theorem ev_tup {es : CEs} (h1 : EvL prog w N cls B0 Γ n es) : EvS prog w N cls B0 Γ n (.tup es) := @fun B nm env vs A μ H s Q R e z hb q k =>
  i_tup (m := fun e => WP prog w A (eval e env) R s) hb fun l c p hb => wpAny_Tuple (h1 z hb q fun vals s1 as μ1 H1 q1 S1 L1 r1 => bP_k q1 fun hz q1 => ⟨r1.length ▸ rooml hz, (k.from L1).tup (tk := s1.toks) S1 (vs := vals.toArray) r1 rfl q1⟩)
theorem ev_lst {es : CEs} (h1 : EvL prog w N cls B0 Γ n es) : EvS prog w N cls B0 Γ n (.lst es) := @fun B nm env vs A μ H s Q R e z hb q k =>
  i_lst (m := fun e => WP prog w A (eval e env) R s) hb fun l p hb => wpAny_List (h1 z hb q fun vals s1 as μ1 H1 q1 S1 L1 r1 => bP_k q1 fun hz q1 => ⟨r1.length ▸ rooml hz, (k.from L1).list (tk := s1.toks) S1 (vs := vals.toArray) r1 q1⟩)
theorem Tx.sysB (T : Tx prog w N cls B0 K Γ n) (hB : BLe B0 B) : ∃ o, B sysModules = some o := T.sys.imp fun _ e => hB _ _ e
theorem ev_dict0 (T : Tx prog w N cls B0 K Γ n) : EvS prog w N cls B0 Γ n .dict0 := @fun B nm env vs A μ H s Q R e z hb q k =>
  i_dict0 (m := fun e => WP prog w A (eval e env) R s) hb fun p => have y := z.S.newDict (tk := s.toks) (T.sysB z.hB); wpAny_Dict_empty (k _ _ _ _ _ q y.1 y.2.1 y.2.2)
end
section
variable {prog : Program} {w : World} {cls : Cls} {B B0 : Base} {μ μ' μ'' : Mu} {H H' : AH} {s s' s'' : Shared} {h h' : Heap} {A : Around} {F : Frz} {K : Frag} {N : Nam} {Γ : Gam} {n : Nat} {env : Env} {nm : List PySem.Str} {vs : Vars}

theorem marks_set {op : CmpOp} {r : PySem.Expr} (h : notSet r = true) : behindInMarks op r = false := by
  revert h
  induction r using PySem.Expr.casesOn with
  | Set => exact bf
  | _ => exact fun _ => rfl
theorem ne_sound {x y : AV} {a b : Value} {t : Bool} {u : Nat} (fz : FzOk w cls B F) (S : SR w cls B μ H s.heap) (k : AOk A 0 (u + 70)) (rx : VR μ s.heap x a) (ry : VR μ s.heap y b) (e : neA F x y H = some t) : SeqAt.RcNeAt A s a b t := by
  unfold neA at e
  cases hx : vF x with
  | none => rw [hx] at e; exact om_k e fun t' e1 e2 => e2 ▸ (eq_sound S k rx ry e1).2
  | some p =>
    rw [hx] at e
    rw [vF_k hx] at rx
    refine ob_k e fun j ej e => ob_k e fun xs ex e => ob_k e fun ys ey e => gB_k e fun hn e => ?_
    rw [none0_k hn] at ey
    refine olist_m fz S rx (show getO F H (.fro p) = some (.list xs) from ob_k ex fun o h1 h2 => h1.trans (congrArg some (oL_k h2))) (m := fun a => SeqAt.RcNeAt A s a b t) fun l vs n hl r1 => list_m S ry ej ey (m := fun b => SeqAt.RcNeAt A s (.ref l) b t) fun l2 ws m _ hl2 r2 => ?_
    exact (eqL_sound k hl hl2 xs [] (t := none0 xs) r1 r2 (by cases xs <;> rfl)).2 |> fun z => Option.some.inj e ▸ z
theorem cmp_sound {op : COp} {x y : AV} {a b : Value} {t : Bool} {u : Nat} (fz : FzOk w cls B F) (S : SR w cls B μ H s.heap) (k : AOk A 0 (u + 70)) (rx : VR μ s.heap x a) (ry : VR μ s.heap y b) (e : cmpA F op x y H = some t)
    {Q : Value → Shared → Prop} (q : ∀ tk, Q (.bool t) { s with toks := tk }) : WP prog w A (compareOp (copM op) a b) Q s := by
  induction op using COp.casesOn with
  | eq => exact (eq_sound S k rx ry e).1 prog w _ _ (q s.toks)
  | ne => exact ne_sound fz S k rx ry e prog w _ _ (q s.toks)
  | is_ => exact gB_k e fun hn e => ry.none_m hn (m := fun b => WP prog w A (compareOp .Is a b) Q s) (is_none (by rw [nn_val rx, Option.some.inj e]; exact q s.toks))
  | isnt => exact gB_k e fun hn e => ry.none_m hn (m := fun b => WP prog w A (compareOp .IsNot a b) Q s) (isNot_none (by rw [nn_val rx, Option.some.inj e]; exact q s.toks))
  | lt => exact iop_m rx ry e (m := fun a b => WP prog w A (compareOp .Lt a b) Q s) fun i j t u e => PySem.P.lt_int (Option.some.inj e ▸ q s.toks)
  | le => exact iop_m rx ry e (m := fun a b => WP prog w A (compareOp .LtE a b) Q s) fun i j t u e => PySem.P.le_int (Option.some.inj e ▸ q s.toks)
  | gt => exact iop_m rx ry e (m := fun a b => WP prog w A (compareOp .Gt a b) Q s) fun i j t u e => PySem.P.gt_int (Option.some.inj e ▸ q s.toks)
  | ge => exact iop_m rx ry e (m := fun a b => WP prog w A (compareOp .GtE a b) Q s) fun i j t u e => PySem.P.ge_int (Option.some.inj e ▸ q s.toks)
  | inn => exact in_seq_sound (prog := prog) fz S k rx ry e (fun d es ed ey hk et => (in_dict_sound fz S k (rx.dat ed) ry ey hk).1 fun tk => et ▸ q tk) fun z _ => z _ (q s.toks)
  | notin => exact om_k e fun t' e e2 => in_seq_sound (prog := prog) fz S k rx ry e (fun d es ed ey hk et => (in_dict_sound fz S k (rx.dat ed) ry ey hk).2 fun tk => et ▸ e2 ▸ q tk) fun _ z => z _ (e2 ▸ q s.toks)

theorem ev_cmp (T : Tx prog w N cls B0 K Γ n) {op : COp} {a b : CE} (h1 : EvS prog w N cls B0 Γ n a) (h2 : EvS prog w N cls B0 Γ n b) : EvS prog w N cls B0 Γ n (.cmp op a b) := @fun B nm env vs A μ H s Q R e z hb q k =>
  i_cmp (m := fun e => WP prog w A (eval e env) R s) hb fun l r p hns hl hr => wpAny_Compare1 (h1 z hl q fun v1 s1 a1 μ1 H1 q1 S1 L1 r1 => h2 (z.next S1 L1) hr q1 fun v2 s2 a2 μ2 H2 q2 S2 L2 r2 => oP_k q2 fun t et q2 =>
    cmp_sound (T.fzb z.hB) S2 z.ok0 (r1.le S1 L2) r2 et fun tk => k _ _ _ _ _ q2 S2 ((L1.trans L2).trans (Le.tok tk)) (vr_bool _)) (marks_set hns)
theorem evT_cmp (T : Tx prog w N cls B0 K Γ n) {op : COp} {a b : CE} (h1 : EvS prog w N cls B0 Γ n a) (h2 : EvS prog w N cls B0 Γ n b) : EvT prog w N cls B0 Γ n (.cmp op a b) := @fun B nm env vs A μ H s Q R e z hb q k =>
  i_cmp (m := fun e => WP prog w A (isTrue e env (eval e env)) R s) hb fun l r p hns hl hr => wpAny_isTrue_Compare1 (h1 z hl q fun v1 s1 a1 μ1 H1 q1 S1 L1 r1 => h2 (z.next S1 L1) hr q1 fun v2 s2 a2 μ2 H2 q2 S2 L2 r2 => oP_k q2 fun t et q2 =>
    cmp_sound (T.fzb z.hB) S2 z.ok0 (r1.le S1 L2) r2 et fun tk => wpAny_truthy_bool (k _ _ _ _ q2 S2 ((L1.trans L2).trans (Le.tok tk)))) (marks_set hns)
theorem ev_not {a : CE} (h1 : EvS prog w N cls B0 Γ n a) : EvS prog w N cls B0 Γ n (.not a) := @fun B nm env vs A μ H s Q R e z hb q k =>
  i_not (m := fun e => WP prog w A (eval e env) R s) hb fun x p hb => wpAny_UnaryOp (h1 z hb q fun v s1 a1 μ1 H1 q1 S1 L1 r1 => oP_k q1 fun t e q1 =>
    r1.bool_m e (m := fun v => WP prog w A (unaryOp .Not v) R s1) (not_value (wpAny_truthy_bool (k _ _ _ _ _ q1 S1 L1 (vr_bool _)))))
theorem evT_not {a : CE} (h1 : EvT prog w N cls B0 Γ n a) : EvT prog w N cls B0 Γ n (.not a) := @fun B nm env vs A μ H s Q R e z hb q k =>
  i_not (m := fun e => WP prog w A (isTrue e env (eval e env)) R s) hb fun x p hb => wpAny_isTrue_Not (h1 (Q := fun b H' => Q (!b) H') z hb q fun b s1 μ1 H1 q1 S1 L1 => k _ _ _ _ q1 S1 L1)
theorem ev_bin {op : BOp} {a b : CE} (h1 : EvS prog w N cls B0 Γ n a) (h2 : EvS prog w N cls B0 Γ n b) : EvS prog w N cls B0 Γ n (.bin op a b) := @fun B nm env vs A μ H s Q R e z hb q k =>
  i_bin (m := fun e => WP prog w A (eval e env) R s) hb fun l r p hl hr => wpAny_BinOp (h1 z hl q fun v1 s1 a1 μ1 H1 q1 S1 L1 r1 => h2 (z.next S1 L1) hr q1 fun v2 s2 a2 μ2 H2 q2 S2 L2 r2 => oP_k q2 fun t et q2 =>
    bin_sound S2 (r1.le S1 L2) r2 et (K := Q) q2 (k.from (L1.trans L2)))
theorem ev_ite {c a b : CE} (h0 : EvT prog w N cls B0 Γ n c) (h1 : EvS prog w N cls B0 Γ n a) (h2 : EvS prog w N cls B0 Γ n b) : EvS prog w N cls B0 Γ n (.ite c a b) := @fun B nm env vs A μ H s Q R e z hb q k =>
  i_ite (m := fun e => WP prog w A (eval e env) R s) hb fun t x y p hc hl hr => wpAny_IfExp (h0 z hc q fun t s1 μ1 H1 q1 S1 L1 => by
    cases t with
    | true => exact h1 (z.next S1 L1) hl q1 (k.from L1)
    | false => exact h2 (z.next S1 L1) hr q1 (k.from L1))
theorem wpAny_isTrue_IfExp {M : Model} {test body orelse : PySem.Expr} {pos : Pos} {whole : Sem Value} {E : Value → Shared → Prop} {Q : Bool → Shared → Prop}
    (hh : wpAny M A (isTrue test env (eval test env)) (fun b s₁ => if b then wpAny M A (isTrue body env (eval body env)) Q E s₁ else wpAny M A (isTrue orelse env (eval orelse env)) Q E s₁) E s) :
    wpAny M A (isTrue (.IfExp test body orelse pos) env whole) Q E s := by
  rw [arm_isTrue_IfExp]
  refine wpAny_bind (wpAny_mono hh (fun b s₁ h₁ => ?_) fun _ _ x => x)
  cases b <;> exact h₁
theorem RetT.from {Q : KB} {R : Bool → Shared → Prop} (k : RetT w cls B μ s Q R) (L : Le μ s μ' s') : RetT w cls B μ' s' Q R := fun v s2 μ2 H2 q S L2 => k v s2 μ2 H2 q S (L.trans L2)
theorem RetL.from {Q : KL} {R : List Value → Shared → Prop} (k : RetL w cls B μ s Q R) (L : Le μ s μ' s') : RetL w cls B μ' s' Q R := fun v s2 a μ2 H2 q S L2 => k v s2 a μ2 H2 q S (L.trans L2)
theorem evT_ite {c a b : CE} (h0 : EvT prog w N cls B0 Γ n c) (h1 : EvT prog w N cls B0 Γ n a) (h2 : EvT prog w N cls B0 Γ n b) : EvT prog w N cls B0 Γ n (.ite c a b) := @fun B nm env vs A μ H s Q R e z hb q k =>
  i_ite (m := fun e => WP prog w A (isTrue e env (eval e env)) R s) hb fun t x y p hc hl hr => wpAny_isTrue_IfExp (h0 (Q := fun t H' => cond t (eE Γ a vs H' (asB Q)) (eE Γ b vs H' (asB Q))) z hc q fun t s1 μ1 H1 q1 S1 L1 => by
    cases t with
    | true => exact h1 (z.next S1 L1) hl q1 (k.from L1)
    | false => exact h2 (z.next S1 L1) hr q1 (k.from L1))
theorem base_name {f : PySem.Expr} {l : List PySem.Expr} {ks : List Keyword} {p : Pos} (h : (asName f fun _ _ => none0 l && none0 ks) = false) (x : PySem.Str) (env : Env) (whole : Sem Value) : attributeBase (.Call f l ks p) x env whole = whole := by
  revert h
  induction f using PySem.Expr.casesOn with
  | Name => cases l <;> cases ks <;> first | exact fun _ => rfl | exact fun h => bf h.symm
  | _ => exact fun _ => rfl
theorem base_whole {o : PySem.Expr} (h : notSuper o = true) (x : PySem.Str) (env : Env) (whole : Sem Value) : attributeBase o x env whole = whole := by
  revert h
  induction o using PySem.Expr.casesOn with
  | Call f l k _ => exact fun h => base_name (Bool.not_eq_true' _ ▸ h) x env whole
  | _ => exact fun _ => rfl
theorem attrA_k {o : AV} {x : PySem.Str} {a : AV} (e : attrA Γ o x H = some a) {G : Prop} (k : ∀ c fs, getO Γ.frz H o = some (.inst c fs) → Γ.attrs c x = true → fs.lookup x = some a → G) : G :=
  ob_k e fun ob e1 e => ob_k e fun p e2 e => gB_k e fun h e => k p.1 p.2 (oI_k e2 ▸ e1) h e
theorem ev_attr (T : Tx prog w N cls B0 K Γ n) {o : CE} {x : PySem.Str} (h1 : EvS prog w N cls B0 Γ n o) : EvS prog w N cls B0 Γ n (.attr o x) := @fun B nm env vs A μ H s Q R e z hb q k =>
  i_attr (m := fun e => WP prog w A (eval e env) R s) hb fun v p hsu hv => by
    show wpAny _ _ _ _ _ _
    rw [arm_eval_Attribute, base_whole hsu]
    exact wpAny_bind (h1 z hv q fun v s1 a1 μ1 H1 q1 S1 L1 r1 => wpAny_bind (wpAny_standAt (wpAny_bind (wpAny_holding (oP_k q1 fun a ea q1 => attrA_k ea fun c fs eo hat ea =>
      getattr_sound (T.fzb z.hB) S1 (T.kin S1 z.hB) r1 eo (T.attrs _ _ hat).1 (T.attrs _ _ hat).2 ea fun v2 r2 => wpAny_bind (wpAny_letTemporaryGo (wpAny_pure (k _ _ _ _ _ q1 S1 (L1.trans (Le.tok _)) r2)))))))) 
theorem sub_sound {u : Nat} (fz : FzOk w cls B F) (S : SR w cls B μ H s.heap) (k : AOk A 0 (u + 70)) {x i r : AV} {a b : Value} (rx : VR μ s.heap x a) (ri : VR μ s.heap i b) (e : subA F x i H = some r) {Q : Value → Shared → Prop} (q : ∀ v tk, VR μ s.heap r v → Q v { s with toks := tk }) : GetQ prog w A Q s a b := by
  refine ob_k e fun d ed e => ?_
  cases ht : tupOf x with
  | some xs => rw [ht] at e; exact sub_tup_sound ht rx (ri.dat ed) e fun v r => q v s.toks r
  | none =>
    rw [ht] at e
    refine ob_k e fun o eo e => ?_
    induction o using AO.casesOn with
    | list xs => exact sub_list_sound fz S eo rx (ri.dat ed) e fun v r => q v s.toks r
    | dict es => exact gB_k e fun hk e => sub_dict_sound fz S k (ri.dat ed) rx eo hk e q
    | inst _ _ => exact nos e
theorem ev_sub (T : Tx prog w N cls B0 K Γ n) {o i : CE} (h1 : EvS prog w N cls B0 Γ n o) (h2 : EvS prog w N cls B0 Γ n i) : EvS prog w N cls B0 Γ n (.sub o i) := @fun B nm env vs A μ H s Q R e z hb q k =>
  i_sub (m := fun e => WP prog w A (eval e env) R s) hb fun v j p ho hi => Sub_ (h1 z ho q fun v1 s1 a1 μ1 H1 q1 S1 L1 r1 => h2 (z.next S1 L1) hi q1 fun v2 s2 a2 μ2 H2 q2 S2 L2 r2 => oP_k q2 fun r er q2 =>
    sub_sound (T.fzb z.hB) S2 z.ok0 (r1.le S1 L2) r2 er fun v tk rv => k _ _ _ _ _ q2 S2 ((L1.trans L2).trans (Le.tok tk)) rv)
theorem ev_slice {o : CE} {sk : Sl} (h1 : EvS prog w N cls B0 Γ n o) : EvS prog w N cls B0 Γ n (.slice o sk) := @fun B nm env vs A μ H s Q R e z hb q k =>
  i_slice (m := fun e => WP prog w A (eval e env) R s) hb fun v a b c p p2 ho hl hu ht => Sub_ (h1 z ho q fun v1 s1 a1 μ1 H1 q1 S1 L1 r1 => slice_eval hl hu ht fun vl vu vt tk pl pu pt => oP_k q1 fun r er q2 => by
    have y := Le.push (o := { cls := .type "slice", data := .fields #[vl, vu, vt] }) (tk := tk) S1
    have r2 := r1.push (o := { cls := .type "slice", data := .fields #[vl, vu, vt] })
    have hsl := Heap.IsSliceOf.new s1.heap vl vu vt
    have k2 := k.from (L1.trans y.2)
    clear q1
    revert er
    induction a1 using AV.casesOn with
    | py d => exact fun er => ob_k er fun ds e1 er => gB_k er fun hz er => om_k er fun ds' ed e2 => slice_tuple_sound y.1 (pTup_k e1 ▸ r2) hsl pl pu pt hz ed (K := Q) (kr (congrArg some e2) q2) k2
    | ref j => exact fun er => ob_k er fun xs ex er => gB_k er fun hz er => slice_list_sound y.1 rfl ex r2 hsl pl pu pt hz (K := Q) (kr er q2) k2
    | mix _ => exact nos
    | fro _ => exact nos)
end
section
variable {prog : Program} {w : World} {cls : Cls} {B B0 : Base} {μ μ' μ'' : Mu} {H H' : AH} {s s' s'' : Shared} {h h' : Heap} {A : Around} {F : Frz} {K : Frag} {N : Nam} {Γ : Gam} {n : Nat} {env : Env} {nm : List PySem.Str} {vs : Vars}

noncomputable def BoS (prog : Program) (w : World) (N : Nam) (cls : Cls) (B0 : Base) (Γ : Gam) (n : Nat) (o : Bool) (cs : CEs) : Prop :=
  ∀ {B : Base} {nm : List PySem.Str} {env : Env} {vs : Vars} {A : Around} {μ : Mu} {H : AH} {s : Shared} {Q : K1} {R : Value → Shared → Prop} {l : List PySem.Expr} {pos : Pos}, At w cls B0 n B nm env vs A μ H s → bEs N nm env.scope cs l = true →
  eBo Γ o cs vs H Q → Ret w cls B μ s Q R → WP prog w A (boolOp pos (boM o) (evalEach l env)) R s
noncomputable def BoT (prog : Program) (w : World) (N : Nam) (cls : Cls) (B0 : Base) (Γ : Gam) (n : Nat) (o : Bool) (cs : CEs) : Prop :=
  ∀ {B : Base} {nm : List PySem.Str} {env : Env} {vs : Vars} {A : Around} {μ : Mu} {H : AH} {s : Shared} {Q : KB} {R : Bool → Shared → Prop} {l : List PySem.Expr}, At w cls B0 n B nm env vs A μ H s → bEs N nm env.scope cs l = true →
  eBo Γ o cs vs H (asB Q) → RetT w cls B μ s Q R → WP prog w A (allTrue (boM o) l env) R s
theorem bo_step {o : Bool} {x : Sem Value} {y : Sem Value} {rest : List (Sem Value)} {pos : Pos} {Q : Value → Shared → Prop}
    (hh : WP prog w A x (fun v s₁ => ∃ b, v = .bool b ∧ cond (goOn o b) (WP prog w A (boolOp pos (boM o) (y :: rest)) Q s₁) (Q v s₁)) s) : WP prog w A (boolOp pos (boM o) (x :: y :: rest)) Q s := by
  show wpAny _ _ (x >>= _) _ _ s
  refine wpAny_bind (wpAny_mono hh (fun v s₁ h₁ => h₁.elim fun b z => ?_) fun _ _ f => f)
  have z2 := z.2
  rw [z.1] at z2 ⊢
  refine wpAny_bind (wpAny_standAt (wpAny_bind (wpAny_holding (wpAny_truthy_bool ?_))))
  cases o <;> cases b <;> first | exact wpAny_pure z2 | exact z2
theorem bo_nil (o : Bool) : BoS prog w N cls B0 Γ n o .nil := fun _ _ q => q.elim
theorem boT_nil (o : Bool) : BoT prog w N cls B0 Γ n o .nil := fun _ _ q => q.elim
theorem bo_cons {o : Bool} {c : CE} {cs : CEs} (h1 : EvS prog w N cls B0 Γ n c) (h2 : BoS prog w N cls B0 Γ n o cs) : BoS prog w N cls B0 Γ n o (.cons c cs) := @fun B nm env vs A μ H s Q R l pos z hb q k =>
  i_escons (m := fun l => WP prog w A (boolOp pos (boM o) (evalEach l env)) R s) hb fun e r _ he hr => by
    cases cs with
    | nil => exact i_esnil (m := fun r => WP prog w A (boolOp pos (boM o) (evalEach (e :: r) env)) R s) hr (h1 z he q fun v s1 a μ1 H1 q1 S1 L1 r1 => oP_k q1 fun b e q1 => k _ _ _ _ _ q1 S1 L1 (vBool_k e ▸ r1))
    | cons c2 cs2 =>
      exact i_escons (m := fun r => bEs N nm env.scope (.cons c2 cs2) r = true → WP prog w A (boolOp pos (boM o) (evalEach (e :: r) env)) R s) hr (fun e2 r2 _ _ _ hr => bo_step (h1 z he q fun v s1 a μ1 H1 q1 S1 L1 r1 => oP_k q1 fun b e q1 =>
        r1.bool_m e (m := fun v => ∃ b, v = .bool b ∧ cond (goOn o b) (WP prog w A (boolOp pos (boM o) (evalEach (e2 :: r2) env)) R s1) (R v s1)) ⟨b, rfl, by
          revert q1
          show cond (goOn o b) _ _ → _
          cases goOn o b with
          | false => exact fun q1 => k _ _ _ _ _ q1 S1 L1 (vr_bool _)
          | true => exact fun q1 => h2 (z.next S1 L1) hr q1 (k.from L1)⟩)) hr
theorem allTrue_cons {o : Bool} {x : PySem.Expr} {rest : List PySem.Expr} {Q : Bool → Shared → Prop}
    (h : WP prog w A (isTrue x env (eval x env)) (fun b s₁ => cond (goOn o b) (WP prog w A (allTrue (boM o) rest env) Q s₁) (Q b s₁)) s) : WP prog w A (allTrue (boM o) (x :: rest) env) Q s := by
  cases o with
  | true => exact wpAny_allTrue_And_cons (WP.mono h fun b s z => by cases b <;> exact z)
  | false => exact wpAny_allTrue_Or_cons (WP.mono h fun b s z => by cases b <;> exact z)
theorem allTrue_one {o b : Bool} {Q : Bool → Shared → Prop} (h : Q b s) : cond (goOn o b) (WP prog w A (allTrue (boM o) [] env) Q s) (Q b s) := by
  cases o <;> cases b <;> first | exact wpAny_allTrue_And_nil h | exact wpAny_allTrue_Or_nil h | exact h
theorem boT_cons {o : Bool} {c : CE} {cs : CEs} (h1 : EvT prog w N cls B0 Γ n c) (h2 : BoT prog w N cls B0 Γ n o cs) : BoT prog w N cls B0 Γ n o (.cons c cs) := @fun B nm env vs A μ H s Q R l z hb q k =>
  i_escons (m := fun l => WP prog w A (allTrue (boM o) l env) R s) hb fun e r _ he hr => by
    cases cs with
    | nil => exact i_esnil (m := fun r => WP prog w A (allTrue (boM o) (e :: r) env) R s) hr (allTrue_cons (h1 (Q := fun b H' => Q b H') z he q fun b s1 μ1 H1 q1 S1 L1 => allTrue_one (k _ _ _ _ q1 S1 L1)))
    | cons c2 cs2 => exact allTrue_cons (h1 (Q := fun b H' => cond (goOn o b) (eBo Γ o (.cons c2 cs2) vs H' (asB Q)) (Q b H')) z he q fun b s1 μ1 H1 q1 S1 L1 => by
        revert q1
        show cond (goOn o b) _ _ → _
        cases goOn o b with
        | false => exact fun q1 => k _ _ _ _ q1 S1 L1
        | true => exact fun q1 => h2 (z.next S1 L1) hr q1 (k.from L1))
theorem ev_and {es : CEs} (h1 : BoS prog w N cls B0 Γ n true es) : EvS prog w N cls B0 Γ n (.and es) := @fun B nm env vs A μ H s Q R e z hb q k => i_and (m := fun e => WP prog w A (eval e env) R s) hb fun _ _ hb => h1 z hb q k
theorem ev_or {es : CEs} (h1 : BoS prog w N cls B0 Γ n false es) : EvS prog w N cls B0 Γ n (.or es) := @fun B nm env vs A μ H s Q R e z hb q k => i_or (m := fun e => WP prog w A (eval e env) R s) hb fun _ _ hb => h1 z hb q k
theorem evT_and {es : CEs} (h1 : BoT prog w N cls B0 Γ n true es) : EvT prog w N cls B0 Γ n (.and es) := @fun B nm env vs A μ H s Q R e z hb q k => i_and (m := fun e => WP prog w A (isTrue e env (eval e env)) R s) hb fun _ _ hb => wpAny_isTrue_BoolOp (h1 z hb q k)
theorem evT_or {es : CEs} (h1 : BoT prog w N cls B0 Γ n false es) : EvT prog w N cls B0 Γ n (.or es) := @fun B nm env vs A μ H s Q R e z hb q k => i_or (m := fun e => WP prog w A (isTrue e env (eval e env)) R s) hb fun _ _ hb => wpAny_isTrue_BoolOp (h1 z hb q k)

theorem args_any {es : CEs} (h1 : EvL prog w N cls B0 Γ n es) (z : At w cls B0 n B nm env vs A μ H s) {l : List PySem.Expr} {pos : Pos} {K : KL} (hb : bEs N nm env.scope es l = true) (q : eEs Γ es vs H K) {R : List Value → Shared → Prop} (k : RetL w cls B μ s K R)
    {G : List PySem.Expr → Prop} (g0 : R [] s → G []) (g1 : ∀ e r, notStar e = true → (backTo pos (starEach r env)).any (·.1) = false → WP prog w A (spliced (backTo pos ((false, eval e env) :: starEach r env))) R s → G (e :: r)) : G l := by
  have hL := h1 (pos := pos) z hb q k
  revert hL
  cases es with
  | nil => exact i_esnil (m := fun l => _ → G l) hb fun _ => g0 (k [] s [] μ H q z.S (Le.refl ..) .nil)
  | cons c cs => exact i_escons (m := fun l => WP prog w A (spliced (backTo pos (starEach l env))) R s → G l) hb fun e r hs _ hr hL => g1 e r hs (star_any pos hr) (by rw [starEach_cons hs] at hL; exact hL)
theorem args_builtin {es : CEs} (h1 : EvL prog w N cls B0 Γ n es) (z : At w cls B0 n B nm env vs A μ H s) {id : String} {first : List Value} {l : List PySem.Expr} {pos : Pos} {K : KL} (hb : bEs N nm env.scope es l = true) (q : eEs Γ es vs H K) {R : Value → Shared → Prop}
    (k : RetL w cls B μ s K fun vals s1 => WP prog w A (call (.builtin id) (first ++ vals)) R s1) : WP prog w A (callWith pos (.builtin id) first (backTo pos (starEach l env)) []) R s :=
  args_any h1 z (pos := pos) hb q k (G := fun l => WP prog w A (callWith pos (.builtin id) first (backTo pos (starEach l env)) []) R s) (fun hL => callWith_builtin rfl (evalArgs_nil3 hL)) fun e r hs hr hL => by
    rw [starEach_cons hs]; exact callWith_builtin hr (evalArgs_plain hL)
theorem args_type {es : CEs} (h1 : EvL prog w N cls B0 Γ n es) (z : At w cls B0 n B nm env vs A μ H s) {T : String} {first : List Value} {l : List PySem.Expr} {pos : Pos} {K : KL} (hb : bEs N nm env.scope es l = true) (q : eEs Γ es vs H K) {R : Value → Shared → Prop}
    (k : RetL w cls B μ s K fun vals s1 => WP prog w A (call (.type T) (first ++ vals)) R s1) : WP prog w A (callWith pos (.type T) first (backTo pos (starEach l env)) []) R s :=
  args_any h1 z (pos := pos) hb q k (G := fun l => WP prog w A (callWith pos (.type T) first (backTo pos (starEach l env)) []) R s) (fun hL => PySem.callWith_type rfl (evalArgs_nil3 hL)) fun e r hs hr hL => by
    rw [starEach_cons hs]; exact PySem.callWith_type hr (evalArgs_plain hL)
theorem args_K {es : CEs} (T : Tx prog w N cls B0 K Γ n) (h1 : EvL prog w N cls B0 Γ n es) (z : At w cls B0 n B nm env vs A μ H s) {f : Value} {first : List Value} {l : List PySem.Expr} {pos : Pos} {K' : KL} (hk : keepIn K f = true) (hb : bEs N nm env.scope es l = true) (q : eEs Γ es vs H K') {R : Value → Shared → Prop}
    (k : RetL w cls B μ s K' fun vals s1 => WP prog w A (call f (first ++ vals)) R s1) : WP prog w A (callWith pos f first (backTo pos (starEach l env)) []) R s :=
  args_any h1 z (pos := pos) hb q (R := fun vals s1 => K.In s1.heap ∧ WP prog w A (call f (first ++ vals)) R s1) (fun vals s1 as μ1 H1 q1 S1 L1 r1 => ⟨T.kin S1 z.hB, k vals s1 as μ1 H1 q1 S1 L1 r1⟩)
    (G := fun l => WP prog w A (callWith pos f first (backTo pos (starEach l env)) []) R s) (fun hL => callWith_K0 (T.kin z.S z.hB) hk hL.2) fun e r hs hr hL => callWith_K (T.kin z.S z.hB) hk ((starEach_cons hs r env).symm ▸ hL) (starEach_cons hs _ _) hr
end
section
variable {prog : Program} {w : World} {cls : Cls} {B B0 : Base} {μ μ' μ'' : Mu} {H H' : AH} {s s' s'' : Shared} {h h' : Heap} {A : Around} {F : Frz} {env : Env} {nm : List PySem.Str} {vs : Vars} {E : Value → Shared → Prop} {R : Value → Shared → Prop} {K : K1}

theorem keys_no_list : typeLookup (.type "list") "keys" = pure none := am_miss_of_fast (by kernel_rfl)
theorem attr_miss_list {a : Addr} {xs : Array Value} {k : Nat} {Q : Option Value → Shared → Prop} (hx : IsL s.heap a xs k) (hA : A.handled = none)
    (hq : ∀ h' tk, (∀ b ob, s.heap.get? b = some ob → h'.get? b = some ob) → Q none { s with heap := h', toks := tk }) : wpAny (model prog w) A (getAttr? (.ref a) "keys") Q E s := by
  obtain ⟨hp, g, d, tk, os⟩ := s
  have hT : ∀ tk', (⟨hp, g, d, tk', os⟩ : Shared).TypeIs (.ref a) "list" := fun _ => ⟨_, hx, rfl⟩
  have f1 := sub_AttributeError
  have f3 := F.slot_list_getattribute.lookup
  have f4 := F.slot_list_getattribute.bind (.ref a)
  have f5 := am_list_getattr_none
  have hsz : ("keys" : PySem.Str).length + 100 ≤ sizeLine := by size_fits
  unfold getAttr? getAttrBy? getAttrBy
  repeat (any_goals (first | assumption | exact hT _ | ((with_reducible show wpAny _ _ (call (Value.builtin "list.__getattribute__") _ _) _ _ _); refine call_meets F.slot_list_getattribute (hT _) am_entry_list_getattribute (F.args_list_getattribute_2 _ _) (meets_getattribute_miss_list a xs k #[] "keys" _ keys_no_list (by decide) hsz) ⟨hx, hA, fun h' tk' e hx' => ?_⟩) | wp_step))
  obtain ⟨t', u', he⟩ := hx'.there
  show wpAny _ _ (getattributeRaised _ _ _ _ _ _ _) _ _ _
  unfold getattributeRaised
  repeat (any_goals (first | assumption | wp_step))
  exact hq _ _ hx'.keeps
theorem entry_upd_loop : entryFor table "dict.update.loop" = some Builtin.«dict.update.loop» := entryFor_of_tree (by kernel_rfl)
theorem plain_upd_loop : plainId "dict.update.loop" = true := by decide +kernel
inductive PairAt (h : Heap) (v : Value) (p : PySem.Str × Value) : Prop
  | mk (a : Addr) (o : Obj) (t : Tok) (n : Nat) (e : v = .ref a) (ho : h.get? a = some o) (hc : o.cls = .type "tuple") (hd : o.data = .seq #[.str p.1 t, p.2] n)
noncomputable def putAll (kvs ps : List (PySem.Str × Value)) : List (PySem.Str × Value) := ps.foldl (fun acc p => stored acc p.1 p.2) kvs
noncomputable def PairsAt (h : Heap) : List Value → List (PySem.Str × Value) → Prop
  | vs, [] => vs = []
  | vs, p :: ps => ∃ v r, vs = v :: r ∧ PairAt h v p ∧ PairsAt h r ps
theorem PairAt.tk {v : Value} {p : PySem.Str × Value} (x : PairAt h v p) (k : TK h h') : PairAt h' v p := x.casesOn fun a o t n e ho hc hd => ⟨a, o, t, n, e, k _ _ _ _ ho hc hd, hc, hd⟩
theorem PairsAt.tk (k : TK h h') : ∀ {ps : List (PySem.Str × Value)} {vs : List Value}, PairsAt h vs ps → PairsAt h' vs ps
  | [], _, x => x
  | _ :: _, _, x => x.imp fun v y => y.imp fun r z => ⟨z.1, z.2.1.tk k, PairsAt.tk k z.2.2⟩
theorem stored_len (kvs : List (PySem.Str × Value)) (k : PySem.Str) (v : Value) : (stored kvs k v).length ≤ kvs.length + 1 := by
  unfold stored
  split
  · rw [List.length_map]; exact Nat.le_succ _
  · rw [List.length_append]; exact Nat.le_refl _
theorem tk_but {d : Addr} {T : String} {Hh : Heap} (hs : Heap.SameBut d h Hh) (hd : ∃ o, h.get? d = some o ∧ o.cls = .type T) (hT : T ≠ "tuple") : TK h Hh := fun b o _ _ ho hc _ => (hs.2 b fun z => hd.elim fun q hq => hT (by
  rw [← z, ho] at hq; have := hq.2; rw [← Option.some.inj hq.1, hc] at this; exact (Value.type.inj this).symm)).trans ho
theorem upd_loop {d it l : Addr} {items : Array Value} {R : Result → Shared → Prop} (hh : A.handled = none) (hdi : d ≠ it) (hli : l ≠ it) (hdl : l ≠ d) (ps : List (PySem.Str × Value)) : ∀ (i : Nat) (s : Shared) (kvs : List (PySem.Str × Value)), s.heap.IsListIter it l i → s.heap.IsList l items → s.heap.DictOf (strKind prog w) d kvs →
    PairsAt s.heap (items.toList.drop i) ps → kvs.length + ps.length ≤ 100000 →
    (∀ h' tk, h'.DictOf (strKind prog w) d (putAll kvs ps) → (∀ b o, b ≠ d → b ≠ it → s.heap.get? b = some o → h'.get? b = some o) → R (.ok (.ret .none)) { s with heap := h', toks := tk }) →
    codeAny (model prog w) A (.builtin "dict.update.loop" ⟨[.ref d, .ref it, rawInt i, .none], []⟩) R s := by
  induction ps with
  | nil =>
    intro i s kvs hit hl hd hp hz fin
    refine codeAny_builtin entry_upd_loop ?_
    rw [Around.under_plainId plain_upd_loop _]
    unfold Builtin.«dict.update.loop»
    have hx : items[i]? = none := by rw [← Array.getElem?_toList]; exact List.getElem?_eq_none (List.drop_eq_nil_iff.mp hp)
    exact wpAny_bind (wpAny_pyNext_list_end hh hit hl hx fun h' he => wpAny_bind (m := Builtin.Dict.addKeywords d []) (wpAny_pure (wpAny_pure (fin h' _ (hd.extBut he hdi) fun b o _ hb e => he b o hb e))))
  | cons p ps ih =>
    intro i s kvs hit hl hd hp hz fin
    obtain ⟨v, r, e1, hp1, hp2⟩ := hp
    have hx : items[i]? = some v := by rw [← Array.getElem?_toList, ← List.head?_drop, e1]; rfl
    have er : r = items.toList.drop (i + 1) := by rw [← List.tail_drop, e1]; rfl
    refine codeAny_builtin entry_upd_loop ?_
    rw [Around.under_plainId plain_upd_loop _]
    unfold Builtin.«dict.update.loop»
    refine wpAny_bind (wpAny_pyNext_list_item hit hl hx fun h' hit' hs => ?_)
    have tk1 : TK s.heap h' := tk_but hs (hit.imp fun _ z => ⟨z.1, z.2.1⟩) (by decide)
    obtain ⟨a, o, t, n, ev, ho, hc, hdd⟩ := hp1.tk tk1
    rw [ev]
    refine wpAny_bind (wpAny_holding (wpAny_bind (wpAny_tryCatch ?_)))
    unfold Builtin.Dict.pairItems
    refine wpAny_bind (wpAny_typeOf (T := "tuple") ⟨o, ho, hc⟩ ?_)
    rw [if_pos (by decide)]
    refine wpAny_bind (wpAny_seqItems ho hdd (wpAny_pure ?_))
    refine wpAny_holding (m := dictSet d (.str p.1 t) p.2) (wpAny_dictSet_pairs (s := { s with heap := h' }) (strKind_is prog w p.1 t) (hd.extBut hs.extBut hdi) (fun h2 hd2 hs2 => wpAny_pure ⟨plainId_quiet plain_upd_loop _, ?_⟩) ?_)
    · have tk2 : TK h' h2 := tk_but hs2 ((hd.extBut hs.extBut hdi).imp fun _ z => z.elim fun _ z => z.elim fun _ z => ⟨z.1, z.2.1.1⟩) (by decide)
      exact ih (i + 1) { s with heap := h2, toks := s.toks + 1 } (stored kvs p.1 p.2) (hit'.extBut hs2.extBut (Ne.symm hdi)) ((hl.extBut hs.extBut hli).extBut hs2.extBut hdl) hd2 (er ▸ hp2.tk (fun b o vs n e c d => tk2 b o vs n (tk1 b o vs n e c d) c d)) (Nat.le_trans (Nat.add_le_add_right (stored_len kvs p.1 p.2) _) (Nat.le_trans (Nat.le_of_eq (Nat.add_right_comm ..)) hz))
        fun h3 tk3 hd3 hk3 => fin h3 tk3 hd3 fun b o hb1 hb2 e => hk3 b o hb1 hb2 ((hs2.2 b hb1).trans ((hs.2 b hb2).trans e))
    · exact Nat.le_trans (Nat.le_add_right _ _) (Nat.le_trans hz (sizeLine_eq ▸ by decide))
theorem Ret.freshD (q : Ret w cls B μ s K R) (S : SR w cls B μ H s.heap) {es : List (PyData × AV)} {tk : Nat} {a : Addr} (ha : s.heap.get? a = none) (hm : ∃ o, B sysModules = some o)
    (k : ∀ b o, s.heap.get? b = some o → h'.get? b = some o) (hd : (es.map (·.1)).Nodup ∧ ∃ r n, h'.get? a = some (dictOf r n) ∧ DR w μ h' es r) (kq : K (.ref H.length) (H ++ [.dict es])) : R (.ref a) { s with heap := h', toks := tk } :=
  have hmm : ∀ (i : Nat) (q : Addr × Addr), μ[i]? = some q → (μ ++ [(a, a)])[i]? = some q := fun i q e => (List.getElem?_append_left (List.getElem?_eq_some_iff.mp e).1).trans e
  have hne : (a == sysModules) = false := beq_eq_false_iff_ne.mpr fun z => hm.elim fun o ho => nos (ha.symm.trans (z ▸ S.base _ _ ho))
  have x := S.more (p := (a, a)) (o' := .dict es) (h' := h') (tk := tk) k ha ha ⟨rfl, ⟨hne, hd.1⟩, hd.2.imp fun r z => z.imp fun n z => ⟨z.1, z.2.mono hmm (TK.refl _)⟩⟩
  q _ _ _ _ _ kq x.1 x.2 (.ref (p := (a, a)) (by rw [← S.len]; exact List.getElem?_concat_length))
theorem stored_keys (kvs : List (PySem.Str × Value)) (k : PySem.Str) (v : Value) : (stored kvs k v).map (·.1) = kvs.map (·.1) ∨ ((stored kvs k v).map (·.1) = kvs.map (·.1) ++ [k] ∧ k ∉ kvs.map (·.1)) := by
  unfold stored
  by_cases hk : (kvs.any fun kv => decide (kv.1 = k)) = true
  · rw [if_pos hk, List.map_map]
    exact .inl (List.map_congr_left fun kv _ => by show (if kv.1 = k then (kv.1, v) else kv).1 = kv.1; split <;> rfl)
  · rw [if_neg hk, List.map_append]
    exact .inr ⟨rfl, fun hm => hk ((List.mem_map.mp hm).elim fun p hp => List.any_eq_true.mpr ⟨p, hp.1, decide_eq_true hp.2⟩)⟩
theorem stored_nodup {kvs : List (PySem.Str × Value)} {k : PySem.Str} {v : Value} (h : (kvs.map (·.1)).Nodup) : ((stored kvs k v).map (·.1)).Nodup :=
  (stored_keys kvs k v).elim (fun e => e.symm ▸ h) fun e => e.1.symm ▸ List.nodup_append.mpr ⟨h, List.nodup_cons.mpr ⟨List.not_mem_nil, List.nodup_nil⟩, fun a ha b hb z => e.2 ((List.mem_singleton.mp hb) ▸ z ▸ ha)⟩
theorem vrs2 {a b : AV} {vs : List Value} (r : VRs μ h [a, b] vs) {m : List Value → Prop} (k : ∀ v u, VR μ h a v → VR μ h b u → m [v, u]) : m vs := by
  cases r with | cons r1 r => cases r with | cons r2 r => cases r; exact k _ _ r1 r2
theorem pair_at {x : AV} {v : Value} {kv : PyData × AV} (r : VR μ h x v) (e : pairOf x = some kv) (hs : isStrD kv.1 = true) {G : Prop} (g : ∀ k val, kv.1 = .str k → PairAt h v (k, val) → VR μ h kv.2 val → G) : G :=
  ob_k e fun l e1 e => ob_k e fun p e2 e => om_k e fun k e3 e4 => r.tup_m (two2_k e2 ▸ e1) (m := fun v => (∀ k val, kv.1 = .str k → PairAt h v (k, val) → VR μ h kv.2 val → G) → G) (fun t vs ht rv g => by
    rw [← e4] at hs g
    refine vrs2 (m := fun l => vs.toList = l → G) rv (fun v u r1 r2 ev => ht.elim fun o z => z.2.2.elim fun n hd => ?_) rfl
    rw [vD_k e3] at r1
    refine isStrD_k hs (m := fun k => VR μ h (.py k) v → (∀ k' val, k = .str k' → PairAt h (.ref t) (k', val) → VR μ h p.2 val → G) → G) (fun y r1 g => (r1.str_m (n := y) rfl (m := fun v => vs.toList = [v, u] → G) fun tk ev => g y u rfl ⟨t, o, tk, n, rfl, z.1, z.2.1, hd.trans (congrArg (fun a => Data.seq a n) (congrArg List.toArray ev : vs.toList.toArray = _))⟩ r2) ev) r1 g) g
theorem pairs_of {xs : List AV} {vs : List Value} (r : VRs μ h xs vs) : ∀ {acc es : List (PyData × AV)}, dictOfPairs xs acc = some es →
    ∃ ps, PairsAt h vs ps ∧ ps.length = xs.length ∧ ∀ kvs, KV PyData.str μ h acc kvs → (kvs.map (·.1)).Nodup → KV PyData.str μ h es (putAll kvs ps) :=
  r.ind (P := fun xs vs => ∀ {acc es : List (PyData × AV)}, dictOfPairs xs acc = some es → ∃ ps, PairsAt h vs ps ∧ ps.length = xs.length ∧ ∀ kvs, KV PyData.str μ h acc kvs → (kvs.map (·.1)).Nodup → KV PyData.str μ h es (putAll kvs ps))
    (fun e => ⟨[], rfl, rfl, fun _ hk _ => Option.some.inj e ▸ hk⟩) fun a v as vs r _ ih acc es e => ob_k e fun kv ek e => gB_k e fun hs e => pair_at r ek hs fun k val e1 hp ra => (ih e).elim fun ps z =>
      ⟨(k, val) :: ps, ⟨v, vs, rfl, hp, z.1⟩, congrArg (· + 1) z.2.1, fun kvs hk hn => z.2.2 _ (e1 ▸ hk.put sEnc k ra hn) (stored_nodup hn)⟩
theorem dict_pairs_call (fz : FzOk w cls B F) (S : SR w cls B μ H s.heap) (hsys : ∃ o, B sysModules = some o) {d0 u0 : Nat} (hA : AOk A d0 u0) {x : AV} {v : Value} {xs : List AV} {es : List (PyData × AV)} (r : VR μ s.heap x v) (e : getO F H x = some (.list xs)) (he : dictOfPairs xs [] = some es) (hz : Nat.ble xs.length room = true)
    (kq : K (.ref H.length) (H ++ [.dict es])) (q : Ret w cls B μ s K R) : WP prog w A (call (.type "dict") [v]) R s := by
  refine olist_m fz S r e (m := fun v => WP prog w A (call (.type "dict") [v]) R s) fun l vals n hl rv => (pairs_of rv he).elim fun ps z => ?_
  refine callType_codes (Q₁ := fun obj s₁ => obj = .ref s.heap.objs.size ∧ s₁ = { s with heap := s.heap.push { cls := .type "dict", data := .dict #[] } }) PySem.F.kt_called_dict (PySem.F.kt_typeCall_dict_1 _) PySem.F.entry_dict_init (kt_code_dict_new _ ⟨rfl, rfl⟩) fun obj s₁ hs => ?_
  rw [hs.1, hs.2]
  have hnew : (s.heap.push { cls := .type "dict", data := .dict #[] }).DictOf (strKind prog w) s.heap.objs.size [] := Heap.DictOf.new s.heap
  have hl1 : IsL (s.heap.push { cls := .type "dict", data := .dict #[] }) l vals n := Heap.get?_push_of_some _ hl
  refine ⟨hnew.typeIs, PySem.F.args_dict_init_2 _ _, ?_⟩
  unfold Builtin.«dict.__init__»
  refine wpAny_bind ?_
  unfold Builtin.Dict.selfAndRest
  refine wpAny_bind (wpAny_notOrdered_dict hnew.typeIs (wpAny_pure (a := (s.heap.objs.size, [Value.ref l])) ?_))
  show wpAny _ _ (Builtin.Dict.updateFrom "dict.__init__" s.heap.objs.size (.ref l) [] .none) _ _ _
  unfold Builtin.Dict.updateFrom
  refine wpAny_bind (wpAny_typeOf (T := "list") ⟨_, hl1, rfl⟩ ?_)
  rw [if_pos (by decide)]
  refine wpAny_bind (attr_miss_list (xs := vals) (k := n) hl1 hA.handled fun h2 tk k2 => ?_)
  rw [if_pos (show (none : Option Value).isNone = true from rfl)]
  refine wpAny_bind (wpAny_rule (wpAny_bind (wpAny_pyIter_list (IsL.isList (k2 _ _ hl1)) (wpAny_pure ⟨plainId_quiet plain_upd_loop _, ?_⟩))))
  have hlt : s.heap.objs.size < h2.objs.size := Heap.lt_size (k2 _ _ (Heap.get?_push_size _ rfl))
  have hll : l < s.heap.objs.size := Heap.lt_size hl
  have k3 : ∀ b o, (s.heap.push { cls := .type "dict", data := .dict #[] }).get? b = some o → (h2.push { cls := .type "list_iterator", data := .fields #[.ref l, .int 0 0] }).get? b = some o := fun b o e => Heap.get?_push_of_some _ (k2 _ _ e)
  have kk : ∀ b o, s.heap.get? b = some o → (h2.push { cls := .type "list_iterator", data := .fields #[.ref l, .int 0 0] }).get? b = some o := fun b o e => k3 _ _ (Heap.get?_push_of_some _ e)
  refine upd_loop (d := s.heap.objs.size) (it := h2.objs.size) (l := l) (items := vals) (A := A.in1) hA.handled (Nat.ne_of_lt hlt) (Nat.ne_of_lt (Nat.lt_trans hll hlt)) (Nat.ne_of_lt hll) ps 0 _ [] ⟨_, Heap.get?_push_size _ rfl, rfl, rfl⟩ (IsL.isList (kk _ _ hl))
    (hnew.imp fun o y => y.imp fun es y => y.imp fun ep y => ⟨k3 _ _ y.1, y.2⟩) (z.1.tk fun a o vs n e _ _ => kk a o e) (by rw [z.2.1]; exact Nat.le_trans (Nat.le_of_eq (Nat.zero_add _)) (Nat.le_of_ble_eq_true hz)) fun h' tk' hd' hk' => ⟨rfl, ?_⟩
  have keep : ∀ b o, s.heap.get? b = some o → h'.get? b = some o := fun b o e => hk' b o (Nat.ne_of_lt (Heap.lt_size e)) (Nat.ne_of_lt (Nat.lt_trans (Heap.lt_size e) hlt)) (kk _ _ e)
  exact q.freshD S (size_none _) hsys keep (of_str ((z.2.2 [] .nil List.nodup_nil).mono (μ' := μ) (h' := h') (fun _ _ e => e) (fun b o _ _ e _ _ => keep b o e)) hd') kq
theorem none_grow (k : ∀ b o, h.get? b = some o → h'.get? b = some o) : h.get? h'.objs.size = none := by
  cases e : h.get? h'.objs.size with
  | none => rfl
  | some o => exact nos ((size_none h').symm.trans (k _ _ e))
theorem sorted_nil_call (fz : FzOk w cls B F) (S : SR w cls B μ H s.heap) {d0 u0 : Nat} (hA : AOk A d0 u0) {x : AV} {v : Value} (r : VR μ s.heap x v) (e : getO F H x = some (.dict []))
    (kq : K (.ref H.length) (H ++ [.list []])) (q : Ret w cls B μ s K R) : WP prog w A (call (.builtin "sorted") [v]) R s := by
  refine odict_m fz S r e (m := fun v => WP prog w A (call (.builtin "sorted") [v]) R s) fun l dr n hsm hn ho hd => str_of (prog := prog) ho hd rfl hn fun kvs h1 h2 _ => ?_
  rw [List.length_eq_zero_iff.mp h1.length] at h2
  obtain ⟨ep, h3⟩ := h2.dictAt
  refine Calls.call_function_entry kind_sorted plain_sorted entry_sorted (args_sorted1 _) ?_
  unfold Builtin.«sorted»
  refine wpAny_bind (m := checkCount "sorted" 1 1 _) (wpAny_pure (wpAny_bind (kdu_collect (kdl_dict hsm) hA.handled h3 (Nat.zero_le _) fun h' tk acc hk hacc => ?_)))
  rw [Array.eq_empty_of_size_eq_zero hacc.1]
  refine wpAny_bind (wpAny_newList ?_ (Nat.zero_le _))
  have hoL : (h'.push (seqObj "list" ([] : List Value).toArray 0)).get? h'.objs.size = some (seqObj "list" ([] : List Value).toArray 0) := Heap.get?_push_size _ rfl
  have k0 : KeysOf PyProof.Rows.strKind (pairsOf []) := fun i hi => by have := Array.size_pos_of_mem (Array.mem_toList_iff.mp hi); rw [pairsOf_size] at this; exact absurd this (Nat.lt_irrefl _)
  refine wpAny_bind (wpAny_holding (wpAny_call_entry slot_list_sort ⟨_, hoL, rfl⟩ entry_list_sort
    (list_sort_treeK (s := { s with heap := h'.push (seqObj "list" ([] : List Value).toArray 0), toks := tk }) strKind_oneLt hoL k0 (fun _ _ _ e => nomatch e) (by decide) fun st' a1 a2 => ⟨_, rfl, ?_⟩) (args_list_sort _)))
  rw [show arrOf st' = #[] from Array.eq_empty_of_size_eq_zero (a1.size_eq.trans (pairsOf_size _)), show (#[] : Array Keyed).map (·.2) = #[] from Array.map_empty]
  obtain ⟨c, hc⟩ := sortedHeap_at (out := (#[] : Array Value)) hoL
  refine wpAny_pure ⟨_, rfl, q.fresh S (as := []) (vs := #[]) .nil (none_grow hk) (fun b o e => ?_) hc kq⟩
  have hb := Heap.lt_size (hk b o e)
  rw [sortedHeap_old (Nat.ne_of_lt hb) (by rw [size_push']; exact Nat.lt_succ_of_lt hb)]
  exact Heap.get?_push_of_some _ (hk b o e)
end
section
variable {prog : Program} {w : World} {cls : Cls} {B B0 : Base} {μ μ' μ'' : Mu} {H H' : AH} {s s' s'' : Shared} {h h' : Heap} {A : Around} {F : Frz} {K : Frag} {N : Nam} {Γ : Gam} {n : Nat} {env : Env} {nm : List PySem.Str} {vs : Vars} {R : Value → Shared → Prop} {K' : K1}

theorem len_all (S : SR w cls B μ H s.heap) {x : AV} {v : Value} {m : Nat} (r : VR μ s.heap x v) (em : lenA x H = some m) (hz : Nat.ble m room = true) (kq : K' (.i m) H) (q : Ret w cls B μ s K' R) : WP prog w A (call (.builtin "len") [v]) R s := by
  induction x using AV.casesOn with
  | py d => exact om_k em fun ds e1 e2 => len_seq S r (xs := ds.map AV.py) (congrArg (Option.map (List.map AV.py)) e1) ((List.length_map _).trans e2) hz kq q
  | ref j =>
    refine ob_k em fun o eo em => ?_
    induction o using AO.casesOn with
    | list xs => rw [← Option.some.inj em] at kq hz; exact len_list S r rfl (hL_of eo) hz kq q
    | dict es => exact gB_k em fun hs em => dict_m S r rfl eo (m := fun v => WP prog w A (call (.builtin "len") [v]) R s) fun l dr n _ hsm hn ho hd => str_of (prog := prog) ho hd hs hn fun kvs h1 h2 _ =>
        call_len_dict hsm h2 (len_b (h1.length.trans (Option.some.inj em)) hz) (q.tok S kq (vr_len (h1.length.trans (Option.some.inj em))))
    | inst _ _ => exact nos em
  | mix xs => exact len_seq S r rfl (Option.some.inj em) hz kq q
  | fro _ => exact nos em
theorem dict_call (fz : FzOk w cls B F) (S : SR w cls B μ H s.heap) (hsys : ∃ o, B sysModules = some o) {x : AV} {v : Value} {es : List (PyData × AV)} (r : VR μ s.heap x v) (e : getO F H x = some (.dict es)) (hs : es.all (fun e => isStrD e.1) = true) (hz : Nat.ble es.length room = true)
    (kq : K' (.ref H.length) (H ++ [.dict es])) (q : Ret w cls B μ s K' R) : WP prog w A (call (.type "dict") [v]) R s :=
  odict_m fz S r e (m := fun v => WP prog w A (call (.type "dict") [v]) R s) fun l dr n hsm hn ho hd => str_of (prog := prog) ho hd hs hn fun kvs h1 h2 _ =>
    kt_call_dict hsm h2 (h1.length ▸ rooml hz) fun h' hd' hs' =>
      have k : ∀ b o, s.heap.get? b = some o → h'.get? b = some o := fun b o e => (hs'.2 b fun z => Nat.lt_irrefl _ (z ▸ Heap.lt_size e)).trans (Heap.get?_push_of_some _ e)
      q.freshD S (size_none _) hsys k (of_str (h1.mono (μ' := μ) (h' := h') (fun _ _ e => e) (fun b o _ _ e _ _ => k b o e)) hd') kq

theorem vrs1 {a : AV} {vs : List Value} (r : VRs μ h [a] vs) {m : List Value → Prop} (k : ∀ v, VR μ h a v → m [v]) : m vs := by
  cases r with | cons r1 r => cases r; exact k _ r1
theorem vrs0 {vs : List Value} (r : VRs μ h [] vs) {m : List Value → Prop} (k : m []) : m vs := by cases r; exact k
theorem callB_sound (T : Tx prog w N cls B0 K Γ n) (hB : BLe B0 B) (S : SR w cls B μ H s.heap) (hA : AOk A (2 * n + 1) (100 * n + 75)) (hA0 : AOk A 0 (0 + 70)) {b : BN} {as : List AV} {vals : List Value} {r : AV × AH} (rv : VRs μ s.heap as vals) (e : callBA Γ.frz b as H = some r)
    (kq : K' r.1 r.2) (q : Ret w cls B μ s K' R) : WP prog w A (call (bnV b) vals) R s := by
  have one : ∀ {x : AV}, one1 as = some x → (∀ v, VR μ s.heap x v → WP prog w A (call (bnV b) [v]) R s) → WP prog w A (call (bnV b) vals) R s := fun h k => vrs1 (one1_k h ▸ rv) (m := fun vals => WP prog w A (call (bnV b) vals) R s) k
  revert e one
  induction b using BN.casesOn with
  | list => exact fun e one => ob_k e fun x ex e => ob_k e fun xs exs e => gB_k e fun hz e => one ex fun v r1 => list_call (T.fzb hB) S r1 exs hz (kr e kq) q
  | tuple => exact fun e one => ob_k e fun x ex e => ob_k e fun xs exs e => gB_k e fun hz e => one ex fun v r1 => tuple_call (T.fzb hB) S r1 exs hz (kr e kq) q
  | dict =>
    refine fun e one => ob_k e fun x ex e => ob_k e fun o eo e => one ex fun v r1 => ?_
    induction o using AO.casesOn with
    | list xs => exact gB_k e fun hz e => om_k e fun es ees e => dict_pairs_call (T.fzb hB) S (T.sysB hB) hA r1 eo ees hz (kr (congrArg some e) kq) q
    | dict es => exact gB_k e fun hz e => band_k hz fun z1 z2 => dict_call (T.fzb hB) S (T.sysB hB) r1 eo z1 z2 (kr e kq) q
    | inst _ _ => exact nos e
  | sorted =>
    refine fun e one => ob_k e fun x ex e => ob_k e fun o eo e => one ex fun v r1 => ?_
    induction o using AO.casesOn with
    | dict es => exact gB_k e fun hz e => sorted_nil_call (T.fzb hB) S hA r1 (none0_k hz ▸ eo) (kr e kq) q
    | list _ => exact nos e
    | inst _ _ => exact nos e
  | len => exact fun e one => ob_k e fun x ex e => ob_k e fun m em e => gB_k e fun hz e => one ex fun v r1 => len_all S r1 em hz (kr e kq) q
  | max => exact fun e _ => ob_k e fun p ep e => vrs2 (two2_k ep ▸ rv) (m := fun vals => WP prog w A (call (.builtin "max") vals) R s) fun v u r1 r2 => iop_m r1 r2 e (m := fun v u => WP prog w A (call (.builtin "max") [v, u]) R s) fun i j t t2 e => max_call S hA (kr e kq) q
  | abs => exact fun e one => ob_k e fun x ex e => ob_k e fun a ea e => one ex fun v r1 => abs_call S r1 ea (kr e kq) q
  | any => exact fun e one => ob_k e fun x ex e => ob_k e fun j ej e => ob_k e fun xs exs e => om_k e fun bs eb e => one ex fun v r1 => any_call S hA r1 ej exs eb (kr (congrArg some e) kq) q
  | repr => exact fun e one => ob_k e fun x ex e => ob_k e fun d ed e => gB_k e fun hz e => band_k hz fun hz1 hz2 => band_k hz1 fun z1 z2 => band_k hz2 fun z3 z4 => one ex fun v r1 => repr_call S hA0 (r1.dat ed) z1 z2 z3 z4 (kr e kq) q
theorem ev_callB (T : Tx prog w N cls B0 K Γ n) {b : BN} {es : CEs} (h1 : EvL prog w N cls B0 Γ n es) : EvS prog w N cls B0 Γ n (.callB b es) := @fun B nm env vs A μ H s Q R e z hb q k =>
  i_callB (m := fun e => WP prog w A (eval e env) R s) hb fun p l p2 hg hes => Call_Name rfl (T.bn_k z b hg (by
    have fin : RetL w cls B μ s (fun as H' => giveO (callBA Γ.frz b as H') Q) fun vals s1 => WP prog w A (call (bnV b) ([] ++ vals)) R s1 := fun vals s1 as μ1 H1 q1 S1 L1 r1 => oP_k q1 fun t et q1 => callB_sound T z.hB S1 z.hA z.ok0 r1 et (K' := Q) q1 (k.from L1)
    revert fin q
    induction b using BN.casesOn with
    | list => exact fun q fin => args_type h1 z hes q fin
    | tuple => exact fun q fin => args_type h1 z hes q fin
    | dict => exact fun q fin => args_type h1 z hes q fin
    | _ => exact fun q fin => args_builtin h1 z hes q fin))
theorem At.down (z : At w cls B0 n B nm env vs A μ H s) : AOk A (2 * n) (100 * n) := z.hA.le (Nat.le_succ _) (Nat.le_add_right _ _)
theorem ev_callF (T : Tx prog w N cls B0 K Γ n) {f : Nat} {es : CEs} (h1 : EvL prog w N cls B0 Γ n es) : EvS prog w N cls B0 Γ n (.callF f es) := @fun B nm env vs A μ H s Q R e z hb q k =>
  i_callF (m := fun e => WP prog w A (eval e env) R s) hb fun p l p2 hg hes => Call_Name rfl (T.fn_k z f hg fun a hk hok => args_K T h1 z hk hes q fun vals s1 as μ1 H1 q1 S1 L1 r1 => hok.call z.hB S1 z.down r1 q1 (k.from L1))
end
section
variable {prog : Program} {w : World} {cls : Cls} {B B0 : Base} {μ μ' μ'' : Mu} {H H' : AH} {s s' s'' : Shared} {h h' : Heap} {A : Around} {F : Frz} {K : Frag} {N : Nam} {Γ : Gam} {n : Nat} {env : Env} {nm : List PySem.Str} {vs : Vars} {R : Value → Shared → Prop} {K' : K1}

theorem under_creation {d u : Nat} {C : Addr} {rest : List Value} (h : AOk A (d + 1) (u + 1)) : AOk (A.under (.builtin "type.__call__" ⟨.ref C :: rest, []⟩)) d u where
  handled := h.handled
  guards := by
    have : (A.under (.builtin "type.__call__" ⟨.ref C :: rest, []⟩)).guards = A.guards := by
      unfold Around.under
      first | rfl | simp [Code.guards, Code.isGuard, guardIds]
    rw [this, h.guards]
  depth := Nat.lt_of_le_of_lt (Nat.le_of_eq (Nat.add_right_comm A.depth 1 d)) h.depth
  units := Nat.lt_of_le_of_lt (Nat.le_of_eq (Nat.add_right_comm A.units 1 u)) h.units
theorem SR.newInst (S : SR w cls B μ H s.heap) {c : Nat} {tk : Nat} :
    SR w cls B (μ ++ [(s.heap.objs.size + 1, s.heap.objs.size)]) (H ++ [.inst c []]) ((s.heap.push emptyDict).push (instObj (cls c) s.heap.objs.size)) ∧
    Le μ s (μ ++ [(s.heap.objs.size + 1, s.heap.objs.size)]) { s with heap := (s.heap.push emptyDict).push (instObj (cls c) s.heap.objs.size), toks := tk } ∧
    VR (μ ++ [(s.heap.objs.size + 1, s.heap.objs.size)]) ((s.heap.push emptyDict).push (instObj (cls c) s.heap.objs.size)) (.ref H.length) (.ref (s.heap.objs.size + 1)) :=
  have o1 : ((s.heap.push emptyDict).push (instObj (cls c) s.heap.objs.size)).get? (s.heap.objs.size + 1) = some (instObj (cls c) s.heap.objs.size) := by
    have := Heap.get?_push_size (s.heap.push emptyDict) (o := instObj (cls c) s.heap.objs.size) rfl
    rwa [Heap.size_push] at this
  have x := S.more (p := (s.heap.objs.size + 1, s.heap.objs.size)) (o' := .inst c []) (tk := tk) (fun a o e => Heap.get?_push_of_some _ (Heap.get?_push_of_some _ e)) (Heap.get?_none_of_le (Nat.le_succ _)) (size_none _)
    ⟨[], 0, o1, Heap.get?_push_of_some _ (Heap.get?_push_size _ rfl), .nil⟩
  ⟨x.1, x.2, .ref (p := (s.heap.objs.size + 1, s.heap.objs.size)) (by rw [← S.len]; exact List.getElem?_concat_length)⟩
theorem methOk_k {C f : Addr} {x : PySem.Str} (h : methOkB K C x f = true) : findIn K (.ref C) x = some (some (.ref f)) ∧ isFn K (.ref f) = true ∧ keepIn K (.ref f) = true := band_k h fun h1 h2 => band_k h2 fun h2 h3 => ⟨beq_iff_eq.mp h1, h2, h3⟩

theorem ev_callC (T : Tx prog w N cls B0 K Γ n) {c : Nat} {es : CEs} (h1 : EvL prog w N cls B0 Γ n es) : EvS prog w N cls B0 Γ n (.callC c es) := @fun B nm env vs A μ H s Q R e z hb q k =>
  i_callC (m := fun e => WP prog w A (eval e env) R s) hb fun p l p2 hg hes => Call_Name rfl (T.cls_k z c hg fun hk => args_K T h1 z hk hes q fun vals s1 as μ1 H1 q1 S1 L1 r1 => bP_k q1 fun hm q1 => (T.me _ _ hm).elim fun f y => by
    have m := methOk_k y.mo
    have X := T.kin S1 z.hB
    have x := S1.newInst (c := c) (tk := s1.toks)
    refine wpAny_call ?_
    obtain ⟨hp, g, d, tk, os⟩ := s1
    refine make_core (makes_of X (y.init rfl)) (looks_findIn X m.1) (fun self => bind_fn X self (beq_iff_eq.mp m.2.1)) (.inl rfl) ?_
    refine codeAny_mono (y.ok B z.hB _ _ _ _ (.ref H1.length :: as) _ _ x.1 (under_creation (z.hA.le (Nat.le_refl _) (Nat.add_le_add_left (by decide) _))) (.cons x.2.2 (r1.mono x.2.1.mu (x.2.1.tk S1))) q1) fun r s3 y => ?_
    rcases r with e | (v | _ | _ | _) <;> first | exact y.elim | skip
    exact y.casesOn fun a μ3 H3 q3 S3 L3 r3 => bP_k q3 fun e q3 => r3.none_m e (m := fun v => v = .none ∧ R _ s3) ⟨rfl, k _ _ _ _ _ q3 S3 ((L1.trans x.2.1).trans L3) (x.2.2.mono L3.mu (L3.tk x.1))⟩)

theorem Call_meth {o : PySem.Expr} {name : PySem.Str} {apos pos : Pos} {args : List PySem.Expr} {Q : Value → Shared → Prop} (hsup : notSuper o = true) (hline : (apos.endLine == pos.line) = true) (hlen : args.length ≤ 20)
    (hstar : (backTo pos (starEach args env)).any (·.1) = false)
    (hh : WP prog w A (eval o env) (fun ov s₁ => ∀ pl : Sem Bool, WP prog w A (getMethod ov name pl) (fun fx s₂ => WP prog w A (callWith pos fx.1 fx.2 (backTo pos (starEach args env)) []) Q s₂) s₁) s) :
    WP prog w A (eval (.Call (.Attribute o name apos) args [] pos) env) Q s := by
  show wpAny _ _ _ _ _ _
  rw [arm_eval_Call, base_whole hsup]
  have hform : methodCallForm (args.length + ([] : List Keyword).length) (backTo pos (starEach args env)) (backToKw pos (keywordEach [] env)) = true := by
    have e1 : (backTo pos (starEach args env)).all (fun x => !x.1) = true := List.all_eq_true.mpr fun x hx => Bool.not_eq_true' _ ▸ Bool.not_eq_true _ ▸ List.any_eq_false.mp hstar x hx
    unfold methodCallForm
    rw [e1, show backToKw pos (keywordEach [] env) = [] from rfl]
    simp; omega
  have hpos : methodCallPos true o env apos pos = pure pos := by unfold methodCallPos; rw [hline]; rfl
  refine wpAny_bind (wpAny_mono hh (fun ov s₁ h₁ => wpAny_bind (wpAny_standAt ?_)) fun _ _ e => e)
  unfold methodCall
  rw [hform]
  exact wpAny_bind (wpAny_holding (wpAny_mono (h₁ _) (fun fx s2 h2 => wpAny_bind (wpAny_of_eq hpos h2)) fun _ _ e => e))
end
section
variable {prog : Program} {w : World} {cls : Cls} {B B0 : Base} {μ μ' μ'' : Mu} {H H' : AH} {s s' s'' : Shared} {h h' : Heap} {A : Around} {F : Frz} {K : Frag} {N : Nam} {Γ : Gam} {n : Nat} {env : Env} {nm : List PySem.Str} {vs : Vars} {R : Value → Shared → Prop} {K' : K1}

theorem listM_k {x : PySem.Str} {k : MKd} (e : listM x = some k) {G : PySem.Str → MKd → Prop} (g1 : G "append" .append) (g2 : G "pop" .pop) (g3 : G "extend" .extend) : G x k := by
  unfold listM at e
  cases h1 : x == "append" with
  | true => rw [h1] at e; rw [beq_iff_eq.mp h1]; exact Option.some.inj e ▸ g1
  | false =>
    rw [h1] at e
    cases h2 : x == "pop" with
    | true => rw [h2] at e; rw [beq_iff_eq.mp h2]; exact Option.some.inj e ▸ g2
    | false =>
      rw [h2] at e
      cases h3 : x == "extend" with
      | true => rw [h3] at e; rw [beq_iff_eq.mp h3]; exact Option.some.inj e ▸ g3
      | false => rw [h3] at e; exact nos e
theorem user_meth (T : Tx prog w N cls B0 K Γ n) {es : CEs} (h1 : EvL prog w N cls B0 Γ n es) (z : At w cls B0 n B nm env vs A μ H s) {l : List PySem.Expr} (hes : bEs N nm env.scope es l = true) {a : AV} {v : Value} {x : PySem.Str} (r1 : VR μ s.heap a v) {p : Nat × List (PySem.Str × AV)} (eo : getO Γ.frz H a = some (.inst p.1 p.2)) {m : MKd}
    (em : instM Γ x p = some m) {Q : K1} (q : eEs Γ es vs H fun as H2 => callMk Γ.frz m a as H2 Q) (k : Ret w cls B μ s Q R) {pl : Sem Bool} {pos : Pos} :
    WP prog w A (getMethod v x pl) (fun fx s₂ => WP prog w A (callWith pos fx.1 fx.2 (backTo pos (starEach l env)) []) R s₂) s :=
  gB_k em fun hm em => band_k hm fun hm hl => (T.me _ _ hm).elim fun f y => by
    rw [← Option.some.inj em] at q
    exact getmeth_sound (T.fzb z.hB) z.S (T.kin z.S z.hB) r1 eo y.co y.mo (Option.isNone_iff_eq_none.mp hl) (args_K T h1 z (methOk_k y.mo).2.2 hes q fun vals s2 as μ2 H2 q2 S2 L2 r2 => y.ok.call z.hB S2 z.down (.cons (r1.le z.S L2) r2) q2 (k.from L2))
theorem built_meth {es : CEs} (h1 : EvL prog w N cls B0 Γ n es) (z : At w cls B0 n B nm env vs A μ H s) {l : List PySem.Expr} (hes : bEs N nm env.scope es l = true) {a : AV} {v : Value} {x : PySem.Str} (r1 : VR μ s.heap a v) {Q : K1} {f : List AV → AH → Option (AV × AH)}
    (q : eEs Γ es vs H fun as H2 => giveO (f as H2) Q) (k : Ret w cls B μ s Q R) {pl : Sem Bool} {pos : Pos} {id : String} (hg : ∀ Q : Value × List Value → Shared → Prop, Q (.builtin id, [v]) s → WP prog w A (getMethod v x pl) Q s)
    (kk : ∀ {vals : List Value} {s2 : Shared} {as : List AV} {μ2 : Mu} {H2 : AH} {t : AV × AH}, f as H2 = some t → Q t.1 t.2 → SR w cls B μ2 H2 s2.heap → VR μ2 s2.heap a v → VRs μ2 s2.heap as vals → Ret w cls B μ2 s2 Q R → WP prog w A (call (.builtin id) (v :: vals)) R s2) :
    WP prog w A (getMethod v x pl) (fun fx s₂ => WP prog w A (callWith pos fx.1 fx.2 (backTo pos (starEach l env)) []) R s₂) s :=
  hg _ (args_builtin h1 z (first := [v]) hes q fun vals s2 as μ2 H2 q2 S2 L2 r2 => oP_k q2 fun t et q2 => kk et q2 S2 (r1.le z.S L2) r2 (k.from L2))
theorem ev_callM (T : Tx prog w N cls B0 K Γ n) {o : CE} {x : PySem.Str} {es : CEs} (h0 : EvS prog w N cls B0 Γ n o) (h1 : EvL prog w N cls B0 Γ n es) : EvS prog w N cls B0 Γ n (.callM o x es) := @fun B nm env vs A μ H s Q R e z hb q k =>
  i_callM (m := fun e => WP prog w A (eval e env) R s) hb fun v ap l p hsu hline hlen hv hes => Call_meth hsu hline (Nat.le_of_ble_eq_true hlen) (star_any _ hes) (h0 z hv q fun v s1 a μ1 H1 q1 S1 L1 r1 pl => oP_k q1 fun m em q1 => by
    have z1 := z.next S1 L1
    have k1 := k.from L1
    clear q k hv hsu hline hlen hb
    induction a using AV.casesOn with
    | py d =>
      refine ob_k em fun sep es em => gB_k em fun hx em => ?_
      rw [← Option.some.inj em] at q1
      rw [beq_iff_eq.mp hx]
      have ho : vStr (.py d) = some sep := es
      refine built_meth h1 z1 hes r1 (f := joinA (.py d)) q1 k1 (id := "str.join") (fun Q q => r1.str_m ho (m := fun v => Q (.builtin "str.join", [v]) s1 → WP prog w A (getMethod v "join" pl) Q s1) (fun t q => WP.mono (PySem.GM.join (Q := fun fx s₂ => fx = (.builtin "str.join", [.str sep t]) ∧ s₂ = s1) ⟨rfl, rfl⟩) fun fx s2 y => by rw [y.1, y.2]; exact q) q) ?_
      exact fun et q2 S2 r1 r2 k2 => ob_k et fun sep esep et => ob_k et fun y ey et => ob_k et fun j ej et => ob_k et fun xs exs et => ob_k et fun ts ets et => gB_k et fun hok et =>
        vrs1 (one1_k ey ▸ r2) (m := fun vals => WP prog w A (call (.builtin "str.join") (v :: vals)) R _) fun v2 r2 => join_call S2 r1 esep r2 ej exs ets (of_decide_eq_true hok) (kr et q2) k2
    | ref j =>
      refine ob_k em fun ob eo em => ?_
      induction ob using AO.casesOn with
      | inst c fs => exact user_meth T h1 z1 hes r1 (p := (c, fs)) eo em q1 k1
      | list xs =>
        refine listM_k em (G := fun x m => (eEs Γ es vs H1 fun as H2 => callMk Γ.frz m (.ref j) as H2 Q) → WP prog w A (getMethod v x pl) (fun fx s₂ => WP prog w A (callWith p fx.1 fx.2 (backTo p (starEach l env)) []) R s₂) s1) ?_ ?_ ?_ q1
        · exact fun q1 => built_meth h1 z1 hes r1 (f := appA (.ref j)) q1 k1 (fun Q q => getmeth_list S1 r1 rfl (hL_of eo) PySem.F.slot_list_append PySem.F.type_list_append q) fun et q2 S2 r1 r2 k2 => ob_k et fun j ej et => ob_k et fun y ey et => ob_k et fun xs exs et => gB_k et fun hz et =>
            vrs1 (one1_k ey ▸ r2) (m := fun vals => WP prog w A (call (.builtin "list.append") (v :: vals)) R _) fun v2 r2 => append_call S2 r1 ej exs r2 hz (kr et q2) k2
        · exact fun q1 => built_meth h1 z1 hes r1 (f := popA (.ref j)) q1 k1 (fun Q q => getmeth_list S1 r1 rfl (hL_of eo) PySem.F.slot_list_pop PySem.F.type_list_pop q) fun et q2 S2 r1 r2 k2 => ob_k et fun j ej et => gB_k et fun hn et => ob_k et fun xs exs et => gB_k et fun hz et => om_k et fun y ey et =>
            vrs0 (none0_k hn ▸ r2) (m := fun vals => WP prog w A (call (.builtin "list.pop") (v :: vals)) R _) (pop_call S2 r1 ej exs ey hz (kr (congrArg some et) q2) k2)
        · exact fun q1 => built_meth h1 z1 hes r1 (f := extA Γ.frz (.ref j)) q1 k1 (fun Q q => getmeth_list S1 r1 rfl (hL_of eo) PySem.F.slot_list_extend PySem.F.type_list_extend q) fun et q2 S2 r1 r2 k2 => ob_k et fun j ej et => ob_k et fun y ey et => ob_k et fun xs exs et => ob_k et fun ys eys et => gB_k et fun hz et => band_k hz fun hz _ =>
            vrs1 (one1_k ey ▸ r2) (m := fun vals => WP prog w A (call (.builtin "list.extend") (v :: vals)) R _) fun v2 r2 => extend_call (T.fzb z.hB) S2 r1 ej exs r2 eys hz (kr et q2) k2
      | dict _ => exact nos em
    | mix _ => exact nos em
    | fro p => exact ob_k em fun ob eo em => ob_k em fun p e2 em => user_meth T h1 z1 hes r1 (p := p) (eo.trans (congrArg some (oI_k e2))) em q1 k1)
end
section
variable {prog : Program} {w : World} {cls : Cls} {B B0 : Base} {μ μ' μ'' : Mu} {H H' : AH} {s s' s'' : Shared} {h h' : Heap} {A : Around} {F : Frz} {K : Frag} {N : Nam} {Γ : Gam} {n : Nat} {env : Env} {nm : List PySem.Str} {vs vs' : Vars}

structure RetX (w : World) (cls : Cls) (B : Base) (env : Env) (nm : List PySem.Str) (μ : Mu) (s : Shared) (Q : K2) (R : Flow → Shared → Prop) : Prop where
  nx : ∀ vs' μ' H' s', Q .next vs' H' → SR w cls B μ' H' s'.heap → FR B env nm vs' μ' s'.heap → LeX (Own env) μ s μ' s' → R .next s'
  rt : ∀ a v vs' μ' H' s', Q (.ret a) vs' H' → SR w cls B μ' H' s'.heap → FR B env nm vs' μ' s'.heap → LeX (Own env) μ s μ' s' → VR μ' s'.heap a v → R (.ret v) s'
theorem RetX.from {Q : K2} {R : Flow → Shared → Prop} (k : RetX w cls B env nm μ s Q R) (L : LeX (Own env) μ s μ' s') : RetX w cls B env nm μ' s' Q R :=
  ⟨fun vs2 μ2 H2 s2 q S F L2 => k.nx vs2 μ2 H2 s2 q S F (L.trans L2), fun a v vs2 μ2 H2 s2 q S F L2 r => k.rt a v vs2 μ2 H2 s2 q S F (L.trans L2) r⟩
section
variable (prog : Program) (w : World) (N : Nam) (cls : Cls) (B0 : Base) (Γ : Gam) (n : Nat)
noncomputable abbrev ExS (c : CS) : Prop := ∀ {B : Base} {nm : List PySem.Str} {env : Env} {vs : Vars} {A : Around} {μ : Mu} {H : AH} {s : Shared} {Q : K2} {R : Flow → Shared → Prop} {st : Stmt}, At w cls B0 n B nm env vs A μ H s → bS N nm env.scope c st = true →
  eS Γ c vs H Q → RetX w cls B env nm μ s Q R → WP prog w A (exec st env) R s
noncomputable abbrev ExL (cs : CSs) : Prop := ∀ {B : Base} {nm : List PySem.Str} {env : Env} {vs : Vars} {A : Around} {μ : Mu} {H : AH} {s : Shared} {Q : K2} {R : Flow → Shared → Prop} {l : List Stmt}, At w cls B0 n B nm env vs A μ H s → bSs N nm env.scope cs l = true →
  eSs Γ cs vs H Q → RetX w cls B env nm μ s Q R → WP prog w A (execs l env) R s
end
theorem At.nextX (z : At w cls B0 n B nm env vs A μ H s) (S : SR w cls B μ' H' s'.heap) (Fr : FR B env nm vs' μ' s'.heap) : At w cls B0 n B nm env vs' A μ' H' s' := ⟨z.hB, z.nd, S, Fr, z.hA⟩
theorem At.lex (z : At w cls B0 n B nm env vs A μ H s) (L : Le μ s μ' s') : LeX (Own env) μ s μ' s' := LeX.of L z.S
theorem ex_nil : ExL prog w N cls B0 Γ n .nil := @fun B nm env vs A μ H s Q R l z hb q k =>
  i_ssnil (m := fun l => WP prog w A (execs l env) R s) hb (wpAny_execs_nil (k.nx _ _ _ _ q z.S z.Fr LeX.refl))
theorem ex_cons {c : CS} {cs : CSs} (h1 : ExS prog w N cls B0 Γ n c) (h2 : ExL prog w N cls B0 Γ n cs) : ExL prog w N cls B0 Γ n (.cons c cs) := @fun B nm env vs A μ H s Q R l z hb q k =>
  i_sscons (m := fun l => WP prog w A (execs l env) R s) hb fun st l hs hl => wpAny_execs_cons (h1 z hs q ⟨fun vs1 μ1 H1 s1 q1 S1 F1 L1 => h2 (z.nextX S1 F1) hl q1 (k.from L1), fun a v vs1 μ1 H1 s1 q1 S1 F1 L1 r1 => k.rt _ _ _ _ _ _ q1 S1 F1 L1 r1⟩)
theorem ex_ret {c : CE} (h1 : EvS prog w N cls B0 Γ n c) : ExS prog w N cls B0 Γ n (.ret c) := @fun B nm env vs A μ H s Q R st z hb q k =>
  i_ret (m := fun st => WP prog w A (exec st env) R s) hb fun e p hb => wpAny_Return_some (h1 z hb q fun v s1 a μ1 H1 q1 S1 L1 r1 => k.rt _ _ _ _ _ _ q1 S1 (z.Fr.le z.S L1) (z.lex L1) r1)
theorem swaps_no {e : PySem.Expr} (h : noComp e = true) (t : Option PySem.Expr) (l : Nat) (env : Env) : swapsWith e t l env = pure false := by
  revert h
  induction e using PySem.Expr.casesOn with
  | ListComp => exact bf
  | SetComp => exact bf
  | DictComp => exact bf
  | _ => exact fun _ => rfl
theorem not_inter (h : env.scope.kind = .function) : interactive env = false := by unfold interactive; rw [h]; rfl
theorem ex_expr {c : CE} (h1 : EvS prog w N cls B0 Γ n c) : ExS prog w N cls B0 Γ n (.expr c) := @fun B nm env vs A μ H s Q R st z hb q k =>
  i_expr (m := fun st => WP prog w A (exec st env) R s) hb fun e p hb hc => wpAny_Expr (h1 z hb q fun v s1 a μ1 H1 q1 S1 L1 r1 => bP_k q1 fun hn q1 => by
    rw [r1.none_m hn (m := fun v => v = .none) rfl]; exact k.nx _ _ _ _ q1 S1 (z.Fr.le z.S L1) (z.lex L1)) (not_inter z.Fr.kind) (swaps_no hc _ _ _)
theorem ex_if {c : CE} {a b : CSs} (h0 : EvT prog w N cls B0 Γ n c) (h1 : ExL prog w N cls B0 Γ n a) (h2 : ExL prog w N cls B0 Γ n b) : ExS prog w N cls B0 Γ n (.ifS c a b) := @fun B nm env vs A μ H s Q R st z hb q k =>
  i_if (m := fun st => WP prog w A (exec st env) R s) hb fun t x y p hc hl hr => wpAny_If (h0 z hc q fun t s1 μ1 H1 q1 S1 L1 => by
    cases t with
    | true => exact h1 (z.next S1 L1) hl q1 (k.from (z.lex L1))
    | false => exact h2 (z.next S1 L1) hr q1 (k.from (z.lex L1)))
inductive WhI (w : World) (cls : Cls) (B : Base) (env : Env) (nm : List PySem.Str) (μ : Mu) (s : Shared) (P : Nat → Vars → AH → Prop) (m : Nat) (s' : Shared) : Prop
  | mk (vs' : Vars) (μ' : Mu) (H' : AH) (q : P m vs' H') (S : SR w cls B μ' H' s'.heap) (Fr : FR B env nm vs' μ' s'.heap) (L : LeX (Own env) μ s μ' s')
theorem At.mark (z : At w cls B0 n B nm env vs A μ H s) : At w cls B0 n B nm env vs (A.mark none) μ H s := ⟨z.hB, z.nd, z.S, z.Fr, z.hA⟩
theorem ex_while {m : Nat} {c : CE} {b : CSs} (h0 : EvT prog w N cls B0 Γ n c) (h1 : ExL prog w N cls B0 Γ n b) : ExS prog w N cls B0 Γ n (.whileS m c b) := @fun B nm env vs A μ H s Q R st z hb q k =>
  i_while (m := fun st => WP prog w A (exec st env) R s) hb fun t x p hc hx => wpAny_While (codeAny_whileLoop (WhI w cls B env nm μ s fun m vs H => whileL (eE Γ c) (eSs Γ b) m vs H Q) (fun m s1 y => y.casesOn fun vs1 μ1 H1 q1 S1 F1 L1 => by
    cases m with
    | zero => exact q1.elim
    | succ m =>
      have z1 := (z.nextX S1 F1).mark
      refine WP.any (h0 z1 hc q1 fun t s2 μ2 H2 q2 S2 L2 => ?_)
      have L12 := L1.trans (z1.lex L2)
      cases t with
      | false => exact wpAny_execs_nil (k.nx _ _ _ _ q2 S2 (F1.le S1 L2) L12)
      | true => exact WP.any (h1 (z1.next S2 L2) hx q2 ⟨fun vs3 μ3 H3 s3 q3 S3 F3 L3 => ⟨m, Nat.lt_succ_self m, vs3, μ3, H3, q3, S3, F3, L12.trans L3⟩, fun a v vs3 μ3 H3 s3 q3 S3 F3 L3 r3 => k.rt _ _ _ _ _ _ q3 S3 F3 (L12.trans L3) r3⟩)) m ⟨vs, μ, H, q, z.S, z.Fr, LeX.refl⟩)
end
section
variable {prog : Program} {w : World} {cls : Cls} {B B0 : Base} {μ μ' μ'' : Mu} {H H' : AH} {s s' s'' : Shared} {h h' : Heap} {A : Around} {env : Env} {nm : List PySem.Str} {vs vs' : Vars} {X : Addr → Prop}

noncomputable def RetS (X : Addr → Prop) (w : World) (cls : Cls) (B : Base) (env : Env) (nm : List PySem.Str) (μ : Mu) (H : AH) (s : Shared) (vs' : Vars) (R : Unit → Shared → Prop) : Prop := ∀ s', SR w cls B μ H s'.heap → FR B env nm vs' μ s'.heap → LeX X μ s μ s' → R () s'
theorem each_len : ∀ {l : List Nat} {es : List PySem.Expr} {sc : Scope}, namesOk nm sc l es = true → (assignEach es env).length = l.length ∧ (assignEach es env).findIdx? (·.1) = none
  | [], [], _, _ => ⟨rfl, rfl⟩
  | [], _ :: _, _, h => bf h
  | _ :: _, [], _, h => bf h
  | i :: l, e :: es, sc, h => band_k h fun h1 h2 => i_nm1 (m := fun e => (assignEach (e :: es) env).length = (i :: l).length ∧ (assignEach (e :: es) env).findIdx? (·.1) = none) h1 fun x p _ _ =>
    have y := each_len h2
    ⟨congrArg (· + 1) y.1, by show List.findIdx? (fun x => x.1) ((false, assign (.Name x p) env) :: assignEach es env) = none; rw [List.findIdx?_cons, y.2]; rfl⟩
theorem setVars_k {i : Nat} {l : List Nat} {as : List AV} (e : setVars (i :: l) as vs = some vs') {G : List AV → Prop} (k : ∀ a r, i < vs.length → setVars l r (vs.set i (some a)) = some vs' → G (a :: r)) : G as := by
  cases as with
  | nil => exact nos e
  | cons a r => exact gB_k e fun h e => k a r (Nat.le_of_ble_eq_true h) e
theorem assign_all : ∀ {l : List Nat} {es : List PySem.Expr} {as : List AV} {vals : List Value} {vs vs' : Vars} {s : Shared} {R : Unit → Shared → Prop}, (∀ i ∈ l, ∀ x, nm[i]? = some x → PlX X env x) → namesOk nm env.scope l es = true → nm.Nodup → SR w cls B μ H s.heap → FR B env nm vs μ s.heap → VRs μ s.heap as vals → setVars l as vs = some vs' →
    RetS X w cls B env nm μ H s vs' R → WP prog w A (assignInOrder ((assignEach es env).map (·.2)) vals) R s
  | [], es, as, vals, vs, vs', s, R, hX, hok, hn, S, Fr, r, e, k => by
    rw [none0_k hok]
    refine gB_k e fun h e => ?_
    rw [none0_k h] at r
    exact vrs0 r (m := fun vals => WP prog w A (assignInOrder [] vals) R s) (wpAny_pure (k s S (Option.some.inj e ▸ Fr) LeX.refl))
  | _ :: _, [], _, _, _, _, _, _, _, hok, _, _, _, _, _, _ => bf hok
  | i :: l, e0 :: es, as, vals, vs, vs', s, R, hX, hok, hn, S, Fr, r, e, k => band_k hok fun h1 h2 => i_nm1 (m := fun e0 => WP prog w A (assignInOrder ((assignEach (e0 :: es) env).map (·.2)) vals) R s) h1 fun x p e1 hd =>
    setVars_k e (G := fun as => VRs μ s.heap as vals → WP prog w A (assignInOrder ((assignEach (.Name x p :: es) env).map (·.2)) vals) R s) (fun a as' _ e r => by
      cases r with
      | cons r1 r2 =>
        exact wpAny_bind (wpAny_holding (PyProof.Rows.assign_Name (store_var (hX i List.mem_cons_self x e1) S Fr e1 hd hn r1 fun s1 S1 F1 L1 => assign_all (fun j hj => hX j (List.mem_cons_of_mem _ hj)) h2 hn S1 F1 (r2.lex L1) e fun s2 S2 F2 L2 => k s2 S2 F2 (L1.trans L2))))) r
theorem setVars_len : ∀ {l : List Nat} {as : List AV} {vs vs' : Vars}, setVars l as vs = some vs' → l.length = as.length
  | [], as, _, _, h => gB_k h fun h _ => none0_k h ▸ rfl
  | _ :: _, as, _, _, h => setVars_k h (G := fun as => _ = as.length) fun _ _ _ h => congrArg (· + 1) (setVars_len h)
noncomputable def tgIx : Tg → List Nat
  | .one i => [i]
  | .tup l => l
theorem assign_tgX {d u : Nat} {t : Tg} {e : PySem.Expr} {a : AV} {v : Value} (hX : ∀ i ∈ tgIx t, ∀ x, nm[i]? = some x → PlX X env x) (hA : AOk A d u) (hok : tgOk t nm env.scope e = true) (hn : nm.Nodup) (S : SR w cls B μ H s.heap) (Fr : FR B env nm vs μ s.heap) (r : VR μ s.heap a v) (hs : setT t a vs = some vs')
    {R : Unit → Shared → Prop} (k : RetS X w cls B env nm μ H s vs' R) : WP prog w A (assign e env v) R s := by
  cases t with
  | one i => exact i_nm1 (m := fun e => WP prog w A (assign e env v) R s) hok fun x p e1 hd => gB_k hs fun _ hs => PyProof.Rows.assign_Name (store_var (hX i (List.mem_singleton.mpr rfl) x e1) S Fr e1 hd hn r (Option.some.inj hs ▸ k))
  | tup l =>
    refine i_tgtup (m := fun e => WP prog w A (assign e env v) R s) hok fun es c p hno => ob_k hs fun xs ex hsv => r.tup_m ex (m := fun v => WP prog w A (assign (.Tuple es c p) env v) R s) fun ta vals ht rv => ?_
    have y := each_len (env := env) hno
    refine wpAny_assign_Tuple hA.handled ht (by rw [y.1, rv.size, setVars_len hsv]) y.2 fun h' he => ?_
    have x := S.grow (h' := h') (tk := s.toks) fun b o eb => he b o (Nat.ne_of_lt (Heap.lt_size eb)) eb
    exact assign_all (s := { s with heap := h', toks := s.toks }) hX hno hn x.1 (Fr.le S x.2) (rv.mono (fun _ _ e => e) (x.2.tk S)) hsv fun s2 S2 F2 L2 => k s2 S2 F2 ((LeX.of x.2 S).trans L2)
theorem assign_tg {d u : Nat} {t : Tg} {e : PySem.Expr} {a : AV} {v : Value} (hA : AOk A d u) (hok : tgOk t nm env.scope e = true) (hn : nm.Nodup) (S : SR w cls B μ H s.heap) (Fr : FR B env nm vs μ s.heap) (r : VR μ s.heap a v) (hs : setT t a vs = some vs')
    {R : Unit → Shared → Prop} (k : RetS (Own env) w cls B env nm μ H s vs' R) : WP prog w A (assign e env v) R s := assign_tgX (fun _ _ _ _ => PlX.own) hA hok hn S Fr r hs k
end
section
variable {prog : Program} {w : World} {cls : Cls} {B B0 : Base} {μ μ₀ μ' μ'' : Mu} {H H' : AH} {s s₀ s' s'' : Shared} {h h' : Heap} {A : Around} {F : Frz} {env : Env} {nm : List PySem.Str} {vs vs' : Vars} {X J : Addr → Prop}

theorem off_lex {a : Addr} {o : Obj} (x : LeX X μ s μ' s') (e : s.heap.get? a = some o) (n : Off μ a) : Off μ' a := x.ext.elim fun _ z => off_ext z.1 z.2 e n
noncomputable def ownT (T : String) : Bool := ["enumerate", "zip", "dict_itemiterator", "dict_reverseitemiterator", "odict_iterator", "itertools.zip_longest", "itertools.pairwise"].contains T
structure ItO (B : Base) (μ : Mu) (s : Shared) (I : Addr) : Prop where
  off : Off μ I
  new : B I = none
  obj : ∃ o fs, s.heap.get? I = some o ∧ o.data = .fields fs
noncomputable def NoOwn (s : Shared) (I : Addr) : Prop := ∃ o fs, s.heap.get? I = some o ∧ o.data = .fields fs ∧ ∃ T, o.cls = .type T ∧ ownT T = false
theorem ItO.lex {I : Addr} (x : ItO B μ s I) (L : LeX X μ s μ' s') (hx : ¬ X I) : ItO B μ' s' I :=
  x.obj.elim fun o z => z.elim fun fs z => ⟨off_lex L z.1 x.off, x.new, o, fs, L.keep _ _ z.1 x.off hx, z.2⟩
structure Now (X : Addr → Prop) (w : World) (cls : Cls) (B : Base) (env : Env) (nm : List PySem.Str) (vs : Vars) (μ₀ : Mu) (s₀ : Shared) (μ : Mu) (H : AH) (s : Shared) : Prop where
  S : SR w cls B μ H s.heap
  Fr : FR B env nm vs μ s.heap
  L : LeX X μ₀ s₀ μ s
theorem FR.keep (Fr : FR B env nm vs μ h) (k : ∀ b o, Own env b → h.get? b = some o → h'.get? b = some o) (t : TK h h') : FR B env nm vs μ h' :=
  have kc : ∀ y c {v}, env.cells.lookup y = some c → h.IsCell c v → h'.IsCell c v := fun y c _ e w => cell_k w fun o => k c o (.inr ⟨y, e⟩)
  { kind := Fr.kind, globals := Fr.globals, builtins := Fr.builtins, len := Fr.len
    ns := Fr.ns.imp fun m z => ⟨Ns.to z.1 fun o => k _ o (.inl rfl), fun i y a e1 e2 => (z.2 i y a e1 e2).imp fun v z => ⟨z.1.mono (fun _ _ e => e) t, z.2.imp id fun z => ⟨z.1, z.2.imp fun c z => ⟨z.1, kc y c z.1 z.2⟩⟩⟩⟩
    offL := Fr.offL, newL := Fr.newL
    cell := fun y c e => have w := Fr.cell y c e; ⟨w.1.imp fun _ u => kc y c e u, w.2⟩
    apart := Fr.apart, has := Fr.has }
theorem turnP {tk : Nat} (hJ : ∀ b, J b → ItO B μ s b) (hO : ∀ a, Own env a → ¬ J a) (hF : ∀ b, J b → s₀.heap.get? b = none) (z : Now X w cls B env nm vs μ₀ s₀ μ H s) (k : ∀ b o, ¬ J b → s.heap.get? b = some o → h'.get? b = some o)
    {G : Prop} (g : Now X w cls B env nm vs μ₀ s₀ μ H { s with heap := h', toks := tk } → TK s.heap h' → G) : G := by
  have keepI : ∀ b o', s.heap.get? b = some o' → (∀ fs, o'.data ≠ .fields fs) → h'.get? b = some o' := fun b o' e nf => k b o' (fun z => (hJ b z).obj.elim fun o y => y.elim fun fs y => nf fs (Option.some.inj (y.1.symm.trans e) ▸ y.2)) e
  have tk' : TK s.heap h' := fun b o' vs n e c dd => keepI b o' e fun fs z => (nomatch dd.symm.trans z)
  refine g ⟨⟨z.S.len, z.S.nodup, fun i ob p ei ep => ?_, fun b o' e => k b o' (fun y => nos ((hJ b y).new.symm.trans e)) (z.S.base b o' e), z.S.new⟩, z.Fr.keep (fun b o e => k b o (hO b e)) tk',
    ⟨z.L.gens, z.L.drawn, z.L.os, z.L.ext, fun b o' e hm hx => k b o' (fun y => nos ((hF b y).symm.trans e)) (z.L.keep b o' e hm hx), fun b o' e => (z.L.alive b o' e).imp fun o1 e1 => k b o1 (fun y => nos ((hF b y).symm.trans e)) e1, z.L.tk.trans tk'⟩⟩ tk'
  have y := z.S.obj i ob p ei ep
  have hp : ¬ J p.2 := fun y => (hJ _ y).off (List.mem_map_of_mem (List.mem_of_getElem? ep))
  refine y.mono_ne (fun _ _ e => e) tk' (fun y e => k _ y hp e) fun q e => ?_
  induction ob using AO.casesOn with
  | list xs => rw [y.1] at e ⊢; exact k _ q hp e
  | dict xs => rw [y.1] at e ⊢; exact k _ q hp e
  | inst c fs => exact y.elim fun _ y => y.elim fun _ y => keepI _ _ e fun fs z => nomatch (congrArg Obj.data (Option.some.inj (y.1.symm.trans e))).trans z

structure IterOk (prog : Program) (w : World) (cls : Cls) (B : Base) (I : Addr) (xs : List AV) (chk : AH → Prop) (J : Addr → Prop) (P : Mu → Shared → Nat → Prop) : Prop where
  lex : ∀ {X : Addr → Prop} {μ : Mu} {s : Shared} {μ' : Mu} {s' : Shared} {i : Nat}, (∀ a, J a → ¬ X a) → P μ s i → LeX X μ s μ' s' → P μ' s' i
  own : ∀ {μ : Mu} {s : Shared} {i : Nat}, P μ s i → ∀ a, J a → ItO B μ s a
  self : ∀ {A : Around} {μ : Mu} {s : Shared} {i : Nat} {E : Value → Shared → Prop} {Q : Value → Shared → Prop}, P μ s i → Q (.ref I) s → wpAny (model prog w) A (pyIter (.ref I)) Q E s
  next : ∀ {A : Around} {d u : Nat} {env : Env} {nm : List PySem.Str} {vs : Vars} {X : Addr → Prop} {μ₀ : Mu} {s₀ : Shared} {μ : Mu} {H : AH} {s : Shared} {i : Nat} {R : Option Value → Shared → Prop}, AOk A d u → (∀ a, Own env a → ¬ J a) → (∀ b, J b → s₀.heap.get? b = none) →
    Now X w cls B env nm vs μ₀ s₀ μ H s → chk H → P μ s i →
    (∀ b v s', xs[i]? = some b → VR μ s'.heap b v → Now X w cls B env nm vs μ₀ s₀ μ H s' → NoOwn s' I → P μ s' (i + 1) → R (some v) s') →
    (∀ s', xs[i]? = none → Now X w cls B env nm vs μ₀ s₀ μ H s' → R none s') → WP prog w A (pyNext (.ref I)) R s
theorem mem_le {xs : List AV} {vals : Array Value} (rv : VRs μ h xs vals.toList) {i : Nat} (hx : xs[i]? = none) : vals[i]? = none := Array.getElem?_eq_none (rv.size ▸ List.getElem?_eq_none_iff.mp hx)
theorem J_eq {I b : Addr} (e : b = I) (o : ItO B μ s I) : ItO B μ s b := e ▸ o
theorem iter_list {I : Addr} {a : AV} {l : Addr} {xs : List AV} {chk : AH → Prop} (fz : FzOk w cls B F) (hc : ∀ H, chk H → getO F H a = some (.list xs)) :
    IterOk prog w cls B I xs chk (· = I) fun μ s i => ItO B μ s I ∧ s.heap.IsListIter I l i ∧ VR μ s.heap a (.ref l) where
  lex := fun hx p L => ⟨p.1.lex L (hx _ rfl), p.2.1.imp fun q y => ⟨L.keep _ _ y.1 p.1.off (hx _ rfl), y.2⟩, p.2.2.lex L⟩
  self := fun p q => wpAny_pyIter_listiter p.2.1 q
  own := fun p a e => J_eq e p.1
  next := fun {A d u env nm vs X μ₀ s₀ μ H s i R} hA hO hF z hch p g1 g2 => by
    refine olist_m fz z.S p.2.2 (hc H hch) (m := fun v => v = .ref l → WP prog w A (pyNext (.ref I)) R s) (fun l' vals n hl rv e => ?_) rfl
    rw [Value.ref.inj e] at hl
    have hl := IsL.isList hl
    cases hx : xs[i]? with
    | some b => exact (rv.get hx).elim fun v y => wpAny_pyNext_list_item p.2.1 hl (toL y.1) fun h' hit hs => turnP (tk := s.toks) (J := (· = I)) (fun b e => J_eq e p.1) hO hF z (fun b o hb e => (hs.2 b hb).trans e) fun z' tk' => hit.elim fun q w => g1 b v _ hx (y.2.mono (fun _ _ e => e) tk') z' ⟨q, _, w.1, w.2.2, _, w.2.1, by decide⟩ ⟨⟨p.1.off, p.1.new, q, _, w.1, w.2.2⟩, hit, p.2.2.mono (fun _ _ e => e) tk'⟩
    | none => exact wpAny_pyNext_list_end hA.handled p.2.1 hl (mem_le rv hx) fun h' he => turnP (tk := s.toks) (J := (· = I)) (fun b e => J_eq e p.1) hO hF z (fun b o hb e => he b o hb e) fun z' _ => g2 _ hx z'
theorem iter_tup {I l : Addr} {vals : Array Value} {xs : List AV} :
    IterOk prog w cls B I xs (fun _ => True) (· = I) fun μ s i => ItO B μ s I ∧ IsTupIter s.heap I l i ∧ IsTup s.heap l vals ∧ VRs μ s.heap xs vals.toList where
  lex := fun hx p L => ⟨p.1.lex L (hx _ rfl), p.2.1.imp fun q y => ⟨L.keep _ _ y.1 p.1.off (hx _ rfl), y.2⟩, p.2.2.1.imp fun q y => ⟨y.2.2.elim fun n e => L.tk _ _ _ n y.1 y.2.1 e, y.2⟩, p.2.2.2.lex L⟩
  self := fun p q => wpAny_pyIter_tupleiter p.2.1 q
  own := fun p a e => J_eq e p.1
  next := fun {A d u env nm vs X μ₀ s₀ μ H s i R} hA hO hF z hch p g1 g2 => by
    cases hx : xs[i]? with
    | some b => exact (p.2.2.2.get hx).elim fun v y => next_tuple_item p.2.1 p.2.2.1 (toL y.1) fun h' hit hs => turnP (tk := s.toks) (J := (· = I)) (fun b e => J_eq e p.1) hO hF z (fun b o hb e => (hs.2 b hb).trans e) fun z' tk' => hit.elim fun q w => g1 b v _ hx (y.2.mono (fun _ _ e => e) tk') z' ⟨q, _, w.1, w.2.2, _, w.2.1, by decide⟩ ⟨⟨p.1.off, p.1.new, q, _, w.1, w.2.2⟩, hit, p.2.2.1.imp fun q y => ⟨y.2.2.elim fun n e => tk' _ _ _ n y.1 y.2.1 e, y.2⟩, p.2.2.2.mono (fun _ _ e => e) tk'⟩
    | none => exact next_tuple_end hA.handled p.2.1 p.2.2.1 (mem_le p.2.2.2 hx) fun h' he => turnP (tk := s.toks) (J := (· = I)) (fun b e => J_eq e p.1) hO hF z (fun b o hb e => he b o hb e) fun z' _ => g2 _ hx z'
theorem rngA_get {m i : Nat} (h : i < m) : (rngA m)[i]? = some (.i i) := by unfold rngA; rw [List.getElem?_map, List.getElem?_range h]; rfl
theorem rngA_none {m i : Nat} (h : ¬ i < m) : (rngA m)[i]? = none := by unfold rngA; rw [List.getElem?_map, List.getElem?_eq_none (List.length_range.symm ▸ Nat.le_of_not_lt h)]; rfl
theorem iter_rng {I : Addr} {m : Nat} : IterOk prog w cls B I (rngA m) (fun _ => True) (· = I) fun μ s i => ItO B μ s I ∧ IsRangeIter s.heap I (i : Int) ((m : Int) - i) 1 where
  lex := fun hx p L => ⟨p.1.lex L (hx _ rfl), L.keep _ _ p.2 p.1.off (hx _ rfl)⟩
  self := fun p q => wpAny_pyIter_rangeiter p.2 q
  own := fun p a e => J_eq e p.1
  next := fun {A d u env nm vs X μ₀ s₀ μ H s i R} hA hO hF z hch p g1 g2 => by
    by_cases hi : i < m
    · refine wpAny_pyNext_range_item p.2 (Int.sub_pos_of_lt (Int.ofNat_lt.mpr hi)) fun h' hit hs => turnP (tk := s.toks + 1) (J := (· = I)) (fun b e => J_eq e p.1) hO hF z (fun b o hb e => (hs.2 b hb).trans e) fun z' _ =>
        g1 _ _ _ (rngA_get hi) (vr_int _ _) z' ⟨_, _, hit, rfl, _, rfl, by decide⟩ ⟨⟨p.1.off, p.1.new, _, _, hit, rfl⟩, ?_⟩
      rw [show (m : Int) - ((i + 1 : Nat) : Int) = (m : Int) - i - 1 from (Int.sub_sub (m : Int) i 1).symm]
      exact hit
    · exact wpAny_pyNext_range_end hA.handled p.2 (Int.sub_nonpos_of_le (Int.ofNat_le.mpr (Nat.le_of_not_lt hi))) fun h' he => turnP (tk := s.toks) (J := (· = I)) (fun b e => J_eq e p.1) hO hF z (fun b o hb e => he b o hb e) fun z' _ => g2 _ (rngA_none hi) z'
end
section
variable {prog : Program} {w : World} {cls : Cls} {B B0 : Base} {μ μ₀ μ' μ'' : Mu} {H H' : AH} {s s₀ s' s'' : Shared} {h h' : Heap} {A : Around} {F : Frz} {E : Value → Shared → Prop} {X J : Addr → Prop}

noncomputable def EndN (prog : Program) (w : World) (A : Around) (i : Addr) (s : Shared) : Prop := ∀ (E : Value → Shared → Prop),
  (∀ h' e, Heap.ExtBut i s.heap h' → (∃ o, h'.get? e = some o ∧ o.cls = .type "StopIteration") → E (.ref e) { s with heap := h' }) → wpAny (model prog w) A (Builtin.SmallTypes.nextOf (.ref i)) (fun _ _ => False) E s
theorem endN_list {i l : Addr} {k : Nat} {items : Array Value} (hh : A.handled = none) (hit : s.heap.IsListIter i l k) (hl : s.heap.IsList l items) (hx : items[k]? = none) : EndN prog w A i s :=
  fun E h => wpAny_nextOf_list_end hh hit hl hx h
theorem endN_tuple {i l : Addr} {k : Nat} {items : Array Value} (hh : A.handled = none) (hit : IsTupIter s.heap i l k) (hl : IsTup s.heap l items) (hx : items[k]? = none) : EndN prog w A i s := by
  intro E h
  obtain ⟨o, ho, hc, hd⟩ := id hit
  obtain ⟨ol, hol, _, nl, hdl⟩ := hl
  unfold Builtin.SmallTypes.nextOf
  refine wpAny_bind (wpAny_callSpecial?_slot (name := Str.ofString "__next__") hit.typeIs slot_tupleiter_next
    (wpAny_call_entry slot_tupleiter_next hit.typeIs entry_tupleiter_next ?_ (args_tupleiter_next _)))
  show wpAny _ _ (field (.ref i) 0 >>= _) _ _ s
  refine wpAny_bind (wpAny_field ho hd (x := .ref l) rfl ?_)
  show wpAny _ _ (if (Value.ref l == Value.none) = true then _ else _) _ _ s
  rw [if_neg (show ¬ ((Value.ref l == Value.none) = true) from Bool.false_ne_true)]
  show wpAny _ _ (field (.ref i) 1 >>= _) _ _ s
  refine wpAny_bind (wpAny_field ho hd (x := .int k 0) rfl ?_)
  show wpAny _ _ (seqItems? (.ref l) >>= _) _ _ s
  refine wpAny_bind (wpAny_seqItems hol hdl ?_)
  simp only [Int.toNat_natCast, hx]
  refine wpAny_bind (wpAny_rule (wpAny_bind (wpAny_setField ho hd (by simp) ?_)))
  show wpAny _ _ (newExc (.type "StopIteration") [] >>= _) _ _ _
  refine wpAny_bind ?_
  simp only [newExc, newTuple]
  refine wpAny_bind (wpAny_newObj_type ?_ (by size_fits))
  refine wpAny_bind (m := firstArgMember _ _) (wpAny_of_eq (a := Value.none) (by first | rfl | (simp only [firstArgMember]; rfl)) ?_)
  refine wpAny_newObj_type ?_ (by size_fits)
  simp only [raiseNew]
  refine wpAny_bind (wpAny_handled ?_)
  first | rw [show A.in1.handled = none from hh] | rw [hh]
  refine wpAny_bind (wpAny_pure (wpAny_throw ?_))
  exact h _ _ (((Heap.SameBut.update ..).extBut.push _).push _) ⟨_, Heap.get?_push_size _ rfl, rfl⟩
theorem zip_end1 {z TI TO i1 i2 : Addr} {Q : Option Value → Shared → Prop} (hz : IsZip s.heap z TI TO .none) (hTI : IsPair s.heap TI (.ref i1) (.ref i2)) (hne : z ≠ i1)
    (he : ∀ h', Heap.SameBut z s.heap h' → EndN prog w A.in1 i1 { s with heap := h' })
    (hQ : ∀ h', (∀ c o, c ≠ z → c ≠ i1 → s.heap.get? c = some o → h'.get? c = some o) → Q none { s with heap := h' }) : wpAny (model prog w) A (pyNext (.ref z)) Q E s := by
  have hT : s.TypeIs (.ref z) "zip" := ⟨_, hz, rfl⟩
  unfold pyNext
  refine wpAny_bind (wpAny_attempt (wpAny_callSpecial?_slot (name := Str.ofString "__next__") hT F.slot_zip_next
    (wpAny_call_entry F.slot_zip_next hT F.entry_zip_next ?_ (F.args_zip_next_1 _))))
  show wpAny _ _ (field (.ref z) 2 >>= _) _ _ _
  refine wpAny_bind (wpAny_field hz rfl (x := .bool false) rfl ?_)
  show wpAny _ _ (field (.ref z) 3 >>= _) _ _ _
  refine wpAny_bind (wpAny_field hz rfl (x := .ref TI) rfl ?_)
  refine wpAny_bind (wpAny_seqItems hTI rfl ?_)
  show wpAny _ _ (Builtin.SmallTypes.ownedTupleIsFree (.ref z) >>= _) _ _ _
  refine wpAny_bind ?_
  unfold Builtin.SmallTypes.ownedTupleIsFree
  refine wpAny_bind (wpAny_field hz rfl (x := .none) rfl (wpAny_pure ?_))
  simp only [if_true]
  refine wpAny_bind (wpAny_rule ?_)
  refine wpAny_bind (wpAny_field hz rfl (x := .ref TO) rfl ?_)
  refine wpAny_bind (wpAny_setField_rec hz (by simp) fun h₁ hz₁ hs₁ => ?_)
  replace hz₁ : IsZip h₁ z TI TO .ellipsis := hz₁
  refine wpAny_bind ?_
  simp only [List.zipIdx_cons, List.zipIdx_nil, List.forIn_cons, List.forIn_nil]
  refine wpAny_bind (wpAny_bind (wpAny_onRaise ?_))
  show wpAny _ _ (Builtin.SmallTypes.nextOf (.ref i1) >>= _) _ _ _
  refine wpAny_bind (wpAny_mono (he h₁ hs₁ _ fun h₂ e hs₂ hst => ?_) (fun _ _ f => f.elim) fun _ _ x => x)
  obtain ⟨oe, hoe, hce⟩ := hst
  have hz₂ : IsZip h₂ z TI TO .ellipsis := hs₂ _ _ hne hz₁
  have hez : e ≠ z := fun x => by subst x; rw [hz₂] at hoe; cases hoe; simp at hce
  refine wpAny_setField_rec hz₂ (by simp) fun h₃ _ hs₃ => ?_
  refine wpAny_bind (wpAny_isInstance (T := "StopIteration") (b := true) ⟨oe, hs₃.extBut _ _ hez hoe, hce⟩ isSubtype_stop ?_)
  exact wpAny_pure (hQ _ fun c o c1 c2 x => hs₃.extBut _ _ c1 (hs₂ _ _ c2 (hs₁.extBut _ _ c1 x)))
noncomputable def IterNew (v : Value) (o : Obj) (P : Heap → Prop) : Prop := ∀ (prog : Program) (w : World) (A : Around) (E : Value → Shared → Prop) (s : Shared) (Q : Value → Shared → Prop), P s.heap → Q (.ref s.heap.objs.size) { s with heap := s.heap.push o } → wpAny (model prog w) A (pyIter v) Q E s
noncomputable abbrev zH3 (h : Heap) (o1 o2 : Obj) : Heap := ((h.push o1).push o2).push { cls := .type "tuple", data := .seq #[.ref h.objs.size, .ref (h.push o1).objs.size] }
noncomputable abbrev zH5 (h : Heap) (o1 o2 : Obj) : Heap := ((zH3 h o1 o2).push { cls := .type "tuple", data := .seq #[.none, .none] }).push { cls := .type "zip", data := .fields #[.none, .bool false, .bool false, .ref ((h.push o1).push o2).objs.size, .ref (zH3 h o1 o2).objs.size] }
theorem meets_zip (v1 v2 : Value) (o1 o2 : Obj) (P1 P2 : Heap → Prop) (i1 : IterNew v1 o1 P1) (i2 : IterNew v2 o2 P2) (f1 : o1.isFreed = false) :
    Meets (Builtin.«zip.__new__» ⟨[.type "zip", v1, v2], []⟩) (fun _ R s => P1 s.heap ∧ P2 (s.heap.push o1) ∧
      R (.ok (.ret (.ref ((zH3 s.heap o1 o2).push { cls := .type "tuple", data := .seq #[.none, .none] }).objs.size))) { s with heap := zH5 s.heap o1 o2 }) :=
  .of_wp fun prog w A R s h => by
    obtain ⟨hp, g, d, tk, os⟩ := s; obtain ⟨hl1, hl2, h⟩ := h
    have hsub := sub_zip
    have j1 := fun A E Q => i1 prog w A E ⟨hp, g, d, tk, os⟩ Q hl1
    have j2 := fun A E Q => i2 prog w A E ⟨hp.push o1, g, d, tk, os⟩ Q hl2
    wp_walk using j1, j2
    exact ⟨_, rfl, h⟩
structure EndOk (prog : Program) (w : World) (cls : Cls) (B : Base) (i1 : Addr) (chk : AH → Prop) (Q : Mu → Shared → Prop) : Prop where
  lex : ∀ {X : Addr → Prop} {μ : Mu} {s : Shared} {μ' : Mu} {s' : Shared}, ¬ X i1 → ItO B μ s i1 → Q μ s → LeX X μ s μ' s' → Q μ' s'
  en : ∀ {A : Around} {z : Addr} {μ : Mu} {H : AH} {s : Shared} {h' : Heap} {o : Obj}, A.handled = none → SR w cls B μ H s.heap → chk H → Q μ s → Heap.SameBut z s.heap h' → z ≠ i1 → s.heap.get? z = some o → o.cls = .type "zip" → EndN prog w A i1 { s with heap := h' }
theorem end_list {i1 : Addr} {a : AV} {l : Addr} {chk : AH → Prop} (fz : FzOk w cls B F) (hc : ∀ H, chk H → getO F H a = some (.list [])) : EndOk prog w cls B i1 chk fun μ s => s.heap.IsListIter i1 l 0 ∧ VR μ s.heap a (.ref l) where
  lex := fun hx o p L => ⟨p.1.imp fun q y => ⟨L.keep _ _ y.1 o.off hx, y.2⟩, p.2.lex L⟩
  en := fun {A z μ H s h' o} hA S hch p hs hne hz hoc => olist_m fz S p.2 (hc H hch) (m := fun v => v = .ref l → EndN prog w A i1 { s with heap := h' }) (fun l' vals n hl rv e => by
    rw [Value.ref.inj e] at hl
    exact endN_list hA (p.1.extBut hs.extBut hne.symm) ((IsL.isList hl).extBut hs.extBut fun y => absurd (show Value.type "list" = Value.type "zip" from (congrArg Obj.cls (Option.some.inj (hz.symm.trans (y ▸ hl)))).symm.trans hoc) (by decide)) (Array.getElem?_eq_none (Nat.le_of_eq rv.size))) rfl
theorem end_tup {i1 l : Addr} : EndOk prog w cls B i1 (fun _ => True) fun _ s => IsTupIter s.heap i1 l 0 ∧ IsTup s.heap l #[] where
  lex := fun hx o p L => ⟨p.1.imp fun q y => ⟨L.keep _ _ y.1 o.off hx, y.2⟩, p.2.imp fun q y => ⟨y.2.2.elim fun n e => L.tk _ _ _ n y.1 y.2.1 e, y.2⟩⟩
  en := fun hA _ _ p hs hne hz hoc => endN_tuple hA (p.1.extBut hs.extBut hne.symm) (p.2.extBut hs.extBut fun y => p.2.elim fun q w => absurd (w.2.1.symm.trans ((congrArg Obj.cls (Option.some.inj (w.1.symm.trans (y ▸ hz)))).trans hoc)) (by decide)) rfl
theorem iter_zip {I TI TO i1 i2 : Addr} {chk : AH → Prop} {Q : Mu → Shared → Prop} (E : EndOk prog w cls B i1 chk Q) (hne : I ≠ i1) : IterOk prog w cls B I [] chk (fun b => b = I ∨ b = i1) fun μ s _ => ItO B μ s I ∧ ItO B μ s i1 ∧ IsZip s.heap I TI TO .none ∧ IsPair s.heap TI (.ref i1) (.ref i2) ∧ Q μ s where
  lex := fun hx p L => ⟨p.1.lex L (hx _ (.inl rfl)), p.2.1.lex L (hx _ (.inr rfl)), L.keep _ _ p.2.2.1 p.1.off (hx _ (.inl rfl)), L.tk _ _ _ _ p.2.2.2.1 rfl rfl, E.lex (hx _ (.inr rfl)) p.2.1 p.2.2.2.2 L⟩
  self := fun p q => wpAny_pyIter_zip p.2.2.1 q
  own := fun p a e => e.elim (fun e => J_eq e p.1) fun e => J_eq e p.2.1
  next := fun {A d u env nm vs X μ₀ s₀ μ H s i R} hA hO hF z hch p g1 g2 => zip_end1 p.2.2.1 p.2.2.2.1 hne (fun h' hs => E.en (A := A.in1) hA.handled z.S hch p.2.2.2.2 hs hne p.2.2.1 rfl) fun h' hk =>
    turnP (tk := s.toks) (J := fun b => b = I ∨ b = i1) (fun b e => e.elim (fun e => J_eq e p.1) fun e => J_eq e p.2.1) hO hF z (fun b ob nb e => hk b ob (fun z => nb (.inl z)) (fun z => nb (.inr z)) e) fun z' _ => g2 _ rfl z'
end
section
section
variable (prog : Program) (w : World) (N : Nam) (cls : Cls) (B0 : Base) (Γ : Gam) (n : Nat)
noncomputable def RetI (prog : Program) (w : World) (cls : Cls) (B : Base) (μ : Mu) (s : Shared) (Q : KI) (R : Value → Shared → Prop) : Prop := ∀ I xs chk J P μ' H' s', Q xs chk H' → SR w cls B μ' H' s'.heap → Le μ s μ' s' → IterOk prog w cls B I xs chk J P → (∀ b, J b → s.heap.get? b = none) → P μ' s' 0 → R (.ref I) s'
noncomputable abbrev EvI (it : IT) : Prop := ∀ {B : Base} {nm : List PySem.Str} {env : Env} {vs : Vars} {A : Around} {μ : Mu} {H : AH} {s : Shared} {Q : KI} {R : Value → Shared → Prop} {e : PySem.Expr}, At w cls B0 n B nm env vs A μ H s → bIT N nm env.scope it e = true →
  eIT Γ it vs H Q → RetI prog w cls B μ s Q R → WP prog w A (eval e env) (fun x s1 => WP prog w A (pyIter x) R s1) s
end
variable {prog : Program} {w : World} {cls : Cls} {B B0 : Base} {μ μ₀ μ' μ'' : Mu} {H H' : AH} {s s₀ s' s'' : Shared} {h h' : Heap} {A : Around} {F : Frz} {K : Frag} {N : Nam} {Γ : Gam} {n : Nat} {env : Env} {nm : List PySem.Str} {vs vs' : Vars} {X : Addr → Prop}

theorem own_there (Fr : FR B env nm vs μ h) (a : Addr) (x : Own env a) : ∃ o, h.get? a = some o :=
  x.elim (fun e => e ▸ Fr.ns.elim fun m z => Ns.at_ z.1) fun e => e.elim fun y e => (Fr.cell y a e).1.elim fun v z => z.imp fun o z => z.1
theorem base_none (S : SR w cls B μ H h) {I : Addr} (hn : h.get? I = none) : B I = none := by
  cases e : B I with
  | none => rfl
  | some o => exact nos (hn.symm.trans (S.base _ _ e))
theorem ito_fresh {I : Addr} {tk : Nat} (S : SR w cls B μ H s.heap) (hn : s.heap.get? I = none) (ho : ∃ o fs, h'.get? I = some o ∧ o.data = .fields fs) : ItO B μ { s with heap := h', toks := tk } I :=
  ⟨fun hm => (S.turns hm).elim fun q z => nos (hn.symm.trans z.1), base_none S hn, ho⟩
theorem src_ok {a : AV} {xs : List AV} (e : getO F H a = some (.list xs)) (H2 : AH) (c : chkA a xs H2) : getO F H2 a = some (.list xs) := by
  induction a using AV.casesOn with
  | ref j => exact c
  | fro p => exact e
  | py _ => exact nos e
  | mix _ => exact nos e
theorem chk_tup {a : AV} {xs ys : List AV} (e : tupOf a = some xs) : chkA a ys = fun _ => True := by
  induction a using AV.casesOn with
  | ref j => exact nos e
  | fro p => exact nos e
  | py _ => rfl
  | mix _ => rfl
theorem iter_ret {o : Obj} {fs : Array Value} {tk : Nat} {Q : KI} {R : Value → Shared → Prop} {xs : List AV} {chk : AH → Prop} {P : Mu → Shared → Nat → Prop} (k : RetI prog w cls B μ₀ s₀ Q R) (S : SR w cls B μ H s.heap) (L : Le μ₀ s₀ μ s) (hf : o.isFreed = false) (hd : o.data = .fields fs) (q : Q xs chk H)
    (I : IterOk prog w cls B s.heap.objs.size xs chk (· = s.heap.objs.size) P) (p : ItO B μ { s with heap := s.heap.push o, toks := tk } s.heap.objs.size → (s.heap.push o).get? s.heap.objs.size = some o → P μ { s with heap := s.heap.push o, toks := tk } 0) : R (.ref s.heap.objs.size) { s with heap := s.heap.push o, toks := tk } :=
  have x := Le.push (o := o) (tk := tk) S
  k _ _ _ _ _ _ _ _ q x.1 (L.trans x.2) I (fun b e => none_of_alive L.alive (e ▸ size_none _)) (p (ito_fresh S (size_none _) ⟨o, fs, Heap.get?_push_size _ hf, hd⟩) (Heap.get?_push_size _ hf))
theorem evI_over (T : Tx prog w N cls B0 K Γ n) {c : CE} (h1 : EvS prog w N cls B0 Γ n c) : EvI prog w N cls B0 Γ n (.over c) := @fun B nm env vs A μ H s Q R e z hb q k =>
  h1 z hb q fun v s1 a μ1 H1 q1 S1 L1 r1 => oP_k q1 fun xs ex q1 => items_m (T.fzb z.hB) S1 r1 ex (m := fun v => VR μ1 s1.heap a v → WP prog w A (pyIter v) R s1)
    (fun t vals et ht rv _ => iter_tuple ht (iter_ret k S1 L1 rfl rfl (chk_tup et ▸ q1) iter_tup fun o e => ⟨o, ⟨_, e, rfl, rfl⟩, ht.push _, rv.push⟩))
    (fun l vals m eo hl rv r1 => wpAny_pyIter_list (IsL.isList hl) (iter_ret k S1 L1 rfl rfl q1 (iter_list (T.fzb z.hB) (src_ok eo)) fun o e => ⟨o, ⟨_, e, rfl, rfl⟩, r1.push⟩)) r1
theorem rgOk_k {m : Int} (h : rgOk m = true) : 0 ≤ m ∧ m ≤ 1000 := by
  cases m with
  | ofNat k => exact ⟨Int.natCast_nonneg k, Int.ofNat_le.mpr (Nat.le_of_ble_eq_true h)⟩
  | negSucc k => exact bf h
theorem evI_range (T : Tx prog w N cls B0 K Γ n) {c : CE} (h1 : EvS prog w N cls B0 Γ n c) : EvI prog w N cls B0 Γ n (.range c) := @fun B nm env vs A μ H s Q R e z hb q k =>
  i_range (m := fun e => WP prog w A (eval e env) (fun x s1 => WP prog w A (pyIter x) R s1) s) hb fun p a p2 hg hns hc => T.ns_k fun _ _ y => Call_Name rfl (builtin_load z.Fr hg (y.ns _ z.hh) y.rng (by
    rw [starEach_cons hns]
    refine PySem.callWith_type rfl (evalArgs_plain (spliced_cons (h1 z hc q fun v s1 a μ1 H1 q1 S1 L1 r1 => spliced_nil (oP_k q1 fun m em q1 => bP_k q1 fun hm q1 => r1.int_m em (m := fun v => WP prog w A (call (.type "range") [v]) (fun x s1 => WP prog w A (pyIter x) R s1) s1) fun t => call_range_1 ?_))))
    have hm := rgOk_k hm
    have x := Le.push (o := { cls := .type "range", data := .fields #[.int 0 s1.toks, .int m t, .int 1 (s1.toks + 1)] }) (tk := s1.toks + 1 + 1) S1
    refine wpAny_pyIter_range (IsRange.new ..) (small_one (by decide) (by decide) (by omega) (by omega)) (iter_ret (s := { s1 with heap := s1.heap.push { cls := .type "range", data := .fields #[.int 0 s1.toks, .int m t, .int 1 (s1.toks + 1)] }, toks := s1.toks + 1 + 1 }) k x.1 (L1.trans x.2) rfl rfl q1 (iter_rng (m := m.toNat)) fun o e => ⟨o, ?_⟩)
    have hsz : Builtin.Range.rangeSize 0 m 1 = (m.toNat : Int) := by rw [rangeSize_one]; split <;> omega
    rw [show (m.toNat : Int) - ((0 : Nat) : Int) = Builtin.Range.rangeSize 0 m 1 from (Int.sub_zero _).trans hsz.symm]
    exact e))
end
section
variable {prog : Program} {w : World} {cls : Cls} {B B0 : Base} {μ μ₀ μ' μ'' : Mu} {H H' : AH} {s s₀ s' s'' : Shared} {h h' : Heap} {A : Around} {F : Frz} {K : Frag} {N : Nam} {Γ : Gam} {n : Nat} {env : Env} {nm : List PySem.Str} {vs vs' : Vars} {X : Addr → Prop}

noncomputable abbrev lit (l : Addr) : Obj := { cls := .type "list_iterator", data := .fields #[.ref l, .int 0 0] }
noncomputable abbrev tit (l : Addr) : Obj := { cls := .type "tuple_iterator", data := .fields #[.ref l, .int 0 0] }
theorem emp_arr {vs : Array Value} (rv : VRs μ h [] vs.toList) : vs = #[] := Array.eq_empty_of_size_eq_zero rv.size
structure Src0 (prog : Program) (w : World) (cls : Cls) (B : Base) (h : Heap) (x : AV) (v : Value) (o : Obj) (P : Heap → Prop) (Q : Addr → Mu → Shared → Prop) : Prop where
  new : IterNew v o P
  fr : o.isFreed = false
  p0 : P h
  p1 : ∀ o', P (h.push o')
  fs : ∃ fs, o.data = .fields fs
  en : ∀ i1, EndOk prog w cls B i1 (chkA x []) (Q i1)
  q0 : ∀ {i1 : Addr} {μ' : Mu} {s' : Shared}, (∀ b o, h.get? b = some o → s'.heap.get? b = some o) → VR μ' s'.heap x v → s'.heap.get? i1 = some o → Q i1 μ' s'
theorem iter_src (fz : FzOk w cls B F) (S : SR w cls B μ H h) {x : AV} {v : Value} (r : VR μ h x v) (e : itemsA F x H = some []) : ∃ o P Q, Src0 prog w cls B h x v o P Q :=
  items_m fz S r e (m := fun v => ∃ o P Q, Src0 prog w cls B h x v o P Q)
    (fun l vs et ht rv => have ht : IsTup h l #[] := emp_arr rv ▸ ht
      ⟨tit l, fun h => IsTup h l #[], _, fun _ _ _ _ _ _ hp q => iter_tuple hp q, rfl, ht, fun o' => ht.push o', ⟨_, rfl⟩, fun i1 => chk_tup et ▸ end_tup, fun k _ e => ⟨⟨_, e, rfl, rfl⟩, ht.keeps k⟩⟩)
    fun l vs n eo hl rv => ⟨lit l, fun h => IsL h l vs n, _, fun _ _ _ _ _ _ hp q => wpAny_pyIter_list (IsL.isList hp) q, rfl, hl, fun o' => Heap.get?_push_of_some _ hl, ⟨_, rfl⟩, fun i1 => end_list fz (src_ok eo), fun _ r e => ⟨⟨_, e, rfl, rfl⟩, r⟩⟩
theorem evI_zip (T : Tx prog w N cls B0 K Γ n) {c d : CE} (h1 : EvS prog w N cls B0 Γ n c) (h2 : EvS prog w N cls B0 Γ n d) : EvI prog w N cls B0 Γ n (.zip c d) := @fun B nm env vs A μ H s Q R e z hb q k =>
  i_zip (m := fun e => WP prog w A (eval e env) (fun x s1 => WP prog w A (pyIter x) R s1) s) hb fun p a b p2 hg ha hb' hc hd => T.ns_k fun _ _ y => Call_Name rfl (builtin_load z.Fr hg (y.ns _ z.hh) y.zip
    (args_type (es := .cons c (.cons d .nil)) (first := []) (l := [a, b]) (evL_cons h1 (evL_cons h2 evL_nil)) z (Bool.and_eq_true_iff.mpr ⟨Bool.and_eq_true_iff.mpr ⟨ha, hc⟩, Bool.and_eq_true_iff.mpr ⟨Bool.and_eq_true_iff.mpr ⟨hb', hd⟩, rfl⟩⟩)
      (K := fun as H2 => oP (two2 as) fun p => oP (itemsA Γ.frz p.1 H2) fun xs => oP (itemsA Γ.frz p.2 H2) fun ys => bP (none0 xs && none0 ys) (Q [] (chkA p.1 []) H2)) q fun vals s1 as μ1 H1 q1 S1 L1 r1 => oP_k q1 fun p ep q1 => oP_k q1 fun xs ex q1 => oP_k q1 fun ys ey q1 => bP_k q1 fun hn q1 => band_k hn fun hn1 hn2 =>
        vrs2 (two2_k ep ▸ r1) (m := fun vals => WP prog w A (call (.type "zip") ([] ++ vals)) (fun x s1 => WP prog w A (pyIter x) R s1) s1) fun v u rx ry => by
          rw [none0_k hn1] at ex; rw [none0_k hn2] at ey
          refine (iter_src (prog := prog) (T.fzb z.hB) S1 rx ex).elim fun o1 y1 => y1.elim fun P1 y1 => y1.elim fun Q1 y1 => (iter_src (prog := prog) (T.fzb z.hB) S1 ry ey).elim fun o2 y2 => y2.elim fun P2 y2 => y2.elim fun _ y2 => ?_
          refine callType_new F.called_zip (by decide) (F.typeCall_zip_2 _ _) (F.newCall_zip_2 _ _) (fun obj => F.args_object_init_3 obj _ _) F.entry_zip_new (meets_zip _ _ o1 o2 P1 P2 y1.new y2.new y1.fr) ⟨y1.p0, y2.p1 o1, ?_⟩
          have k2 : ∀ b o, (s1.heap.push o1).get? b = some o → (zH5 s1.heap o1 o2).get? b = some o := fun b o e => Heap.get?_push_of_some _ (Heap.get?_push_of_some _ (Heap.get?_push_of_some _ (Heap.get?_push_of_some _ e)))
          have kk : ∀ b o, s1.heap.get? b = some o → (zH5 s1.heap o1 o2).get? b = some o := fun b o e => k2 b o (Heap.get?_push_of_some _ e)
          have gz : IsZip (zH5 s1.heap o1 o2) ((zH3 s1.heap o1 o2).push { cls := .type "tuple", data := .seq #[.none, .none] }).objs.size _ _ .none := Heap.get?_push_size _ rfl
          have gT : IsPair (zH5 s1.heap o1 o2) ((s1.heap.push o1).push o2).objs.size (.ref s1.heap.objs.size) (.ref (s1.heap.push o1).objs.size) := Heap.get?_push_of_some _ (Heap.get?_push_of_some _ (Heap.get?_push_size _ rfl))
          have g1 : (zH5 s1.heap o1 o2).get? s1.heap.objs.size = some o1 := k2 _ _ (Heap.get?_push_size _ y1.fr)
          have hlt : s1.heap.objs.size < ((zH3 s1.heap o1 o2).push { cls := .type "tuple", data := .seq #[.none, .none] }).objs.size := by simp only [zH3, Heap.size_push]; omega
          have x := S1.grow (h' := zH5 s1.heap o1 o2) (tk := s1.toks) kk
          have hn : s1.heap.get? ((zH3 s1.heap o1 o2).push { cls := .type "tuple", data := .seq #[.none, .none] }).objs.size = none := Heap.get?_none_of_le (Nat.le_of_lt hlt)
          exact ⟨⟨_, gz, rfl⟩, wpAny_pyIter_zip gz (k _ _ _ _ _ _ _ _ q1 x.1 (L1.trans x.2) (iter_zip (y1.en _) (Ne.symm (Nat.ne_of_lt hlt))) (fun b e => none_of_alive L1.alive (e.elim (fun e => e ▸ hn) fun e => e ▸ size_none _))
            ⟨ito_fresh (tk := s1.toks) S1 hn ⟨_, _, gz, rfl⟩, ito_fresh (tk := s1.toks) S1 (size_none _) (y1.fs.imp' (fun _ => o1) fun fs e => ⟨fs, g1, e⟩), gz, gT, y1.q0 kk (rx.mono (fun _ _ e => e) (x.2.tk S1)) g1⟩)⟩))
end
section
variable {prog : Program} {w : World} {cls : Cls} {B B0 : Base} {μ μ₀ μ' μ'' : Mu} {H H' : AH} {s s₀ s' s'' : Shared} {h h' : Heap} {A : Around} {F : Frz} {K : Frag} {N : Nam} {Γ : Gam} {n : Nat} {env : Env} {nm : List PySem.Str} {vs vs' : Vars} {X J : Addr → Prop} {P : Mu → Shared → Nat → Prop} {chk : AH → Prop} {xs : List AV} {I : Addr}

theorem folded_no {e : PySem.Expr} (h : notSet e = true) (env : Env) (x : Value) : foldedSetIterable e env x = pure x := by
  revert h
  induction e using PySem.Expr.casesOn with
  | Set => exact bf
  | _ => exact fun _ => rfl
theorem let_go {target : PySem.Expr} {I : Addr} {v : Value} {Q : Unit → Shared → Prop} (o : NoOwn s I) (q : Q () s) : WP prog w A (letOwnedTupleGo target (.ref I) v) Q s := by
  obtain ⟨ob, fs, ho, hd, T, hc, hT⟩ := o
  have main : ∀ a : Addr, WP prog w A (do
      let o ← load I
      match o.cls, o.data with
      | .type n, .fields vs =>
        if (["enumerate", "zip", "dict_itemiterator", "dict_reverseitemiterator", "odict_iterator", "itertools.zip_longest", "itertools.pairwise"].contains n && vs[0]? == some (rawInt a)) = true then do
          rule "for.unpacks-the-owned-tuple"
          updateField I 0 .none
        else pure ()
      | _, _ => pure ()) Q s := by
    intro a
    refine wpAny_bind (wpAny_load ho ?_)
    rw [hc, hd]
    dsimp only
    rw [show (["enumerate", "zip", "dict_itemiterator", "dict_reverseitemiterator", "odict_iterator", "itertools.zip_longest", "itertools.pairwise"].contains T) = false from hT]
    rw [Bool.false_and, if_neg (by decide)]
    exact wpAny_pure q
  induction target using PySem.Expr.casesOn with
  | Tuple => cases v <;> first | exact main _ | exact wpAny_pure q
  | List => cases v <;> first | exact main _ | exact wpAny_pure q
  | _ => exact wpAny_pure q
theorem get_drop {α : Type} {l : List α} {i : Nat} {a : α} (e : l[i]? = some a) : l.drop i = a :: l.drop (i + 1) :=
  (List.getElem?_eq_some_iff.mp e).elim fun hl e => e ▸ List.drop_eq_getElem_cons hl
theorem forL_chk {chk : AH → Prop} {step : AV → Vars → AH → K2 → Prop} : ∀ {l : List AV} {Q : K2}, forL chk step l vs H Q → chk H
  | [], _, x => x.1
  | _ :: _, _, x => x.1
inductive LpI (X : Addr → Prop) (w : World) (cls : Cls) (B : Base) (env : Env) (nm : List PySem.Str) (μ₀ : Mu) (s₀ : Shared) (P : Mu → Shared → Nat → Prop) (E : Mu → Prop) (xs : List AV) (q : List AV → Vars → AH → Prop) (m : Nat) (s' : Shared) : Prop
  | mk (i : Nat) (vs' : Vars) (μ' : Mu) (H' : AH) (hm : m = xs.length + 1 - i) (z : Now X w cls B env nm vs' μ₀ s₀ μ' H' s') (p : P μ' s' i) (e : E μ') (q : q (xs.drop i) vs' H')
theorem loop_step {E : Mu → Prop} {step : AV → Vars → AH → K2 → Prop} {Q : K2} {m d u : Nat} {R : Option Value → Shared → Prop} (It : IterOk prog w cls B I xs chk J P) (hA : AOk A d u) (hO : ∀ a, Own env a → ¬ J a) (hF : ∀ b, J b → s₀.heap.get? b = none)
    (y : LpI X w cls B env nm μ₀ s₀ P E xs (fun l vs H => forL chk step l vs H Q) m s)
    (g1 : ∀ b v s4 i vs3 μ3 H3, Now X w cls B env nm vs3 μ₀ s₀ μ3 H3 s4 → NoOwn s4 I → P μ3 s4 (i + 1) → E μ3 → VR μ3 s4.heap b v → step b vs3 H3 (kSeq (forL chk step (xs.drop (i + 1))) Q) →
      (∀ vs' μ' H' s', Now X w cls B env nm vs' μ₀ s₀ μ' H' s' → P μ' s' (i + 1) → E μ' → forL chk step (xs.drop (i + 1)) vs' H' Q → ∃ m', m' < m ∧ LpI X w cls B env nm μ₀ s₀ P E xs (fun l vs H => forL chk step l vs H Q) m' s') → R (some v) s4)
    (g2 : ∀ s4 vs3 μ3 H3, Now X w cls B env nm vs3 μ₀ s₀ μ3 H3 s4 → E μ3 → Q .next vs3 H3 → R none s4) : WP prog w A (pyNext (.ref I)) R s :=
  y.casesOn fun i vs3 μ3 H3 hm z p e q => It.next hA hO hF z (forL_chk q) p
    (fun b v s4 hx rb z4 W4 p4 => have q' := (show forL chk step (b :: xs.drop (i + 1)) vs3 H3 Q from get_drop hx ▸ q).2
      g1 b v s4 i vs3 μ3 H3 z4 W4 p4 e rb q' fun vs' μ' H' s' z' p' e' q'' => ⟨xs.length + 1 - (i + 1), hm ▸ Nat.sub_lt_sub_left (Nat.lt_succ_of_lt (List.getElem?_eq_some_iff.mp hx).1) (Nat.lt_succ_self i), i + 1, vs', μ', H', rfl, z', p', e', q''⟩)
    fun s4 hx z4 => g2 s4 vs3 μ3 H3 z4 e (show forL chk step [] vs3 H3 Q from List.drop_of_length_le (List.getElem?_eq_none_iff.mp hx) ▸ q).2
theorem ex_for (T : Tx prog w N cls B0 K Γ n) {t : Tg} {it : IT} {b : CSs} (hI : EvI prog w N cls B0 Γ n it) (h1 : ExL prog w N cls B0 Γ n b) : ExS prog w N cls B0 Γ n (.forS t it b) := @fun B nm env vs A μ H s Q R st z hb q k =>
  i_for (m := fun st => WP prog w A (exec st env) R s) hb fun g ie body p htg hns hit hbd => wpAny_For (hI z hit q fun I xs chk J P μ2 H2 s2 q2 S2 L2 It hJ p2 => by
    have hO : ∀ a, Own env a → ¬ J a := fun a ha hj => (own_there z.Fr a ha).elim fun o ho => nos ((hJ a hj).symm.trans ho)
    refine codeAny_forLoop_any (LpI (Own env) w cls B env nm μ s P (fun _ => True) xs fun l vs H => forL chk (forStep (eSs Γ b) t) l vs H Q) (fun m s3 y => WP.any (loop_step It z.hA hO hJ y
      (fun bx v s4 i vs3 μ3 H3 z4 W4 p4 _ rb q4 again => WP.any (let_go W4 (oP_k q4 fun vs4 hset q4 => WP.any (assign_tg z.hA htg z.nd z4.S z4.Fr rb hset fun s5 S5 F5 L5 => WP.any (h1 (z.nextX S5 F5).mark hbd q4
        ⟨fun vs6 μ6 H6 s6 q6 S6 F6 L6 => again vs6 μ6 H6 s6 ⟨S6, F6, (z4.L.trans L5).trans L6⟩ (It.lex (fun a hj hx => hO a hx hj) (It.lex (fun a hj hx => hO a hx hj) p4 L5) L6) trivial q6,
          fun a v vs6 μ6 H6 s6 q6 S6 F6 L6 r6 => k.rt _ _ _ _ _ _ q6 S6 F6 ((z4.L.trans L5).trans L6) r6⟩)))))
      fun s4 vs3 μ3 H3 z4 _ q4 => wpAny_execs_nil (k.nx _ _ _ _ q4 z4.S z4.Fr z4.L))) (xs.length + 1) ⟨0, vs, μ2, H2, rfl, ⟨S2, z.Fr.le z.S L2, z.lex L2⟩, p2, trivial, q2⟩) fun x => folded_no hns env x
end
section
variable {prog : Program} {w : World} {cls : Cls} {B B0 : Base} {μ μ₀ μ' μ'' : Mu} {H H' : AH} {s s₀ s' s'' : Shared} {h h' : Heap} {A : Around} {F : Frz} {K : Frag} {N : Nam} {Γ : Gam} {n : Nat} {env : Env} {nm : List PySem.Str} {vs vs' : Vars} {X : Addr → Prop}

theorem assignEach_one {t : PySem.Expr} (h : notStar t = true) : assignEach [t] env = [(false, assign t env)] := by
  revert h
  induction t using PySem.Expr.casesOn with
  | Starred => exact bf
  | _ => exact fun _ => rfl
theorem Assign1 {t e : PySem.Expr} {p : Pos} {Q : Flow → Shared → Prop} (hs : swapsWith e (some t) p.line env = pure false) (hw : swappedStores [t] e env = pure none) (hstar : notStar t = true)
    (hh : WP prog w A (eval e env) (fun v s₁ => WP prog w A (assign t env v) (fun _ => Q .next) s₁) s) : WP prog w A (exec (.Assign [t] e p) env) Q s := by
  show wpAny _ _ _ _ _ _
  rw [PyProof.Rows.exec_Assign]
  refine wpAny_bind (wpAny_standAt ?_)
  rw [show swapsWithSole [t] e p.line env = pure false from hs]
  refine wpAny_bind (wpAny_pure ?_)
  rw [if_neg (by decide)]
  refine wpAny_bind (wpAny_mono hh (fun v s₁ h₁ => ?_) fun _ _ x => x)
  rw [hw, assignEach_one hstar]
  exact wpAny_bind (wpAny_pure (wpAny_bind (m := assignAll v [assign t env]) (wpAny_mono h₁ (fun _ _ x => wpAny_pure x) fun _ _ x => x)))
noncomputable def plainTg (t : PySem.Expr) : Bool := by
  induction t using PySem.Expr.casesOn with
  | List => exact false
  | Tuple => exact false
  | _ => exact true
theorem stores_none {t : PySem.Expr} (h : plainTg t = true) (e : PySem.Expr) : swappedStores [t] e env = pure none := by
  revert h
  induction t using PySem.Expr.casesOn with
  | List => exact bf
  | Tuple => exact bf
  | _ => exact fun _ => rfl
theorem swaps_attr {v : PySem.Expr} {x : PySem.Str} {p : Pos} (e : PySem.Expr) (l : Nat) : swapsWith e (some (.Attribute v x p)) l env = pure false := by
  induction e using PySem.Expr.casesOn with
  | _ => rfl
theorem swaps_sub {v j : PySem.Expr} {p : Pos} (e : PySem.Expr) (l : Nat) : swapsWith e (some (.Subscript v j p)) l env = pure false := by
  induction e using PySem.Expr.casesOn with
  | _ => rfl
theorem swaps_tup {es : List PySem.Expr} {k : Nat} {p : Pos} (e : PySem.Expr) (l : Nat) : swapsWith e (some (.Tuple es k p)) l env = pure false := by
  induction e using PySem.Expr.casesOn with
  | _ => rfl
theorem setAttr_k {o : AV} {x : PySem.Str} {v : AV} (e : setAttrA Γ o x v H = some H') {G : AH → Prop} (k : ∀ j c fs, vR o = some j → H[j]? = some (.inst c fs) → Γ.attrs c x = true → fs.length ≤ 100 → G (H.set j (.inst c (fput fs x v)))) : G H' :=
  ob_k e fun j ej e => ob_k e fun ob eo e => ob_k e fun p ep e => gB_k e fun hz e => band_k hz fun h1 h2 => Option.some.inj e ▸ k j p.1 p.2 ej (eo.trans (congrArg some (oI_k ep))) h1 (Nat.le_of_ble_eq_true h2)
theorem ex_attr (T : Tx prog w N cls B0 K Γ n) {o c : CE} {x : PySem.Str} (h1 : EvS prog w N cls B0 Γ n c) (h2 : EvS prog w N cls B0 Γ n o) : ExS prog w N cls B0 Γ n (.assign (.attr o x) c) := @fun B nm env vs A μ H s Q R st z hb q k =>
  i_asg (m := fun st => WP prog w A (exec st env) R s) hb fun g e p htg _ he => i_attr (N := N) (nm := nm) (sc := env.scope) (o := o) (x := x) (m := fun g => WP prog w A (exec (.Assign [g] e p) env) R s) htg fun ve ap hsu hv =>
    Assign1 (swaps_attr _ _) (stores_none rfl _) rfl (h1 z he q fun v s1 a1 μ1 H1 q1 S1 L1 r1 => by
      have z1 := z.next S1 L1
      show wpAny _ _ _ _ _ _
      rw [arm_assign_Attribute]
      exact wpAny_bind (wpAny_holding (h2 z1 hv q1 fun v2 s2 a2 μ2 H2 q2 S2 L2 r2 => wpAny_bind (wpAny_standAt (wpAny_bind (wpAny_holding (oP_k q2 fun H3 eH q3 => setAttr_k eH (G := fun H3 => Q .next vs H3 → WP prog w A (setAttr v2 x v) _ s2) (fun j c fs ej eo ha hz q3 =>
        setattr_sound S2 (T.kin S2 z.hB) r2 ej eo (T.attrs _ _ ha).1 (T.attrs _ _ ha).2 hz (r1.le S1 L2) fun s3 S3 L3 => wpAny_release (k.nx _ _ _ _ q3 S3 ((z1.Fr.le S1 L2).le S2 L3) (z.lex ((L1.trans L2).trans L3)))) q3)))))))

theorem setItem_list {l : Addr} {items : Array Value} {m j : Nat} {k : Int} {t : Tok} {v : Value} {Q : Unit → Shared → Prop} (hl : IsL s.heap l items m) (hs : smallI k = true) (e : seqIndex? k items.size = some j)
    (hQ : Q () { s with heap := s.heap.update l (Obj.mapSeq (·.setIfInBounds j v)) }) : WP prog w A (setItem (.ref l) (.int k t) v) Q s := by
  have hli := IsL.isList hl
  have hj := seqIndex_lt e
  have hx' : items[j]? = some items[j] := Array.getElem?_eq_getElem hj
  have hf := (Int.lt_or_le k 0).elim (fun h => fitsIndex_neg h (small_b hs).1) fun h => fitsIndex_of h (small_b hs).2
  clear hs
  show wpAny _ _ _ _ _ _
  unfold setItem
  try with_reducible refine wpAny_holding ?_
  first | refine wpAny_bind (wpAny_pure ?_) | skip
  refine wpAny_bind (wpAny_sequenceKey hli.typeIs (by decide) ?_)
  refine wpAny_bind (wpAny_callSpecial?_slot (name := Str.ofString "__setitem__") hli.typeIs slot_list_setitem
    (wpAny_call_entry slot_list_setitem hli.typeIs entry_list_setitem ?_ (args_list_setitem _ _ _)))
  show wpAny _ _ (Builtin.List.listSubscript? (.int k t) >>= _) _ _ s
  have fin : wpAny (model prog w) A.in1 (setSeqItemAt l j v >>= fun _ => pure (Fin.done (.ret .none))) (fun fin s' => ∃ v, fin = .done (.ret v) ∧ wpAny (model prog w) A (pure ()) Q F0 s') F0 s :=
    wpAny_bind (wpAny_setSeqItemAt hl rfl (wpAny_pure ⟨.none, rfl, wpAny_pure hQ⟩))
  refine wpAny_bind (wpAny_listSubscript_int hf ?_)
  clear hf
  cases k with
  | ofNat n =>
    have en : n = j := seqIndex_k e (fun _ h _ => h) fun h => absurd h (Int.not_lt.mpr (Int.natCast_nonneg n))
    show wpAny _ _ ((seqItemAt l n >>= fun r => pure (r.map (n, ·))) >>= _) _ _ s
    refine wpAny_bind (wpAny_bind (wpAny_seqItemAt hl rfl (wpAny_pure ?_)))
    rw [en, hx']
    exact fin
  | negSucc n =>
    show wpAny _ _ ((Builtin.List.listItems (.ref l) >>= fun xs => pure ((seqIndex? (Int.negSucc n) xs.size).bind fun i => xs[i]?.map (i, ·))) >>= _) _ _ s
    refine wpAny_bind (wpAny_bind ?_)
    show wpAny _ _ (seqItems? (.ref l) >>= _) _ _ s
    refine wpAny_bind (wpAny_seqItems hl rfl (wpAny_pure (wpAny_pure ?_)))
    rw [show ((seqIndex? (Int.negSucc n) items.size).bind fun i => items[i]?.map (i, ·)) = some (j, items[j]) by rw [e, Option.bind_some, hx']; rfl]
    exact fin
theorem VRs.set {μ : Mu} {h : Heap} {b : AV} {u : Value} (rb : VR μ h b u) {as : List AV} {vs : List Value} (r : VRs μ h as vs) : ∀ i : Nat, VRs μ h (as.set i b) (vs.set i u) :=
  r.ind (P := fun as vs => ∀ i : Nat, VRs μ h (as.set i b) (vs.set i u)) (fun _ => .nil) fun a v as vs x r ih i => by
    cases i with
    | zero => exact .cons rb r
    | succ i => exact .cons x (ih i)
theorem setItem_k {o i v : AV} (e : setItemA o i v H = some H') {G : AH → Prop} (g1 : ∀ j k n q xs, vR o = some j → vD i = some k → pInt k = some n → hL H j = some xs → smallI n = true → seqIndex? n xs.length = some q → G (H.set j (.list (xs.set q v))))
    (g2 : ∀ j k es, vR o = some j → vD i = some k → H[j]? = some (.dict es) → keyOk es k = true → es.length ≤ room → G (H.set j (.dict (dput es k v)))) : G H' := by
  refine ob_k e fun j ej e => ob_k e fun k ek e => ob_k e fun ob eo e => ?_
  induction ob using AO.casesOn with
  | list xs => exact ob_k e fun n en e => gB_k e fun hz e => band_k hz fun h1 _ => om_k e fun q eq e => e ▸ g1 j k n q xs ej ek en (hL_of eo) h1 eq
  | dict es => exact gB_k e fun hz e => band_k hz fun h1 h2 => Option.some.inj e ▸ g2 j k es ej ek eo h1 (Nat.le_of_ble_eq_true h2)
  | inst _ _ => exact nos e
theorem setitem_list_sound {x : AV} {j q : Nat} {n : Int} {k : PyData} {c : AV} {a b v : Value} {xs : List AV} (S : SR w cls B μ H s.heap) (rk : Reads s.heap a k []) (en : pInt k = some n) (ry : VR μ s.heap x b) (ex : vR x = some j) (ey : hL H j = some xs) (hs : smallI n = true)
    (eq : seqIndex? n xs.length = some q) (rc : VR μ s.heap c v) {Q : Unit → Shared → Prop} (k : ∀ s', SR w cls B μ (H.set j (.list (xs.set q c))) s'.heap → Le μ s μ s' → Q () s') : WP prog w A (setItem b a v) Q s :=
  list_m S ry ex ey (m := fun b => WP prog w A (setItem b a v) Q s) fun l vals m hμ hl rv => (VR.py (μ := μ) rk).int_m en (m := fun a => WP prog w A (setItem (.ref l) a v) Q s) fun t =>
    have y := S.setList (vs' := vals.setIfInBounds q v) (xs' := xs.set q c) (tk := s.toks) (lt_of_get (hL_k ey)) hμ (Obj.mapSeq (·.setIfInBounds q v)) ⟨_, IsL.update hl (·.setIfInBounds q v)⟩ (by rw [Array.toList_setIfInBounds]; exact rv.set rc _)
    setItem_list hl hs (by rw [rv.size]; exact eq) (k _ y.1 y.2)
theorem ex_item (T : Tx prog w N cls B0 K Γ n) {o i c : CE} (h1 : EvS prog w N cls B0 Γ n c) (h2 : EvS prog w N cls B0 Γ n o) (h3 : EvS prog w N cls B0 Γ n i) : ExS prog w N cls B0 Γ n (.assign (.sub o i) c) := @fun B nm env vs A μ H s Q R st z hb q k =>
  i_asg (m := fun st => WP prog w A (exec st env) R s) hb fun g e p htg _ he => asSubscript_m (m := fun g => WP prog w A (exec (.Assign [g] e p) env) R s) htg fun ve ie ap htg => band_k htg fun _ htg => band_k htg fun hv hi =>
    Assign1 (swaps_sub _ _) (stores_none rfl _) rfl (h1 z he q fun v s1 a1 μ1 H1 q1 S1 L1 r1 => by
      have z1 := z.next S1 L1
      show wpAny _ _ _ _ _ _
      rw [arm_assign_Subscript]
      refine wpAny_bind (wpAny_holding (h2 z1 hv q1 fun v2 s2 a2 μ2 H2 q2 S2 L2 r2 => wpAny_bind (wpAny_holding (h3 (z1.next S2 L2) hi q2 fun v3 s3 a3 μ3 H3 q3 S3 L3 r3 => wpAny_bind (wpAny_standAt (wpAny_bind (wpAny_holding ?_)))))))
      have fin : ∀ {H4 : AH}, Q .next vs H4 → ∀ s4, SR w cls B μ3 H4 s4.heap → Le μ3 s3 μ3 s4 → R .next s4 := fun q s4 S4 L4 => k.nx _ _ _ _ q S4 (((z1.Fr.le S1 L2).le S2 L3).le S3 L4) (z.lex (((L1.trans L2).trans L3).trans L4))
      have rc := (r1.le S1 L2).le S2 L3
      have ro := r2.le S2 L3
      exact oP_k q3 fun H4 eH q4 => setItem_k eH (G := fun H4 => Q .next vs H4 → WP prog w A (setItem v2 v3 v) _ s3)
        (fun j kk n qq xs ej ek en exs hs eq q4 => setitem_list_sound S3 (r3.dat ek) en ro ej exs hs eq rc fun s4 S4 L4 => wpAny_release (fin q4 s4 S4 L4))
        (fun j kk es ej ek eo hk hz q4 => setitem_dict_sound S3 z.ok0 (r3.dat ek) ro ej eo hk rc hz fun s4 S4 L4 => wpAny_release (fin q4 s4 S4 L4)) q4)
end
section
section
variable (prog : Program) (w : World) (N : Nam) (cls : Cls) (B0 : Base) (Γ : Gam) (n : Nat)
noncomputable abbrev ExC (i : Nat) (c : CE) : Prop := ∀ {B : Base} {nm : List PySem.Str} {env : Env} {vs : Vars} {A : Around} {μ : Mu} {H : AH} {s : Shared} {Q : K2} {R : Flow → Shared → Prop} {x : PySem.Str} {p p' : Pos} {e : PySem.Expr}, noComp e = false → nm[i]? = some x → isVar env.scope x = true → At w cls B0 n B nm env vs A μ H s → bE N nm env.scope c e = true →
  eE Γ c vs H (kAsg (.one i) vs Q) → RetX w cls B env nm μ s Q R → WP prog w A (exec (.Assign [.Name x p] e p') env) R s
end
variable {prog : Program} {w : World} {cls : Cls} {B B0 : Base} {μ μ₀ μ' μ'' : Mu} {H H' : AH} {s s₀ s' s'' : Shared} {h h' : Heap} {A : Around} {F : Frz} {K : Frag} {N : Nam} {Γ : Gam} {n : Nat} {env : Env} {nm : List PySem.Str} {vs vs' : Vars} {X : Addr → Prop}
theorem asg_tg {t : Tg} {Q : K2} {R : Flow → Shared → Prop} {g : PySem.Expr} (z : At w cls B0 n B nm env vs A μ H s) (htg : tgOk t nm env.scope g = true) (k : RetX w cls B env nm μ s Q R) : Ret w cls B μ s (kAsg t vs Q) fun v s1 => WP prog w A (assign g env v) (fun _ => R .next) s1 :=
  fun v s1 a1 μ1 H1 q1 S1 L1 r1 => oP_k q1 fun vs1 hs q1 => assign_tg z.hA htg z.nd S1 (z.Fr.le z.S L1) r1 hs fun s2 S2 F2 L2 => k.nx _ _ _ _ q1 S2 F2 ((z.lex L1).trans L2)
theorem ex_name {i : Nat} {c : CE} (h1 : EvS prog w N cls B0 Γ n c) (hC : ExC prog w N cls B0 Γ n i c) : ExS prog w N cls B0 Γ n (.assign (.tg (.one i)) c) := @fun B nm env vs A μ H s Q R st z hb q k =>
  i_asg (m := fun st => WP prog w A (exec st env) R s) hb fun g e p htg _ he => i_nm1 (m := fun g => tgOk (.one i) nm env.scope g = true → WP prog w A (exec (.Assign [g] e p) env) R s) htg (fun x px e1 hd htg => by
    cases hnc : noComp e with
    | false => exact hC hnc e1 hd z he q k
    | true => exact Assign1 (swaps_no hnc _ _ _) (stores_none rfl _) rfl (h1 z he q (asg_tg z htg k))) htg
theorem ex_tup_plain {l : List Nat} {c : CE} {es : List PySem.Expr} {j : Nat} {pt p : Pos} {e : PySem.Expr} {Q : K2} {R : Flow → Shared → Prop} (h1 : EvS prog w N cls B0 Γ n c) (z : At w cls B0 n B nm env vs A μ H s) (htg : namesOk nm env.scope l es = true) (he : bE N nm env.scope c e = true)
    (q : eE Γ c vs H (kAsg (.tup l) vs Q)) (k : RetX w cls B env nm μ s Q R) (hw : swappedStores [.Tuple es j pt] e env = pure none) :
    WP prog w A (exec (.Assign [.Tuple es j pt] e p) env) R s := Assign1 (swaps_tup _ _) hw rfl (h1 z he q (asg_tg z (show tgOk (.tup l) nm env.scope (.Tuple es j pt) = true from htg) k))
end
theorem setVars_keep : ∀ {l : List Nat} {as : List AV} {vs vs' : Vars}, setVars l as vs = some vs' → vs'.length = vs.length
  | [], as, vs, vs', h => gB_k h fun _ h => Option.some.inj h ▸ rfl
  | _ :: _, as, vs, vs', h => setVars_k h (G := fun _ => vs'.length = vs.length) fun _ _ _ h => (setVars_keep h).trans (List.length_set ..)
theorem setVars_comm {i : Nat} {a : AV} : ∀ {l : List Nat} {as : List AV} {vs : Vars}, i ∉ l → setVars l as (vs.set i (some a)) = (setVars l as vs).map (·.set i (some a))
  | [], as, vs, _ => by cases as <;> rfl
  | _ :: _, [], _, _ => rfl
  | j :: l, b :: as, vs, h => by
    show gB (Nat.blt j (vs.set i (some a)).length) _ = (gB (Nat.blt j vs.length) _).map _
    rw [List.length_set, List.set_comm (i := i) (j := j) _ _ (fun z => h (List.mem_cons.mpr (.inl z))), setVars_comm fun z => h (List.mem_cons_of_mem _ z)]
    cases Nat.blt j vs.length <;> rfl
theorem setVars_snoc {i : Nat} {a : AV} : ∀ {l : List Nat} {as : List AV} {vs : Vars}, l.length = as.length → setVars (l ++ [i]) (as ++ [a]) vs = (setVars l as vs).bind fun v => gB (Nat.blt i v.length) (some (v.set i (some a)))
  | [], [], vs, _ => rfl
  | [], _ :: _, _, h => nomatch h
  | _ :: _, [], _, h => nomatch h
  | j :: l, b :: as, vs, h => by
    show gB (Nat.blt j vs.length) (setVars (l ++ [i]) (as ++ [a]) _) = (gB (Nat.blt j vs.length) _).bind _
    rw [setVars_snoc (Nat.succ.inj h)]
    cases Nat.blt j vs.length <;> rfl
theorem setVars_rev : ∀ {l : List Nat} {as : List AV} {vs : Vars}, l.Nodup → l.length = as.length → setVars l.reverse as.reverse vs = setVars l as vs
  | [], [], vs, _, _ => rfl
  | [], _ :: _, _, _, h => nomatch h
  | _ :: _, [], _, _, h => nomatch h
  | i :: l, a :: as, vs, hn, h => by
    have hn := List.nodup_cons.mp hn
    have hl : l.length = as.length := Nat.succ.inj h
    rw [List.reverse_cons, List.reverse_cons, setVars_snoc (by rw [List.length_reverse, List.length_reverse]; exact hl), setVars_rev hn.2 hl]
    show _ = gB (Nat.blt i vs.length) (setVars l as (vs.set i (some a)))
    rw [setVars_comm hn.1]
    cases e : setVars l as vs with
    | none => cases Nat.blt i vs.length <;> rfl
    | some v => show gB (Nat.blt i v.length) _ = _; rw [setVars_keep e]; rfl
section
variable {prog : Program} {w : World} {cls : Cls} {B B0 : Base} {μ μ₀ μ' μ'' : Mu} {H H' : AH} {s s₀ s' s'' : Shared} {h h' : Heap} {A : Around} {F : Frz} {N : Nam} {Γ : Gam} {n : Nat} {env : Env} {nm : List PySem.Str} {vs vs' : Vars}
noncomputable def NamesAt (nm : List PySem.Str) (sc : Scope) (l : List Nat) (names : List PySem.Str) : Prop := l.length = names.length ∧ ∀ (k : Nat) (i : Nat) (x : PySem.Str), l[k]? = some i → names[k]? = some x → nm[i]? = some x ∧ isVar sc x = true
theorem NamesAt.rev {l : List Nat} {names : List PySem.Str} {sc : Scope} (h : NamesAt nm sc l names) : NamesAt nm sc l.reverse names.reverse :=
  ⟨by rw [List.length_reverse, List.length_reverse]; exact h.1, fun k i x h1 h2 => by
    have hk : k < l.length := List.length_reverse ▸ (List.getElem?_eq_some_iff.mp h1).1
    rw [List.getElem?_reverse hk] at h1
    rw [List.getElem?_reverse (h.1 ▸ hk), ← h.1] at h2
    exact h.2 _ _ _ h1 h2⟩
theorem bind_all : ∀ {l : List Nat} {names : List PySem.Str} {as : List AV} {vals : List Value} {vs vs' : Vars} {s : Shared} {R : Unit → Shared → Prop}, NamesAt nm env.scope l names → nm.Nodup → SR w cls B μ H s.heap → FR B env nm vs μ s.heap → VRs μ s.heap as vals → setVars l as vs = some vs' →
    RetS (Own env) w cls B env nm μ H s vs' R → WP prog w A (assignInOrder (names.map fun x => bindName env x) vals) R s
  | [], [], as, vals, vs, vs', s, R, _, hn, S, Fr, r, e, k => gB_k e fun h e => vrs0 (none0_k h ▸ r) (m := fun vals => WP prog w A (assignInOrder [] vals) R s) (wpAny_pure (k s S (Option.some.inj e ▸ Fr) LeX.refl))
  | [], _ :: _, _, _, _, _, _, _, hl, _, _, _, _, _, _ => nomatch hl.1
  | _ :: _, [], _, _, _, _, _, _, hl, _, _, _, _, _, _ => nomatch hl.1
  | i :: l, x :: names, as, vals, vs, vs', s, R, hok, hn, S, Fr, r, e, k => setVars_k e (G := fun as => VRs μ s.heap as vals → WP prog w A (assignInOrder ((x :: names).map fun x => bindName env x) vals) R s) (fun a as' _ e r => by
      cases r with
      | cons r1 r2 =>
        have y := hok.2 0 i x rfl rfl
        exact wpAny_bind (wpAny_holding (PyProof.Rows.bindName_ (store_var PlX.own S Fr y.1 y.2 hn r1 fun s1 S1 F1 L1 => bind_all ⟨Nat.succ.inj hok.1, fun k j y h1 h2 => hok.2 (k + 1) j y h1 h2⟩ hn S1 F1 (r2.lex L1) e fun s2 S2 F2 L2 => k s2 S2 F2 (L1.trans L2))))) r
end
section
variable {env : Env}
set_option tactic.hygienic true in
theorem swapped_res {ts : List PySem.Expr} {k : Nat} {pt : Pos} {e : PySem.Expr} (hc : plainT e = true) :
    swappedStores [.Tuple ts k pt] e env = pure none ∨ ∃ f : PySem.Expr → Option PySem.Str, (∀ x y, f x = some y → ∃ p, x = .Name y p) ∧ (ts.filterMap f).length = ts.length ∧ swappedStores [.Tuple ts k pt] e env = pure (some (ts.filterMap f)) := by
  revert hc
  induction e using PySem.Expr.casesOn with
  | Tuple es k' p' =>
    intro hc
    have h0 : es.all (constantsAlone 8) = false ∨ es.all (foldedForSure 8) = true := (Bool.or_eq_true_iff.mp hc).imp_left fun h => Bool.not_eq_true' _ ▸ h
    unfold swappedStores
    simp only []
    split
    · exact .inl rfl
    · split
      · exact .inl rfl
      · split
        · exact .inl rfl
        · rename_i hlen
          split
          · exact .inl rfl
          · rename_i hfold
            rw [h0.resolve_right hfold]
            refine .inr ⟨_, ?_, ?_, rfl⟩
            · intro x y hxy
              split at hxy
              · split at hxy
                · cases hxy; exact ⟨_, rfl⟩
                · cases hxy
              · cases hxy
            · simp only [Bool.or_eq_true, bne_iff_ne, ne_eq, not_or, Decidable.not_not] at hlen
              exact hlen.1
  | _ => exact fun _ => .inl rfl
end
section
variable {prog : Program} {w : World} {cls : Cls} {B B0 : Base} {μ μ₀ μ' μ'' : Mu} {H H' : AH} {s s₀ s' s'' : Shared} {h h' : Heap} {A : Around} {F : Frz} {K : Frag} {N : Nam} {Γ : Gam} {n : Nat} {env : Env} {nm : List PySem.Str} {vs vs' : Vars}
theorem names_of {f : PySem.Expr → Option PySem.Str} (hf : ∀ x y, f x = some y → ∃ p, x = .Name y p) : ∀ {l : List Nat} {ts : List PySem.Expr} {sc : Scope}, namesOk nm sc l ts = true → (ts.filterMap f).length = ts.length → NamesAt nm sc l (ts.filterMap f)
  | [], ts, _, h, _ => none0_k h ▸ ⟨rfl, fun k i x h => nomatch h⟩
  | _ :: _, [], _, h, _ => bf h
  | i :: l, t :: ts, sc, h, hl => band_k h fun h1 h2 => i_nm1 (m := fun t => ((t :: ts).filterMap f).length = (t :: ts).length → NamesAt nm sc (i :: l) ((t :: ts).filterMap f)) h1 (fun x p e1 hd hl => by
    cases hx : f (.Name x p) with
    | none => rw [List.filterMap_cons, hx] at hl; exact absurd (List.length_filterMap_le f ts) (Nat.not_le_of_lt (hl ▸ Nat.lt_succ_self _))
    | some y =>
      rw [List.filterMap_cons, hx] at hl ⊢
      have ih := names_of hf h2 (Nat.succ.inj hl)
      refine ⟨congrArg (· + 1) ih.1, fun k j y' hj hy => ?_⟩
      cases k with
      | zero => exact (hf _ _ hx).elim fun p' e => Option.some.inj hj ▸ Option.some.inj hy ▸ (PySem.Expr.Name.inj e).1 ▸ ⟨e1, hd⟩
      | succ k => exact ih.2 k j y' hj hy) hl
theorem ex_tup {l : List Nat} {c : CE} (h1 : EvS prog w N cls B0 Γ n c) {es : List PySem.Expr} {j : Nat} {pt p : Pos} {e : PySem.Expr} {Q : K2} {R : Flow → Shared → Prop} (z : At w cls B0 n B nm env vs A μ H s) (htg : namesOk nm env.scope l es = true) (hnd : l.Nodup) (hc : plainT e = true)
    (he : bE N nm env.scope c e = true) (q : eE Γ c vs H (kAsg (.tup l) vs Q)) (k : RetX w cls B env nm μ s Q R) : WP prog w A (exec (.Assign [.Tuple es j pt] e p) env) R s :=
  (swapped_res (env := env) (ts := es) (k := j) (pt := pt) hc).elim (ex_tup_plain h1 z htg he q k) fun y => y.elim fun f y => by
    have na := names_of y.1 htg y.2.1
    have hsw : swapsWithSole [.Tuple es j pt] e p.line env = pure false := swaps_tup (env := env) (es := es) (k := j) (p := pt) e p.line
    refine Assign_Tuple_swapped (h1 z he q fun v s1 a1 μ1 H1 q1 S1 L1 r1 => oP_k q1 fun vs1 hs q1 => ob_k hs fun xs ex hsv => r1.tup_m ex (m := fun v => WP prog w A (unpackItems v (es.filterMap f).length none) _ s1) fun ta vals ht rv => ?_) hsw y.2.2
    have hll := setVars_len hsv
    rw [show (es.filterMap f).length = vals.size by rw [rv.size, ← hll, na.1]]
    refine wpAny_unpackItems_tuple z.hA.handled ht fun h' hx => ?_
    have x := S1.grow (h' := h') (tk := s1.toks) fun b o eb => hx b o (Nat.ne_of_lt (Heap.lt_size eb)) eb
    exact bind_all (s := { s1 with heap := h', toks := s1.toks }) na.rev z.nd x.1 ((z.Fr.le z.S L1).le S1 x.2) (rv.mono (fun _ _ e => e) (x.2.tk S1)).reverse (by rw [setVars_rev hnd hll]; exact hsv) fun s3 S3 F3 L3 => k.nx _ _ _ _ q1 S3 F3 ((z.lex (L1.trans x.2)).trans L3)
end
section
variable {w : World} {cls : Cls} {B : Base} {μ μ' : Mu} {H : AH} {s s' : Shared} {env : Env} {nm : List PySem.Str} {vs : Vars}
theorem look_cons {α β : Type} [BEq α] [LawfulBEq α] {x y : α} {b : β} {l : List (α × β)} {m : Option β → Prop} (h1 : x = y → m (some b)) (h2 : m (l.lookup x)) : m (((y, b) :: l).lookup x) := by
  rw [List.lookup_cons]
  cases h : x == y with
  | true => exact h1 (beq_iff_eq.mp h)
  | false => exact h2
theorem lookup_mem {α β : Type} [BEq α] [LawfulBEq α] {x : α} {b : β} : ∀ {l : List (α × β)}, l.lookup x = some b → (x, b) ∈ l
  | [], h => nos h
  | (y, c) :: r, h => look_cons (x := x) (y := y) (b := c) (l := r) (m := fun o => o = some b → (x, b) ∈ (y, c) :: r) (fun e h => e ▸ Option.some.inj h ▸ List.mem_cons_self) (fun h => List.mem_cons_of_mem _ (lookup_mem h)) h
theorem look_head {α β : Type} [BEq α] [LawfulBEq α] {x : α} {b : β} {l : List (α × β)} : ((x, b) :: l).lookup x = some b := by rw [List.lookup_cons, beq_self_eq_true]
theorem lookup_map {f : PySem.Str × NameKind → PySem.Str × NameKind} {g : PySem.Str → NameKind → NameKind} (hf : ∀ n k, f (n, k) = (n, g n k)) {x : PySem.Str} : ∀ {l : List (PySem.Str × NameKind)}, (l.map f).lookup x = (l.lookup x).map (g x)
  | [] => rfl
  | (n, k) :: r => by
    rw [List.map_cons, hf, List.lookup_cons, List.lookup_cons]
    cases h : x == n with
    | true => exact beq_iff_eq.mp h ▸ rfl
    | false => exact lookup_map hf
noncomputable def closeL (env : Env) : List (PySem.Str × NameKind) → List (PySem.Str × Addr) → List (PySem.Str × Addr)
  | [], cs => cs
  | p :: r, cs => cond (p.2 == .free) (closeL env r ((p.1, (env.cells.lookup p.1).getD 0) :: cs)) (closeL env r cs)
theorem closure_loop (f : PySem.Str × NameKind → List (PySem.Str × Addr) → Sem (ForInStep (List (PySem.Str × Addr)))) (hf : ∀ x k cs, f (x, k) cs = cond (k == .free) (cellOf env x >>= fun a => pure (.yield ((x, a) :: cs))) (pure (.yield cs))) :
    ∀ (names : List (PySem.Str × NameKind)) (cs : List (PySem.Str × Addr)), (∀ x, (x, NameKind.free) ∈ names → ∃ c, env.cells.lookup x = some c) → forIn names cs f = pure (closeL env names cs)
  | [], cs, _ => by rw [List.forIn_nil]; rfl
  | (x, k) :: r, cs, hc => by
    have hr := fun y hy => hc y (List.mem_cons_of_mem (x, k) hy)
    rw [List.forIn_cons, hf]
    show _ = pure (cond (k == .free) _ _)
    cases hk : k == NameKind.free with
    | true =>
      refine (hc x (beq_iff_eq.mp hk ▸ List.mem_cons_self)).elim fun c ec => ?_
      rw [show cellOf env x = pure c by unfold cellOf; rw [ec]]
      exact (closure_loop f hf r ((x, c) :: cs) hr).trans (by rw [show env.cells.lookup ((x, k) : PySem.Str × NameKind).1 = some c from ec]; rfl)
    | false => exact closure_loop f hf r cs hr
theorem closure_eq {scope : Scope} (hc : ∀ x, (x, NameKind.free) ∈ scope.names → ∃ c, env.cells.lookup x = some c) : closureFor scope env = pure (closeL env scope.names []) := by
  simp only [closureFor]
  rw [closure_loop (env := env) _ (fun x k cs => by cases hk : k == NameKind.free <;> simp [hk]) scope.names [] hc]
  rfl
theorem closeL_in {x : PySem.Str} {c : Addr} : ∀ {names : List (PySem.Str × NameKind)} {cs : List (PySem.Str × Addr)}, (∀ x, (x, NameKind.free) ∈ names → ∃ c, env.cells.lookup x = some c) → (cs.lookup x = some c → env.cells.lookup x = some c) → (closeL env names cs).lookup x = some c → env.cells.lookup x = some c
  | [], cs, _, h => h
  | (y, k) :: r, cs, hc, h => by
    have hr := fun z hz => hc z (List.mem_cons_of_mem (y, k) hz)
    show (cond (k == .free) _ _ : List (PySem.Str × Addr)).lookup x = _ → _
    cases hk : k == NameKind.free with
    | true => exact (hc y (beq_iff_eq.mp hk ▸ List.mem_cons_self)).elim fun d ed => closeL_in hr (look_cons (m := fun o => o = some c → env.cells.lookup x = some c) (fun e h => by rw [e, ed, ← h, show env.cells.lookup ((y, k) : PySem.Str × NameKind).1 = some d from ed]; rfl) h)
    | false => exact closeL_in hr h
theorem closeL_keep {x : PySem.Str} : ∀ {names : List (PySem.Str × NameKind)} {cs : List (PySem.Str × Addr)}, (∃ c, cs.lookup x = some c) → ∃ c, (closeL env names cs).lookup x = some c
  | [], cs, h => h
  | (y, k) :: r, cs, h => by
    show ∃ c, (cond (k == .free) _ _ : List (PySem.Str × Addr)).lookup x = some c
    cases k == NameKind.free with
    | true => exact closeL_keep (look_cons (m := fun o => ∃ c, o = some c) (fun _ => ⟨_, rfl⟩) h)
    | false => exact closeL_keep h
theorem closeL_mem {x : PySem.Str} : ∀ {names : List (PySem.Str × NameKind)} {cs : List (PySem.Str × Addr)}, (x, NameKind.free) ∈ names → ∃ c, (closeL env names cs).lookup x = some c
  | [], cs, h => nomatch h
  | (y, k) :: r, cs, h => (List.mem_cons.mp h).elim (fun e => by
      rw [← e]
      exact closeL_keep (cs := (x, _) :: cs) ⟨_, look_head⟩) fun h => by
    show ∃ c, (cond (k == .free) _ _ : List (PySem.Str × Addr)).lookup x = some c
    cases k == NameKind.free with
    | true => exact closeL_mem h
    | false => exact closeL_mem h
structure ScOk (scope sc : Scope) : Prop where
  k1 : scope.kind = .function
  k2 : sc.kind = .function
  nc : ∀ x ∈ scope.names, x.2 ≠ .cell
  nl : ∀ x ∈ scope.names, x.2 = .local → scope.names.lookup x.1 = some .local
  nf : ∀ x, (x, NameKind.free) ∈ scope.names → sc.names.lookup x = some .cell
theorem sc_get {scope sc : Scope} (h : scOk scope sc = true) : ScOk scope sc := band_k h fun h1 h2 => band_k h1 fun h1 h3 =>
  have y := List.all_eq_true.mp h2
  ⟨beq_iff_eq.mp h1, beq_iff_eq.mp h3, fun x hx => band_k (y x hx) fun z _ => band_k z fun z _ => bne_iff_ne.mp z, fun x hx hl => band_k (y x hx) fun z _ => band_k z fun _ z => (Bool.or_eq_true_iff.mp z).elim (fun z => absurd hl (bne_iff_ne.mp z)) beq_iff_eq.mp,
    fun x hx => band_k (y _ hx) fun _ z => (Bool.or_eq_true_iff.mp z).elim (fun z => absurd rfl (bne_iff_ne.mp z)) beq_iff_eq.mp⟩
noncomputable def relK (env : Env) (n : PySem.Str) (k : NameKind) : NameKind := cond (k == .free && env.scope.kind == .function && env.kindOf n == some .cell) .cell k
theorem relabel_look {scope : Scope} {x : PySem.Str} : (relabel scope env).names.lookup x = (scope.names.lookup x).map (relK env x) := lookup_map (g := relK env) fun n k => by
  show (if (k == .free && env.scope.kind == .function && env.kindOf n == some .cell) = true then (n, NameKind.cell) else (n, k)) = (n, cond _ _ _)
  cases (k == .free && env.scope.kind == .function && env.kindOf n == some .cell) <;> rfl
theorem relabel_free {scope : Scope} {x : PySem.Str} (hk : env.scope.kind = .function) (hx : scope.names.lookup x = some .free) (he : env.kindOf x = some .cell) : (relabel scope env).names.lookup x = some .cell := by
  rw [relabel_look, hx, Option.map_some, relK, hk, he]; rfl
theorem relabel_cell {scope : Scope} {x : PySem.Str} (hno : ∀ y ∈ scope.names, y.2 ≠ .cell) (hx : (relabel scope env).names.lookup x = some .cell) : (x, NameKind.free) ∈ scope.names := by
  rw [relabel_look] at hx
  refine om_k hx fun k ek e => ?_
  have hm := lookup_mem ek
  revert e
  show cond _ _ _ = _ → _
  cases h : (k == .free && env.scope.kind == .function && env.kindOf x == some .cell) with
  | true => exact fun _ => band_k h fun h _ => band_k h fun h _ => beq_iff_eq.mp h ▸ hm
  | false => exact fun e => absurd e (hno _ hm)
theorem capVars_k {caps : List Nat} {k i : Nat} {a : AV} (e : (capVars caps vs k)[i]? = some (some a)) {G : Prop} (q : ∀ j, caps[i]? = some j → vs[j]? = some (some a) → G) : G := by
  have e : (caps.map (fun i => (vs[i]?).join) ++ List.replicate k none)[i]? = some (some a) := e
  by_cases hi : i < caps.length
  · rw [List.getElem?_append_left (by rw [List.length_map]; exact hi), List.getElem?_map] at e
    exact om_k e fun j hj e => q j hj (Option.join_eq_some_iff.mp e)
  · rw [List.getElem?_append_right (by rw [List.length_map]; exact Nat.le_of_not_lt hi)] at e
    exact nos (List.eq_of_mem_replicate (List.mem_of_getElem? e)).symm
theorem caps_k {caps : List Nat} {scope : Scope} {i j : Nat} {x : PySem.Str} (hc : capsOk caps nm scope = true) (ej : caps[i]? = some j) (e1 : (capNm caps nm)[i]? = some x) : nm[j]? = some x ∧ scope.names.lookup x = some .free := by
  rw [capNm, List.getElem?_map, ej] at e1
  exact oB_m (m := fun o => o.getD ("" : PySem.Str) = x → o = some x ∧ scope.names.lookup x = some .free) (List.all_eq_true.mp hc j (List.mem_of_getElem? ej)) (fun y hy e => e ▸ ⟨rfl, beq_iff_eq.mp hy⟩) (Option.some.inj e1)
noncomputable abbrev cEnv (scope : Scope) (C : Addr) (env : Env) : Env := compEnvC scope (closeL env scope.names []) C env
theorem cell_in {scope : Scope} {C : Addr} {h : Heap} (Fr : FR B env nm vs μ h) (y : ScOk scope env.scope) {x : PySem.Str} {c : Addr} (e : (cEnv scope C env).cells.lookup x = some c) : env.cells.lookup x = some c := closeL_in (cs := []) (fun x hx => Fr.has x (y.nf x hx)) (fun e => nos e) e
theorem comp_frame {scope : Scope} {caps : List Nat} {tn : List PySem.Str} {C : Addr} (S : SR w cls B μ H s.heap) (Fr : FR B env nm vs μ s.heap) (y : ScOk scope env.scope) (hc : capsOk caps nm scope = true) (hC : s.heap.get? C = none) (L : Le μ s μ' s') (hns : s'.heap.Ns C (fun _ => none)) (hoff : Off μ' C) (hB : B C = none) :
    FR B (cEnv scope C env) (capNm caps nm ++ tn) (capVars caps vs tn.length) μ' s'.heap :=
  have F' := Fr.le S L
  { kind := y.k1, globals := F'.globals, builtins := F'.builtins
    len := by rw [capVars, capNm, List.length_append, List.length_append, List.length_map, List.length_map, List.length_replicate]
    ns := ⟨_, hns, fun i x a e1 e2 => capVars_k e2 fun j ej ev => by
      rw [List.getElem?_append_left (by rw [capNm, List.length_map]; exact (List.getElem?_eq_some_iff.mp ej).1)] at e1
      have n := caps_k hc ej e1
      have hm := lookup_mem n.2
      have hcell : env.kindOf x = some .cell := y.nf x hm
      exact F'.ns.elim fun m z => (z.2 j x a n.1 ev).imp fun v r => ⟨r.1, .inr (r.2.elim (fun u => nomatch u.1.symm.trans hcell) fun u => ⟨relabel_free y.k2 n.2 hcell, (closeL_mem (env := env) (cs := []) hm).elim fun c' ec' => u.2.elim fun c u => ⟨c', ec', Option.some.inj (u.1.symm.trans (cell_in (C := C) Fr y ec')) ▸ u.2⟩⟩)⟩⟩
    offL := hoff, newL := hB
    cell := fun x c e => have z := F'.cell x c (cell_in (C := C) Fr y e); ⟨z.1, z.2.1, z.2.2.1, fun h => (Fr.cell x c (cell_in (C := C) Fr y e)).1.elim fun v u => u.elim fun o u => nos (hC.symm.trans ((show c = C from h) ▸ u.1))⟩
    apart := fun x z c e1 e2 => F'.apart x z c (cell_in (C := C) Fr y e1) (cell_in (C := C) Fr y e2)
    has := fun x hx => closeL_mem (relabel_cell y.nc hx) }
end
section
variable {prog : Program} {w : World} {cls : Cls} {B B0 : Base} {μ μ₀ μ' μ'' : Mu} {H H' : AH} {s s₀ s' s'' : Shared} {h h' : Heap} {A : Around} {N : Nam} {Γ : Gam} {n : Nat} {env : Env} {nm : List PySem.Str} {vs vs' : Vars} {J : Addr → Prop} {P : Mu → Shared → Nat → Prop} {chk : AH → Prop} {xs : List AV} {I : Addr}
noncomputable def onx (R : Shared → Prop) (T : Value → Shared → Prop) (o : Option Value) : Shared → Prop := match o with
  | none => R
  | some v => T v
noncomputable def agn (R : Result → Shared → Prop) (c : Code) (G : Shared → Prop) (f : PySem.Fin) (s : Shared) : Prop := match f with
  | .done f => R (.ok f) s
  | .again c' => c' = c ∧ G s
section
variable {R : Result → Shared → Prop} {acc : Value} {x t : PySem.Expr} {gs : List Comprehension} {sc : Scope} {pos : Pos} {d : Nat} {p : Pos} {T : Sem PySem.Fin}
theorem comp_turns (ht : compTurn (.ListComp x gs sc pos) d (.ref I) acc env = (standAt p >>= fun _ => pyNext (.ref I) >>= fun r => match r with | none => pure (.done .next) | some v => letOwnedTupleGo t (.ref I) v >>= fun _ => assign t env v >>= fun _ => T))
    (J : Nat → Shared → Prop) (turn : ∀ k s, J k s → WP prog w A (pyNext (.ref I)) (onx (R (.ok .next)) fun v s₁ => WP prog w A (letOwnedTupleGo t (.ref I) v) (fun _ s₁ => WP prog w A (assign t env v) (fun _ s₂ => WP prog w A T (agn R (.compLoop (.ListComp x gs sc pos) d (.ref I) acc env) fun s => ∃ m, m < k ∧ J m s) s₂) s₁) s₁) s)
    (k : Nat) (h : J k s) : codeAny (model prog w) A (.compLoop (.ListComp x gs sc pos) d (.ref I) acc env) R s := by
  refine codeAny_loop rfl J (fun k s hJ => wpAny_mono (Q := agn R (.compLoop (.ListComp x gs sc pos) d (.ref I) acc env) fun s => ∃ m, m < k ∧ J m s) ?_ (fun f s z => by cases f <;> exact z) fun _ _ x => x) k h
  show wpAny _ A ((compTurn (.ListComp x gs sc pos) d (.ref I) acc env).onRaise (fun x => do noteFrame x env; theTreesLotGoes x)) _ _ s
  refine wpAny_noted ?_
  rw [ht]
  refine wpAny_bind (wpAny_standAt (wpAny_bind (wpAny_mono (turn k s hJ) (fun r s₁ h₁ => ?_) fun _ _ f => f.elim)))
  cases r with
  | none => exact wpAny_pure h₁
  | some v => exact wpAny_bind (wpAny_mono h₁ (fun _ s₂ h₂ => wpAny_bind (wpAny_mono h₂ (fun _ s₃ h₃ => WP.any h₃) fun _ _ f => f.elim)) fun _ _ f => f.elim)
theorem comp_loop {st : Vars → AH → K2 → Prop} {tg : Tg} {j : Nat} {D : Addr} {Kq : K2} (ht : compTurn (.ListComp x gs sc pos) d (.ref I) acc env = (standAt p >>= fun _ => pyNext (.ref I) >>= fun r => match r with | none => pure (.done .next) | some v => letOwnedTupleGo t (.ref I) v >>= fun _ => assign t env v >>= fun _ => T))
    (It : IterOk prog w cls B I xs chk J P) (hA : AOk A (2 * n + 1) (100 * n + 75)) (hO : ∀ a, Own env a → ¬ J a) (hF : ∀ b, J b → s₀.heap.get? b = none) (nd : nm.Nodup) (hX : ∀ i ∈ tgIx tg, ∀ x, nm[i]? = some x → PlX (· = env.locals) env x) (htg : tgOk tg nm env.scope t = true)
    (z : Now (· = env.locals) w cls B env nm vs μ₀ s₀ μ H s) (p0 : P μ s 0) (hD : μ[j]? = some (D, D)) (q : forL chk (forStep st tg) xs vs H Kq)
    (fin : ∀ vs' μ' H' s', Kq .next vs' H' → Now (· = env.locals) w cls B env nm vs' μ₀ s₀ μ' H' s' → μ'[j]? = some (D, D) → R (.ok .next) s')
    (body : ∀ {vs : Vars} {μ : Mu} {H : AH} {s : Shared} {G : Shared → Prop} {Kn : K2}, SR w cls B μ H s.heap → FR B env nm vs μ s.heap → μ[j]? = some (D, D) → st vs H Kn →
      (∀ vs' μ' H' s', Kn .next vs' H' → SR w cls B μ' H' s'.heap → FR B env nm vs' μ' s'.heap → LeX (· = env.locals) μ s μ' s' → G s') → WP prog w A T (agn R (.compLoop (.ListComp x gs sc pos) d (.ref I) acc env) G) s) :
    codeAny (model prog w) A (.compLoop (.ListComp x gs sc pos) d (.ref I) acc env) R s :=
  have hJ : ∀ a, J a → ¬ a = env.locals := fun a hj hx => hO a (.inl hx) hj
  comp_turns ht (LpI (· = env.locals) w cls B env nm μ₀ s₀ P (fun μ => μ[j]? = some (D, D)) xs fun l vs H => forL chk (forStep st tg) l vs H Kq)
    (fun m s3 y => loop_step It hA hO hF y
      (fun bx v s4 i vs3 μ3 H3 z4 W4 p4 e4 rb q4 again => let_go W4 (oP_k q4 fun vs4 hset q4 => assign_tgX hX hA htg nd z4.S z4.Fr rb hset fun s5 S5 F5 L5 => body S5 F5 e4 q4 fun vs6 μ6 H6 s6 q6 S6 F6 L6 =>
        again vs6 μ6 H6 s6 ⟨S6, F6, (z4.L.trans L5).trans L6⟩ (It.lex hJ (It.lex hJ p4 L5) L6) (L6.mu _ _ e4) q6))
      fun s4 vs3 μ3 H3 z4 e4 q4 => fin _ _ _ _ q4 z4 e4) (xs.length + 1) ⟨0, vs, μ, H, rfl, z, p0, hD, q⟩
end
noncomputable abbrev testsM (ifs : List PySem.Expr) (env : Env) : Sem Bool := forIn ifs true fun c r => if r = true then do let ok ← isTrue c env (eval c env); pure (ForInStep.yield ok) else pure (ForInStep.yield r)
section
variable (prog : Program) (w : World) (N : Nam) (cls : Cls) (B0 : Base) (Γ : Gam) (n : Nat)
noncomputable abbrev EvQ (cs : CEs) : Prop := ∀ {B : Base} {nm : List PySem.Str} {env : Env} {vs : Vars} {A : Around} {μ : Mu} {H : AH} {s : Shared} {Q : KB} {R : Bool → Shared → Prop} {l : List PySem.Expr}, At w cls B0 n B nm env vs A μ H s → bEs N nm env.scope cs l = true →
  eTests Γ cs vs H Q → RetT w cls B μ s Q R → WP prog w A (testsM l env) R s
end
theorem evQ_nil : EvQ prog w N cls B0 Γ n .nil := @fun B nm env vs A μ H s Q R l z hb q k => i_esnil (m := fun l => WP prog w A (testsM l env) R s) hb (wpAny_tests_nil (k _ _ _ _ q z.S (Le.refl ..)))
theorem evQ_cons {c : CE} {cs : CEs} (h1 : EvT prog w N cls B0 Γ n c) : EvQ prog w N cls B0 Γ n (.cons c cs) := @fun B nm env vs A μ H s Q R l z hb q k => bP_k q fun hn q => by
  cases cs with
  | nil => exact i_escons (m := fun l => WP prog w A (testsM l env) R s) hb fun e r _ he hr => i_esnil (m := fun r => WP prog w A (testsM (e :: r) env) R s) hr (wpAny_tests_one (h1 z he q k))
  | cons _ _ => exact bf hn
theorem append_at {j : Nat} {D : Addr} {v : Value} {a : AV} {H2 : AH} {Q : Value → Shared → Prop} (S : SR w cls B μ H s.heap) (hD : μ[j]? = some (D, D)) (r : VR μ s.heap a v) (e : appendAt j a H = some H2) (q : ∀ x s' μ', SR w cls B μ' H2 s'.heap → Le μ s μ' s' → Q x s') :
    WP prog w A (call (.builtin "list.append") [.ref D, v]) Q s :=
  ob_k e fun ys ey e => gB_k e fun hz e => append_call (K := fun _ H' => H' = H2) S (VR.ref (p := (D, D)) hD) (x := .ref j) rfl ey r hz (Option.some.inj e) fun _ _ _ _ _ q' S' L' _ => q _ _ _ (q' ▸ S') L'
end
section
variable {prog : Program} {w : World} {cls : Cls} {B B0 : Base} {μ μ₀ μ' μ'' : Mu} {H H' : AH} {s s₀ s' s'' : Shared} {h h' : Heap} {A : Around} {N : Nam} {Γ : Gam} {n : Nat} {env : Env} {nm : List PySem.Str} {vs vs' : Vars}
theorem elt_at {c : CE} {e : PySem.Expr} {j : Nat} {D : Addr} {Kn : K2} {T : Sem PySem.Fin} {R : PySem.Fin → Shared → Prop} (h1 : EvS prog w N cls B0 Γ n c) (z : At w cls B0 n B nm env vs A μ H s) (he : bE N nm env.scope c e = true) (hD : μ[j]? = some (D, D)) (q : eE Γ c vs H (kApp j vs Kn))
    (k : ∀ μ' H' s', Kn .next vs H' → SR w cls B μ' H' s'.heap → Le μ s μ' s' → WP prog w A T R s') : WP prog w A ((eval e env >>= fun x => call (.builtin "list.append") [.ref D, x] >>= fun _ => pure ()) >>= fun _ => T) R s :=
  wpAny_bind (wpAny_bind (h1 z he q fun v s1 a μ1 H1 q1 S1 L1 r1 => wpAny_bind (oP_k q1 fun H2 e2 q2 => append_at S1 (L1.mu _ _ hD) r1 e2 fun x s2 μ2 S2 L2 => wpAny_pure (k _ _ _ q2 S2 (L1.trans L2)))))
theorem nodupB_ok : ∀ {l : List PySem.Str}, nodupB l = true → l.Nodup
  | [], _ => List.nodup_nil
  | x :: r, h => band_k h fun h1 h2 => List.nodup_cons.mpr ⟨fun hm => bf ((Bool.not_eq_true' _ ▸ h1 : r.contains x = false).symm.trans (List.contains_iff_mem.mpr hm)), nodupB_ok h2⟩
theorem tgAt_ge {tg : Tg} {m i : Nat} (h : tgAt tg m = true) (hi : i ∈ tgIx tg) : m ≤ i := by
  cases tg with
  | one j => exact List.mem_singleton.mp hi ▸ Nat.le_of_eq (beq_iff_eq.mp h).symm
  | tup l => exact (List.mem_map.mp ((beq_iff_eq.mp h : l = (List.range l.length).map (· + m)).subst (motive := fun l' => i ∈ l') hi)).elim fun k z => (show k + m = i from z.2) ▸ Nat.le_add_left m k
theorem names_len {sc : Scope} : ∀ {l : List Nat} {es : List PySem.Expr}, namesOk nm sc l es = true → es.length = l.length
  | [], _, h => none0_k h ▸ rfl
  | _ :: _, [], h => bf h
  | _ :: _, _ :: _, h => band_k h fun _ h => congrArg (· + 1) (names_len h)
theorem tg_len {tg : Tg} {sc : Scope} {t : PySem.Expr} (h : tgOk tg nm sc t = true) : (tgNames t).length = tgN tg := by
  cases tg with
  | one j => exact i_nm1 (m := fun t => (tgNames t).length = 1) h fun _ _ _ _ => rfl
  | tup l => exact i_tgtup (m := fun t => (tgNames t).length = l.length) h fun es k p h => (List.length_map ..).trans (names_len h)
theorem comp_pl {scope : Scope} {C : Addr} {caps : List Nat} {tn : List PySem.Str} {i : Nat} {x : PySem.Str} (hi : caps.length ≤ i) (htn : tn.all (fun x => scope.names.lookup x == some .local) = true) (e : (capNm caps nm ++ tn)[i]? = some x) : PlX (· = C) (cEnv scope C env) x := by
  rw [List.getElem?_append_right (by rw [capNm, List.length_map]; exact hi)] at e
  have hl : (cEnv scope C env).kindOf x = some .local := lookup_relabel_local (beq_iff_eq.mp (List.all_eq_true.mp htn x (List.mem_of_getElem? e)))
  exact ⟨fun _ => rfl, fun z => nomatch hl.symm.trans z⟩
structure CIn (prog : Program) (w : World) (cls : Cls) (B : Base) (env : Env) (nm : List PySem.Str) (vs : Vars) (μ : Mu) (s : Shared) (C D I : Addr) (xs : List AV) (chk : AH → Prop) (J : Addr → Prop) (P : Mu → Shared → Nat → Prop) (μ' : Mu) (H' : AH) (s' : Shared) : Prop where
  z : Now (· = C) w cls B env nm vs μ s μ' (H' ++ [.list []]) s'
  It : IterOk prog w cls B I xs chk J P
  p : P μ' s' 0
  hF : ∀ b, J b → s.heap.get? b = none
  hO : ∀ a, Own env a → ¬ J a
  hD : μ'[H'.length]? = some (D, D)
  hC : s.heap.get? C = none
  hB : B C = none
theorem comp_in {scope : Scope} {caps : List Nat} {tn : List PySem.Str} {C D I : Addr} {xs : List AV} {chk : AH → Prop} {J : Addr → Prop} {P : Mu → Shared → Nat → Prop} {μ3 : Mu} {H2 : AH} {s3 : Shared} (Fr : FR B env nm vs μ s.heap) (S : SR w cls B μ H s.heap) (y : ScOk scope env.scope) (hc : capsOk caps nm scope = true)
    (S2 : SR w cls B μ' H2 s'.heap) (L2 : Le μ s μ' s') (It : IterOk prog w cls B I xs chk J P) (hJ : ∀ b, J b → s.heap.get? b = none) (p : P μ' s' 0) (S3 : SR w cls B μ3 (H2 ++ [.list []]) s3.heap) (L3 : Le μ' s' μ3 s3) (hD : μ3[H2.length]? = some (D, D))
    (hC : s3.heap.get? C = none) (k : ∀ b o, s3.heap.get? b = some o → h'.get? b = some o) (hns : h'.Ns C (fun _ => none)) :
    CIn prog w cls B (cEnv scope C env) (capNm caps nm ++ tn) (capVars caps vs tn.length) μ s C D I xs chk J P μ3 H2 { s3 with heap := h', toks := s3.toks } :=
  have x4 := S3.grow (tk := s3.toks) k
  have hC2 : s'.heap.get? C = none := none_of_alive L3.alive hC
  have hJC : ∀ a, J a → ¬ a = C := fun a hj e => (It.own p a hj).obj.elim fun o u => u.elim fun _ u => nos (hC2.symm.trans (e ▸ u.1))
  have off : Off μ3 C := fun hm => (S3.turns hm).elim fun q u => nos (hC.symm.trans u.1)
  { z := ⟨x4.1, comp_frame (s' := { s3 with heap := h', toks := s3.toks }) S3 ((Fr.le S L2).le S2 L3) y hc hC x4.2 hns off (base_none S3 hC), (LeX.of L2 S).trans (LeX.of (L3.trans x4.2) S2)⟩
    It := It, p := It.lex (X := (· = C)) hJC p (LeX.of (L3.trans x4.2) S2), hF := hJ
    hO := fun a ha hj => ha.elim (hJC a hj) fun e => e.elim fun x e => (Fr.cell x a (cell_in (C := C) Fr y e)).1.elim fun v u => u.elim fun o u => nos ((hJ a hj).symm.trans u.1)
    hD := hD, hC := none_of_alive L2.alive hC2, hB := base_none S3 hC }
theorem new_at (S : SR w cls B μ H h) {p : Addr × Addr} : (μ ++ [p])[H.length]? = some p := by
  rw [List.getElem?_append_right (S.len ▸ Nat.le_refl _), S.len, Nat.sub_self]; rfl
theorem comp_enter {caps : List Nat} {tn : List PySem.Str} {it : IT} (hI : EvI prog w N cls B0 Γ n it) {x t i : PySem.Expr} {cs : List PySem.Expr} {gs : List Comprehension} {scope : Scope} {pos px : Pos} {use : Option (Value → Sem Unit)} {Qc : Value → Shared → Prop} {Q2 : KI}
    (z : At w cls B0 n B nm env vs A μ H s) (y : ScOk scope env.scope) (hns : notSet i = true) (hc : capsOk caps nm scope = true) (hit : bIT N nm env.scope it i = true) (q : eIT Γ it vs H Q2)
    (loop : ∀ (C D I : Addr) xs chk J P μ' H2 s', Q2 xs chk H2 → CIn prog w cls B (cEnv scope C env) (capNm caps nm ++ tn) (capVars caps vs tn.length) μ s C D I xs chk J P μ' H2 s' →
      codeAny (model prog w) A (.compLoop (.ListComp x (⟨t, i, cs, 0⟩ :: gs) scope pos) 0 (.ref I) (.ref D) (cEnv scope C env)) (compPost (model prog w) A F0 use Qc (.ref D) C) s') :
    WP prog w A (comprehension (.ListComp x (⟨t, i, cs, 0⟩ :: gs) scope pos) scope env px (newList []) false (eval i env) use) Qc s :=
  wpAny_comprehension_free rfl (fun v => folded_no hns env v) (closure_eq fun x hx => z.Fr.has x (y.nf x hx)) y.k1 y.nl (hI z hit q fun I xs chk J P μ2 H2 s2 q2 S2 L2 It hJ p2 => by
    have x3 := S2.newList (tk := s2.toks) (VRs.nil (μ := μ2) (h := s2.heap))
    have hC3 := size_none (s2.heap.push { cls := .type "list", data := .seq ([] : List Value).toArray })
    exact wpAny_newObj_type (wpAny_newFunctionEnv y.nc (fun _ hy => nomatch hy) (fun h₁ hns₁ hsb₁ => by
      have c := comp_in (tn := tn) z.Fr z.S y hc S2 L2 It hJ p2 x3.1 x3.2.1 (new_at S2) hC3 (fun b o e => (hsb₁.2 b fun u => nos (hC3.symm.trans (u ▸ e))).trans (Heap.get?_push_of_some _ e)) hns₁
      have lp := loop _ _ _ _ _ _ _ _ _ _ q2 c
      exact codeAny_compStart_list lp (It.self c.p lp)) y.k1))
structure Cpl (w : World) (cls : Cls) (B : Base) (μ : Mu) (s : Shared) (C : Addr) (μ' : Mu) (H' : AH) (s' : Shared) : Prop where
  S : SR w cls B μ' H' s'.heap
  L : Le μ s μ' s'
  new : s.heap.get? C = none
  off : Off μ' C
  nb : B C = none
  ns : ∃ m, s'.heap.Ns C m
noncomputable def RetC (prog : Program) (w : World) (cls : Cls) (A : Around) (B : Base) (μ : Mu) (s : Shared) (Q : K1) (use : Option (Value → Sem Unit)) (Qc : Value → Shared → Prop) : Prop :=
  ∀ C D j μ' H' s', Q (.ref j) H' → Cpl w cls B μ s C μ' H' s' → μ'[j]? = some (D, D) → compPost (model prog w) A F0 use Qc (.ref D) C (.ok .next) s'
theorem RetC.fin {Q : K1} {use : Option (Value → Sem Unit)} {Qc : Value → Shared → Prop} {C D : Addr} {j : Nat} {scope : Scope} (k : RetC prog w cls A B μ s Q use Qc) (hC : s.heap.get? C = none) (hB : B C = none) : ∀ vs' μ' H' s', Q (.ref j) H' → Now (· = C) w cls B (cEnv scope C env) nm vs' μ s μ' H' s' → μ'[j]? = some (D, D) →
    compPost (model prog w) A F0 use Qc (.ref D) C (.ok .next) s' := fun _ _ _ _ q z hD => k C D j _ _ _ q ⟨z.S, z.L.le fun a ha => ha ▸ hC, hC, z.Fr.offL, hB, z.Fr.ns.imp fun m u => u.1⟩ hD
noncomputable abbrev FullC (prog : Program) (w : World) (cls : Cls) (A : Around) (B : Base) (env : Env) (μ : Mu) (s : Shared) (Q : K1) (e i : PySem.Expr) (scope : Scope) : Prop := ∀ (px : Pos) (use : Option (Value → Sem Unit)) (Qc : Value → Shared → Prop),
  RetC prog w cls A B μ s Q use Qc → WP prog w A (comprehension e scope env px (newList []) false (eval i env) use) Qc s
theorem comp_full {caps : List Nat} {elt : CE} {tg : Tg} {it : IT} {ifs : CEs} (hI : EvI prog w N cls B0 Γ n it) (hE : EvS prog w N cls B0 Γ n elt) (hT : EvQ prog w N cls B0 Γ n ifs) {x t i : PySem.Expr} {cs : List PySem.Expr} {scope : Scope} {pos : Pos} {Q : K1}
    (z : At w cls B0 n B nm env vs A μ H s) (hc : comOk caps nm env.scope scope tg t i = true) (hit : bIT N nm env.scope it i = true) (hif : bEs N (capNm caps nm ++ tgNames t) (relabelS scope env.scope) ifs cs = true) (hel : bE N (capNm caps nm ++ tgNames t) (relabelS scope env.scope) elt x = true) (q : eE Γ (.comp caps elt tg it ifs) vs H Q) :
    FullC prog w cls A B env μ s Q (.ListComp x [⟨t, i, cs, 0⟩] scope pos) i scope := fun px use Qc k =>
  band_k hc fun h1 h5 => band_k h1 fun h1 h2 => band_k h1 fun hcaps hsc => band_k h2 fun hns hnd => band_k h5 fun h5 htg => band_k h5 fun hat hloc =>
    comp_enter (tn := tgNames t) hI z (sc_get hsc) hns hcaps hit q fun C D I xs chk J P μ' H2 s' q2 c =>
      comp_loop (compTurn_list ..) c.It z.hA c.hO c.hF (nodupB_ok hnd) (fun j hj x e => comp_pl (tgAt_ge hat hj) hloc e) htg c.z c.p c.hD (tg_len htg ▸ q2) (k.fin c.hC c.hB) fun S F hD q again =>
        have z' : At w cls B0 n B _ _ _ A _ _ _ := ⟨z.hB, nodupB_ok hnd, S, F, z.hA⟩
        wpAny_bind (hT z' hif q fun b s6 μ6 H6 q6 S6 L6 => by
          cases b with
          | false => exact wpAny_pure ⟨rfl, again _ _ _ _ q6 S6 (F.le S L6) (LeX.of L6 S)⟩
          | true => exact elt_at hE (z'.next S6 L6) hel (L6.mu _ _ hD) q6 fun μ7 H7 s7 q7 S7 L7 => wpAny_pure ⟨rfl, again _ _ _ _ q7 S7 (F.le S (L6.trans L7)) (LeX.of (L6.trans L7) S)⟩)
end
section
variable {prog : Program} {w : World} {cls : Cls} {B B0 : Base} {μ μ₀ μ' μ'' : Mu} {H H' : AH} {s s₀ s' s'' : Shared} {h h' : Heap} {A : Around} {N : Nam} {Γ : Gam} {n : Nat} {env : Env} {nm : List PySem.Str} {vs vs' : Vars}
theorem off_turn {C : Addr} {od : Obj} (S : SR w cls B μ H s.heap) (hod : s.heap.get? C = some od) (ht : ∀ vs n, od.cls = .type "tuple" → od.data ≠ .seq vs n) (hpl : od.data ≠ .plain) (off : Off μ C) (new : B C = none) (hs : Heap.SameBut C s.heap h') : SR w cls B μ H h' ∧ TK s.heap h' :=
  have k : ∀ b o, s.heap.get? b = some o → b ≠ C → h'.get? b = some o := fun b o e n => (hs.2 b n).trans e
  have tk' : TK s.heap h' := fun b o vs n e c q => k b o e fun z => have eq := Option.some.inj ((z ▸ e : s.heap.get? C = some o).symm.trans hod); ht vs n (eq ▸ c) (eq ▸ q)
  ⟨⟨S.len, S.nodup, fun j o p ej ep => by
    have hp : p.2 ≠ C := fun z => off (z ▸ List.mem_map_of_mem (List.mem_of_getElem? ep))
    have y := S.obj j o p ej ep
    refine y.mono_ne (fun _ _ e => e) tk' (fun y e => k _ y e hp) fun q e => ?_
    induction o using AO.casesOn with
    | list xs => rw [y.1] at e ⊢; exact k _ q e hp
    | dict xs => rw [y.1] at e ⊢; exact k _ q e hp
    | inst c fs => exact y.elim fun _ y => y.elim fun _ y => k _ _ e fun z => hpl (Option.some.inj ((z ▸ y.1).symm.trans hod) ▸ rfl), fun b o e => k b o (S.base b o e) (fun z => nos (new.symm.trans (z ▸ e))), S.new⟩, tk'⟩
theorem let_frame {C : Addr} (S : SR w cls B μ H s.heap) (off : Off μ C) (new : B C = none) (hns : ∃ m, s.heap.Ns C m) (hs : Heap.SameBut C s.heap h') : SR w cls B μ H h' ∧ TK s.heap h' :=
  hns.elim fun m u => u.elim fun od u => u.elim fun es u => u.elim fun ep u => off_turn S u.1 (fun _ _ _ z => nomatch u.2.1.symm.trans z) (fun z => nomatch u.2.1.symm.trans z) off new hs
theorem LeX.but {X : Addr → Prop} {C : Addr} {tk : Nat} (L : LeX X μ₀ s₀ μ s) (hC : s₀.heap.get? C = none) (hs : Heap.SameBut C s.heap h') (t : TK s.heap h') : LeX X μ₀ s₀ μ { s with heap := h', toks := tk } :=
  have kc : ∀ b o, s₀.heap.get? b = some o → b ≠ C := fun b o e z => nos (hC.symm.trans (z ▸ e))
  ⟨L.gens, L.drawn, L.os, L.ext, fun b o e n hx => (hs.2 b (kc b o e)).trans (L.keep b o e n hx), fun b o e => (L.alive b o e).imp fun o1 e1 => (hs.2 b (kc b o e)).trans e1, L.tk.trans t⟩
theorem fin_value {Q : K1} {R : Value → Shared → Prop} (k : Ret w cls B μ s Q R) : RetC prog w cls A B μ s Q none R := fun C D j μ' H' s' q c hD => c.ns.imp fun m hm => ⟨hm, fun h' hs =>
  have x := let_frame c.S c.off c.nb ⟨m, hm⟩ hs
  have kc : ∀ b o, s.heap.get? b = some o → h'.get? b = s'.heap.get? b := fun b o e => hs.2 b fun z => nos (c.new.symm.trans (z ▸ e))
  k _ _ _ _ _ q x.1 ⟨c.L.gens, c.L.drawn, c.L.os, c.L.ext, fun b o e n => (kc b o e).trans (c.L.keep b o e n), fun b o e => (c.L.alive b o e).imp fun o1 e1 => (kc b o e).trans e1⟩ (.ref (p := (D, D)) hD)⟩
theorem fin_store {i : Nat} {x : PySem.Str} {p : Pos} {Q : K2} {R : Flow → Shared → Prop} (z : At w cls B0 n B nm env vs A μ H s) (e1 : nm[i]? = some x) (hd : isVar env.scope x = true) (k : RetX w cls B env nm μ s Q R) :
    RetC prog w cls A B μ s (kAsg (.one i) vs Q) (some (assign (.Name x p) env)) fun _ s' => R .next s' := fun C D j μ' H' s' q c hD =>
  have hO : ∀ a, Own env a → a ≠ C := fun a ha e => (own_there z.Fr a ha).elim fun o ho => nos (c.new.symm.trans (e ▸ ho))
  oP_k q fun vs1 hs q => assign_tg (t := .one i) z.hA (show nm1 nm env.scope i (.Name x p) = true from Bool.and_eq_true_iff.mpr ⟨decide_eq_true e1, hd⟩) z.nd c.S (z.Fr.le z.S c.L) (.ref (p := (D, D)) hD) hs fun s2 S2 F2 L2 =>
    c.ns.elim fun m hm => ⟨m, Ns.to hm fun o ho => L2.keep C o ho c.off fun hx => hO C hx rfl, fun h' hs =>
      have x := let_frame S2 c.off c.nb ⟨m, Ns.to hm fun o ho => L2.keep C o ho c.off fun hx => hO C hx rfl⟩ hs
      k.nx _ _ _ { s2 with heap := h', toks := s2.toks } q x.1 (F2.keep (fun b o ho e => (hs.2 b (hO b ho)).trans e) x.2) (((z.lex c.L).trans L2).but c.new hs x.2)⟩
section
variable {x t i : PySem.Expr} {cs : List PySem.Expr} {gs : List Comprehension} {scope : Scope} {pos : Pos}
theorem full_value {Q : K1} {R : Value → Shared → Prop} (h : FullC prog w cls A B env μ s Q (.ListComp x (⟨t, i, cs, 0⟩ :: gs) scope pos) i scope) (k : Ret w cls B μ s Q R) : WP prog w A (eval (.ListComp x (⟨t, i, cs, 0⟩ :: gs) scope pos) env) R s := by
  rw [eval_ListComp]
  exact h _ none _ (fin_value k)
theorem full_store {k : Nat} {y : PySem.Str} {p p' : Pos} {Q : K2} {R : Flow → Shared → Prop} (z : At w cls B0 n B nm env vs A μ H s) (e1 : nm[k]? = some y) (hd : isVar env.scope y = true) (h : FullC prog w cls A B env μ s (kAsg (.one k) vs Q) (.ListComp x (⟨t, i, cs, 0⟩ :: gs) scope pos) i scope)
    (r : RetX w cls B env nm μ s Q R) : WP prog w A (exec (.Assign [.Name y p] (.ListComp x (⟨t, i, cs, 0⟩ :: gs) scope pos) p') env) R s := by
  have hsw : ∃ b, swapsWith (.ListComp x (⟨t, i, cs, 0⟩ :: gs) scope pos) (some (.Name y p)) p'.line env = pure b := ⟨_, rfl⟩
  refine hsw.elim fun b hsw => ?_
  cases b with
  | false => exact Assign1 hsw (stores_none rfl _) rfl (full_value h (asg_tg z (show nm1 nm env.scope k (.Name y p) = true from Bool.and_eq_true_iff.mpr ⟨decide_eq_true e1, hd⟩) r))
  | true =>
    show wpAny _ _ _ _ _ _
    rw [exec_Assign_Name_used _ _ _ _ hsw]
    refine wpAny_bind (wpAny_standAt (wpAny_bind ?_))
    show wpAny _ A (do let _ ← comprehension (.ListComp x (⟨t, i, cs, 0⟩ :: gs) scope pos) scope env _ (newList []) false (eval i env) (some (assign (.Name y p) env))) _ _ s
    exact wpAny_bind (wpAny_mono (h _ (some (assign (.Name y p) env)) _ (fin_store z e1 hd r)) (fun _ s' hq => wpAny_pure (wpAny_pure hq)) fun _ _ f => f)
end
theorem ev_comp {caps : List Nat} {elt : CE} {tg : Tg} {it : IT} {ifs : CEs} (hI : EvI prog w N cls B0 Γ n it) (hE : EvS prog w N cls B0 Γ n elt) (hT : EvQ prog w N cls B0 Γ n ifs) : EvS prog w N cls B0 Γ n (.comp caps elt tg it ifs) := @fun B nm env vs A μ H s Q R e z hb q k =>
  i_comp (m := fun e => WP prog w A (eval e env) R s) hb fun x t i cs scope p hc hi hq he => full_value (comp_full hI hE hT z hc hi hq he q) k
theorem exC_comp {j : Nat} {caps : List Nat} {elt : CE} {tg : Tg} {it : IT} {ifs : CEs} (hI : EvI prog w N cls B0 Γ n it) (hE : EvS prog w N cls B0 Γ n elt) (hT : EvQ prog w N cls B0 Γ n ifs) : ExC prog w N cls B0 Γ n j (.comp caps elt tg it ifs) := @fun B nm env vs A μ H s Q R y p p' e _ e1 hd z hb q k =>
  i_comp (m := fun e => WP prog w A (exec (.Assign [.Name y p] e p') env) R s) hb fun x t i cs scope p hc hi hq he => full_store z e1 hd (comp_full hI hE hT z hc hi hq he q) k
end
section
theorem turn_two1 (elt t i t2 i2 : PySem.Expr) (scope : Scope) (pos : Pos) (it acc : Value) (env : Env) :
    compTurn (.ListComp elt [⟨t, i, [], 0⟩, ⟨t2, i2, [], 0⟩] scope pos) 1 it acc env = (standAt i2.pos >>= fun _ => pyNext it >>= fun r => match r with
      | none => pure (.done .next)
      | some v => letOwnedTupleGo t2 it v >>= fun _ => assign t2 env v >>= fun _ =>
        (eval elt env >>= fun x => call (.builtin "list.append") [acc, x] >>= fun _ => pure ()) >>= fun _ =>
          again (.compLoop (.ListComp elt [⟨t, i, [], 0⟩, ⟨t2, i2, [], 0⟩] scope pos) 1 it acc env)) := by rfl
theorem turn_two0 (elt t i t2 i2 : PySem.Expr) (scope : Scope) (pos : Pos) (it acc : Value) (env : Env) :
    compTurn (.ListComp elt [⟨t, i, [], 0⟩, ⟨t2, i2, [], 0⟩] scope pos) 0 it acc env = (standAt i.pos >>= fun _ => pyNext it >>= fun r => match r with
      | none => pure (.done .next)
      | some v => letOwnedTupleGo t it v >>= fun _ => assign t env v >>= fun _ =>
        eval i2 env >>= fun x => standAt i2.pos >>= fun _ => foldedSetIterable i2 env x >>= fun x => holding [x] (pyIter x) >>= fun it2 =>
          runOwn (.compStart (.ListComp elt [⟨t, i, [], 0⟩, ⟨t2, i2, [], 0⟩] scope pos) 1 it2 acc env) env >>= fun _ =>
          again (.compLoop (.ListComp elt [⟨t, i, [], 0⟩, ⟨t2, i2, [], 0⟩] scope pos) 0 it acc env)) := by rfl
variable {prog : Program} {w : World} {cls : Cls} {B B0 : Base} {μ μ₀ μ' μ'' : Mu} {H H' : AH} {s s₀ s' s'' : Shared} {h h' : Heap} {A : Around} {N : Nam} {Γ : Gam} {n : Nat} {env : Env} {nm : List PySem.Str} {vs vs' : Vars}
theorem comp_start1 {elt t i t2 i2 : PySem.Expr} {scope : Scope} {pos : Pos} {acc : Value} {I : Addr} {R : Result → Shared → Prop} (hi : ∀ {E : Value → Shared → Prop} {Q : Value → Shared → Prop}, Q (.ref I) s → wpAny (model prog w) A (pyIter (.ref I)) Q E s)
    (loop : codeAny (model prog w) A (.compLoop (.ListComp elt [⟨t, i, [], 0⟩, ⟨t2, i2, [], 0⟩] scope pos) 1 (.ref I) acc env) R s) :
    codeAny (model prog w) A (.compStart (.ListComp elt [⟨t, i, [], 0⟩, ⟨t2, i2, [], 0⟩] scope pos) 1 (.ref I) acc env) R s := by
  refine codeAny_of_tree ?_
  show wpAny _ _ ((compStart (.ListComp elt [⟨t, i, [], 0⟩, ⟨t2, i2, [], 0⟩] scope pos) 1 (.ref I) acc env).onRaise (fun x => do noteFrame x env; standAt theWindowsPlace)) _ _ s
  refine wpAny_notedAt ?_
  unfold compStart
  show wpAny _ _ (ask >>= _) _ _ s
  refine wpAny_bind (wpAny_askSetting (wpAny_ite ?_))
  split
  · first
      | exact wpAny_bind (wpAny_pure (wpAny_pure (And.intro rfl loop)))
      | exact wpAny_pure (And.intro rfl loop)
  · refine wpAny_bind (wpAny_rule ?_)
    show wpAny _ _ (standAt i2.pos >>= _) _ _ s
    exact wpAny_bind (wpAny_standAt (wpAny_bind (hi (wpAny_pure (And.intro rfl loop)))))
noncomputable def okR (G : Shared → Prop) (r : Result) (s : Shared) : Prop := match r with
  | .ok _ => G s
  | .error _ => False
theorem inner_at {i2 : PySem.Expr} {T : Value → Sem PySem.Fin} {R : PySem.Fin → Shared → Prop} (hns : notSet i2 = true) (h : WP prog w A (eval i2 env) (fun x s1 => WP prog w A (pyIter x) (fun y => WP prog w A (T y) R) s1) s) :
    WP prog w A (eval i2 env >>= fun x => standAt i2.pos >>= fun _ => foldedSetIterable i2 env x >>= fun x => holding [x] (pyIter x) >>= T) R s :=
  wpAny_bind (WP.mono h fun x s h => wpAny_bind (wpAny_standAt (by rw [folded_no hns]; exact wpAny_bind (wpAny_pure (wpAny_bind (wpAny_holding h))))))
theorem comp2_full {caps : List Nat} {elt : CE} {tg tg2 : Tg} {it it2 : IT} (hI : EvI prog w N cls B0 Γ n it) (hE : EvS prog w N cls B0 Γ n elt) (hI2 : EvI prog w N cls B0 Γ n it2) {x t i t2 i2 : PySem.Expr} {scope : Scope} {pos : Pos} {Q : K1}
    (z : At w cls B0 n B nm env vs A μ H s) (hc : com2Ok caps nm env.scope scope tg t i tg2 t2 i2 = true) (hit : bIT N nm env.scope it i = true) (hit2 : bIT N (capNm caps nm ++ (tgNames t ++ tgNames t2)) (relabelS scope env.scope) it2 i2 = true)
    (hel : bE N (capNm caps nm ++ (tgNames t ++ tgNames t2)) (relabelS scope env.scope) elt x = true) (q : eE Γ (.comp2 caps elt tg it tg2 it2) vs H Q) :
    FullC prog w cls A B env μ s Q (.ListComp x [⟨t, i, [], 0⟩, ⟨t2, i2, [], 0⟩] scope pos) i scope := fun px use Qc k =>
  band_k hc fun h1 h5 => band_k h1 fun h1 h6 => band_k h1 fun h1 h2 => band_k h1 fun hcaps hsc => band_k h2 fun h2 hnd => band_k h2 fun hns hns2 => band_k h6 fun h6 hat2 => band_k h6 fun hlen hat => band_k h5 fun hloc h5 => band_k h5 fun htg htg2 =>
    have nd := nodupB_ok hnd
    have hl : (tgNames t ++ tgNames t2).length = tgN tg + tgN tg2 := by rw [List.length_append, tg_len htg, tg_len htg2]
    comp_enter (tn := tgNames t ++ tgNames t2) hI z (sc_get hsc) hns hcaps hit q fun C D I xs chk J P μ' H2 s' q2 c =>
      comp_loop (turn_two0 ..) c.It z.hA c.hO c.hF nd (fun j hj x e => comp_pl (tgAt_ge hat hj) hloc e) htg c.z c.p c.hD (hl ▸ q2) (k.fin c.hC c.hB) fun {vs μ H s G Kn} S F hD q again =>
        have z' : At w cls B0 n B _ _ _ A _ _ _ := ⟨z.hB, nd, S, F, z.hA⟩
        inner_at hns2 (hI2 z' hit2 q fun I2 ys chk2 J2 P2 μ7 H7 s7 q7 S7 L7 It2 hJ2 p2 => wpAny_bind (wpAny_runOwn (codeAny_mono (R := okR G) (comp_start1 (It2.self p2) (comp_loop (turn_two1 ..) It2 z.mark.hA (fun a ha hj => (own_there F a ha).elim fun o ho => nos ((hJ2 a hj).symm.trans ho)) hJ2 nd
          (fun j hj x e => comp_pl (Nat.le_trans (Nat.le_add_right _ _) (tgAt_ge hat2 hj)) hloc e) htg2 ⟨S7, F.le S L7, LeX.of L7 S⟩ p2 (L7.mu _ _ hD) q7 (fun vs' μ' H' s' q z _ => again vs' μ' H' s' q z.S z.Fr z.L)
            fun S F hD q again => elt_at hE ⟨z.hB, nd, S, F, z.mark.hA⟩ hel hD q fun μ7 H7 s7 q7 S7 L7 => wpAny_pure ⟨rfl, again _ _ _ _ q7 S7 (F.le S L7) (LeX.of L7 S)⟩)) fun r s h => by
              cases r with
              | ok f => exact wpAny_pure ⟨rfl, h⟩
              | error e => exact h.elim)))
theorem ev_comp2 {caps : List Nat} {elt : CE} {tg tg2 : Tg} {it it2 : IT} (hI : EvI prog w N cls B0 Γ n it) (hE : EvS prog w N cls B0 Γ n elt) (hI2 : EvI prog w N cls B0 Γ n it2) : EvS prog w N cls B0 Γ n (.comp2 caps elt tg it tg2 it2) := @fun B nm env vs A μ H s Q R e z hb q k =>
  i_comp2 (m := fun e => WP prog w A (eval e env) R s) hb fun x t i t2 i2 scope p hc hi hi2 he => full_value (comp2_full hI hE hI2 z hc hi hi2 he q) k
theorem exC_comp2 {j : Nat} {caps : List Nat} {elt : CE} {tg tg2 : Tg} {it it2 : IT} (hI : EvI prog w N cls B0 Γ n it) (hE : EvS prog w N cls B0 Γ n elt) (hI2 : EvI prog w N cls B0 Γ n it2) : ExC prog w N cls B0 Γ n j (.comp2 caps elt tg it tg2 it2) := @fun B nm env vs A μ H s Q R y p p' e _ e1 hd z hb q k =>
  i_comp2 (m := fun e => WP prog w A (exec (.Assign [.Name y p] e p') env) R s) hb fun x t i t2 i2 scope p hc hi hi2 he => full_store z e1 hd (comp2_full hI hE hI2 z hc hi hi2 he q) k
end
section
noncomputable def kgB (n : Nat) : KasT (Array Nat) → Bool
  | .ret p => p.toList.isPerm (List.range n)
  | .ask i j k => Nat.blt i n && Nat.blt j n && (kgB n (k true) && kgB n (k false))
theorem kgB_6 : kgB 6 (kas_sort 6) = true := by kernel_rfl
theorem kgB_5 : kgB 5 (kas_sort 5) = true := by kernel_rfl
theorem kgB_4 : ([2, 3, 4].all fun n => kgB n (kas_sort n)) = true := by kernel_rfl
theorem kgB_ok {n : Nat} (h2 : 2 ≤ n) (h6 : n ≤ 6) : kgB n (kas_sort n) = true :=
  (Nat.lt_or_ge n 5).elim (fun h => List.all_eq_true.mp kgB_4 n (by simp; omega)) fun h => (show n = 5 ∨ n = 6 by omega).elim (fun e => by subst e; exact kgB_5) fun e => by subst e; exact kgB_6
variable {prog : Program} {w : World} {cls : Cls} {B : Base} {μ μ₀ μ' μ'' : Mu} {H H' : AH} {s s₀ s' s'' : Shared} {h h' : Heap} {A : Around}
theorem kas_all {n : Nat} {cmp : Nat → Nat → (Bool → Shared → Prop) → Shared → Prop} {G : Array Nat → Shared → Prop} (hc : ∀ i j C, i < n → j < n → (∀ b, C b s) → cmp i j C s) (hG : ∀ p : Array Nat, p.toList.Perm (List.range n) → G p s) :
    ∀ T : KasT (Array Nat), kgB n T = true → T.kasWp cmp G s
  | .ret p, h => hG p (List.isPerm_iff.mp h)
  | .ask i j k, h => band_k h fun h1 h2 => band_k h1 fun hi hj => band_k h2 fun h1 h2 => hc i j _ (Nat.blt_eq.mp hi) (Nat.blt_eq.mp hj) fun b => by
    cases b with
    | true => exact kas_all hc hG _ h1
    | false => exact kas_all hc hG _ h2
inductive KeyV (h : Heap) : Value → Prop
  | mk (a : Addr) (o : Obj) (x y z : PySem.Str) (t u r : Tok) (n : Nat) (ho : h.get? a = some o) (hc : o.cls = .type "tuple") (hd : o.data = .seq #[.str x t, .str y u, .str z r] n) : KeyV h (.ref a)
theorem KeyV.tk {v : Value} (x : KeyV h v) (k : TK h h') : KeyV h' v := x.casesOn fun a o x y z t u r n ho hc hd => .mk a o x y z t u r n (k _ _ _ _ ho hc hd) hc hd
theorem lt_of_false {x y : PySem.Str} {t u : Tok} {C : Bool → Shared → Prop} {E : Value → Shared → Prop} (hC : ∀ b, C b s) : wpAny (model prog w) A (oneLt' false (.str x t) (.str y u)) C E s := kat_one _ _ (PySem.P.lt_str (hC _))
theorem key_lt {v v' : Value} {C : Bool → Shared → Prop} {E : Value → Shared → Prop} (k : KeyV s.heap v) (k' : KeyV s.heap v') (hC : ∀ b, C b s) : wpAny (model prog w) A (keyLt' (tuples' true) v v') C E s :=
  k.casesOn fun a o x y z t u r n ho hc hd => k'.casesOn fun a' o' x' y' z' t' u' r' n' ho' hc' hd' => kat_lt ho hd ho' hd'
    (kat_cons (p := .str x t) (q := .str x' t') (r := [(.str y u, .str y' u'), (.str z r, .str z' r')]) (eqBool_str (kat_go (fun _ => kat_yes
      (kat_cons (eqBool_str (kat_go (fun _ => kat_yes (kat_cons (eqBool_str (kat_go (fun _ => kat_yes (kat_nil (hC _))) fun _ => kat_no (lt_of_false hC))))) fun _ => kat_no (lt_of_false hC))))) fun _ => kat_no (oneLt_str (hC _)))))
theorem key_tups : ∀ ks : List Value, (∀ k ∈ ks, KeyV h k) → ∃ fs, KatTups h ks fs ∧ fs.length = ks.length ∧ ∀ v ∈ fs, ∃ x t, v = .str x t
  | [], _ => ⟨[], .nil, rfl, fun _ h => nomatch h⟩
  | k :: r, hk => (key_tups r fun v hv => hk v (List.mem_cons_of_mem _ hv)).elim fun fs y => by
    have hv := hk k List.mem_cons_self
    induction hv with
    | mk a o x y' z t u r' n ho hc hd => exact ⟨.str x t :: fs, .cons ho hc hd rfl y.1, congrArg (· + 1) y.2.1, fun v hv => (List.mem_cons.mp hv).elim (fun e => ⟨x, t, e⟩) (y.2.2 v)⟩
theorem key_kind {ks : List Value} {Q : SortKind → Shared → Prop} {E : Value → Shared → Prop} (hk : ∀ k ∈ ks, KeyV s.heap k) (hne : 0 < ks.length) (q : Q (tuples' true) s) : wpAny (model prog w) A (keyKind' (List.toArray ks)) Q E s :=
  (key_tups ks hk).elim fun fs y => kat_kind (T := .type "str") y.1 (y.2.1 ▸ hne) (fun v hv => (y.2.2 v hv).elim fun x e => e.elim fun t e => e ▸ .now) (by decide) q
theorem key_sort {ks : List Value} {G : Array Nat → Shared → Prop} (hk : ∀ k ∈ ks, KeyV s.heap k) (h2 : 2 ≤ ks.length) (h6 : ks.length ≤ 6) (hG : ∀ p : Array Nat, p.toList.Perm (List.range ks.length) → G p s) :
    (kas_sort ks.length).kasWp (kas_ask prog w A (tuples' true) ks) G s :=
  have g : ∀ i, i < ks.length → ks.getD i Value.none ∈ ks := fun i hi => by
    rw [List.getD_eq_getElem?_getD, List.getElem?_eq_getElem hi]; exact List.getElem_mem hi
  kas_all (n := ks.length) (fun i j C hi hj hC => key_lt (hk _ (g i hi)) (hk _ (g j hj)) hC) hG _ (kgB_ok h2 h6)
theorem Le.turn {C : Addr} {tk : Nat} (L : Le μ₀ s₀ μ s) (hC : s₀.heap.get? C = none) (hs : Heap.SameBut C s.heap h') : Le μ₀ s₀ μ { s with heap := h', toks := tk } :=
  have kc : ∀ b o, s₀.heap.get? b = some o → h'.get? b = s.heap.get? b := fun b o e => hs.2 b fun z => nos (hC.symm.trans (z ▸ e))
  ⟨L.gens, L.drawn, L.os, L.ext, fun b o e n => (kc b o e).trans (L.keep b o e n), fun b o e => (L.alive b o e).imp fun o1 e1 => (kc b o e).trans e1⟩
noncomputable def Badd (B : Base) (a : Addr) (o : Obj) : Base := fun b => if b = a then some o else B b
theorem Badd.at {a : Addr} {o : Obj} : Badd B a o a = some o := if_pos rfl
theorem Badd.ne {a b : Addr} {o : Obj} (h : b ≠ a) : Badd B a o b = B b := if_neg h
theorem Badd.le {a : Addr} {o : Obj} (h : B a = none) : BLe B (Badd B a o) := fun b p e => (Badd.ne fun z => nos (h.symm.trans (z ▸ e))).trans e
theorem SR.badd {a : Addr} {o : Obj} (S : SR w cls B μ H h) (off : Off μ a) (ho : h.get? a = some o) : SR w cls (Badd B a o) μ H h :=
  ⟨S.len, S.nodup, S.obj, fun b p e => by
    by_cases z : b = a
    · rw [z, Badd.at] at e; exact z ▸ e ▸ ho
    · exact S.base b p ((Badd.ne z).symm.trans e), fun p hp => (Badd.ne fun z => off ((show p.2 = a from z) ▸ List.mem_map_of_mem (f := (·.2)) hp)).trans (S.new p hp)⟩
theorem SR.weaken {B1 : Base} (S : SR w cls B1 μ H h) (hB : BLe B B1) : SR w cls B μ H h :=
  ⟨S.len, S.nodup, S.obj, fun b p e => S.base b p (hB b p e), fun p hp => by
    cases e : B p.2 with
    | none => rfl
    | some o => exact nos ((S.new p hp).symm.trans (hB _ _ e))⟩
theorem SR.off_of {a : Addr} {o : Obj} (S : SR w cls B μ H h) (e : B a = some o) : Off μ a := fun hm => (List.mem_map.mp hm).elim fun p z => nos ((S.new p z.1).symm.trans (z.2 ▸ e))
theorem mu_left {p : Addr × Addr} (i : Nat) (q : Addr × Addr) (e : μ[i]? = some q) : (μ ++ [p])[i]? = some q := (List.getElem?_append_left (List.getElem?_eq_some_iff.mp e).1).trans e
theorem SR.adopt {p : Addr × Addr} {o : AO} (S : SR w cls B μ H h) (off : Off μ p.2) (new : B p.2 = none) (ho : OR w cls (μ ++ [p]) h o p) : SR w cls B (μ ++ [p]) (H ++ [o]) h where
  len := by rw [List.length_append, List.length_append, S.len]; rfl
  nodup := by
    rw [List.map_append, List.nodup_append]
    exact ⟨S.nodup, (List.nodup_cons.mpr ⟨(nomatch ·), List.nodup_nil⟩ : [p.2].Nodup), fun a ha b hb e => off (((show b = p.2 from List.mem_singleton.mp hb) ▸ e : a = p.2) ▸ ha)⟩
  obj := fun i ob q ei eq => by
    by_cases hi : i < H.length
    · rw [List.getElem?_append_left hi] at ei
      rw [List.getElem?_append_left (by rw [S.len]; exact hi)] at eq
      exact (S.obj i ob q ei eq).mono_ne mu_left (TK.refl _) (fun x e => e) (fun x e => e)
    · rw [List.getElem?_append_right (Nat.le_of_not_lt hi)] at ei
      rw [List.getElem?_append_right (by rw [S.len]; exact Nat.le_of_not_lt hi), S.len] at eq
      exact List.mem_singleton.mp (List.mem_of_getElem? ei) ▸ List.mem_singleton.mp (List.mem_of_getElem? eq) ▸ ho
  base := S.base
  new := fun q hq => (List.mem_append.mp hq).elim (S.new q) fun hq => List.mem_singleton.mp hq ▸ new
theorem fresh_at {a : Addr} (S : SR w cls B μ H s.heap) (ha : s.heap.get? a = none) : Off μ a ∧ B a = none := ⟨fun hm => (S.turns hm).elim fun q z => nos (ha.symm.trans z.1), base_none S ha⟩
theorem adopt_fin {D : Addr} {o : AO} {Q : K1} {R : Value → Shared → Prop} (k : Ret w cls B μ s Q R) (S' : SR w cls B μ' H' s'.heap) (L : Le μ s μ' s') (off : Off μ' D) (new : B D = none) (sD : s.heap.get? D = none) (ho : OR w cls (μ' ++ [(D, D)]) s'.heap o (D, D)) (q : Q (.ref H'.length) (H' ++ [o])) : R (.ref D) s' :=
  k _ _ _ _ _ q (S'.adopt off new ho) ⟨L.gens, L.drawn, L.os, L.ext.elim fun ν z => ⟨ν ++ [(D, D)], by rw [z.1, List.append_assoc], fun q hq => (List.mem_append.mp hq).elim (z.2 q) fun hq => List.mem_singleton.mp hq ▸ ⟨sD, sD⟩⟩, L.keep, L.alive⟩ (.ref (p := (D, D)) (new_at S'))
end
section
variable {prog : Program} {w : World} {cls : Cls} {B B0 : Base} {μ μ₀ μ' μ'' : Mu} {H H' : AH} {s s₀ s' s'' : Shared} {h h' : Heap} {A : Around} {K : Frag} {N : Nam} {Γ : Gam} {n : Nat}
structure KeyJ (w : World) (cls : Cls) (B : Base) (μ : Mu) (H : AH) (s : Shared) (D kS : Addr) (e1 : Nat) (ks : List Value) (μ' : Mu) (s' : Shared) (ek : Nat) : Prop where
  sr : SR w cls B μ' H s'.heap
  le : Le μ s μ' s'
  offD : Off μ' D
  offK : Off μ' kS
  atD : s'.heap.get? D = some (seqObj "list" #[] e1)
  atK : s'.heap.get? kS = some (seqObj "list" ks.toArray ek)
  keys : ∀ k ∈ ks, KeyV s'.heap k
structure KeyP (B : Base) (s : Shared) (D kS : Addr) : Prop where
  newD : B D = none
  newK : B kS = none
  sK : s.heap.get? kS = none
  sD : s.heap.get? D = none
  ne : D ≠ kS
noncomputable def KeyF (prog : Program) (w : World) (cls : Cls) (A : Around) (B : Base) (H : AH) (f : Value) (xs : List AV) : Prop := ∀ {B1 : Base} {μ1 : Mu} {s1 : Shared} {x : AV} {v : Value} {R : Value → Shared → Prop}, BLe B B1 → SR w cls B1 μ1 H s1.heap → x ∈ xs → VR μ1 s1.heap x v →
  (∀ k s2 μ2, SR w cls B1 μ2 H s2.heap → Le μ1 s1 μ2 s2 → KeyV s2.heap k → R k s2) → WP prog w A (call f [v]) R s1
theorem key_turn {f : Value} {D kS : Addr} {e1 ek : Nat} {ks : List Value} {xs : List AV} {x : AV} {v : Value} {Q : Shared → Prop} (hf : KeyF prog w cls A B H f xs) (p : KeyP B s D kS) (J : KeyJ w cls B μ H s D kS e1 ks μ' s' ek) (hx : x ∈ xs) (r : VR μ' s'.heap x v) (hz : ks.length ≤ 60)
    (q : ∀ k μ2 s2 ek2, KeyJ w cls B μ H s D kS e1 (ks ++ [k]) μ2 s2 ek2 → Q s2) : WP prog w A (call f [v]) (fun k s => WP prog w A (Builtin.List.listUpdate (.ref kS) (·.push k)) (fun _ s => Q s) s) s' :=
  have S1 := (J.sr.badd (a := D) (o := seqObj "list" #[] e1) J.offD J.atD).badd (a := kS) (o := seqObj "list" ks.toArray ek) J.offK J.atK
  have b : BLe B (Badd (Badd B D (seqObj "list" #[] e1)) kS (seqObj "list" ks.toArray ek)) := (Badd.le p.newD).trans (Badd.le ((Badd.ne (Ne.symm p.ne)).trans p.newK))
  hf b S1 hx r fun k s2 μ2 S2 L2 k2 => by
    have eD : Badd (Badd B D (seqObj "list" #[] e1)) kS (seqObj "list" ks.toArray ek) D = some (seqObj "list" #[] e1) := (Badd.ne p.ne).trans Badd.at
    have atK := S2.base _ _ Badd.at
    have hs := Heap.SameBut.update s2.heap kS (Obj.mapSeq (·.push k))
    have hck := get?_update_seq atK (·.push k)
    rw [List.push_toArray] at hck
    have y := off_turn (S2.weaken b) atK (fun _ _ z => absurd (show Value.type "list" = .type "tuple" from z) (by decide)) (fun z => nomatch z) (S2.off_of Badd.at) p.newK hs
    exact listUpdate_at atK rfl (q k μ2 _ _ ⟨y.1, (J.le.trans L2).turn (tk := s2.toks) p.sK hs, S2.off_of eD, S2.off_of Badd.at, (hs.2 D p.ne).trans (S2.base _ _ eD), hck, fun k' hk' => (List.mem_append.mp hk').elim (fun hk' => (J.keys k' hk').tk ((L2.tk J.sr).trans y.2)) fun hk' => (List.mem_singleton.mp hk').symm ▸ k2.tk y.2⟩)
      (by rw [List.size_toArray, sizeLine_eq]; exact Nat.le_trans hz (by decide)) (Nat.le_trans (Nat.le_of_eq (Array.size_push ..)) (by rw [List.size_toArray, sizeLine_eq]; exact Nat.le_trans (Nat.succ_le_succ hz) (by decide)))
theorem key_loop {f : Value} {D kS : Addr} {e1 : Nat} {xs : List AV} {body : Value → PUnit → Sem (ForInStep PUnit)} {Q : Shared → Prop} (S : SR w cls B μ H s.heap) (hf : KeyF prog w cls A B H f xs) (p : KeyP B s D kS)
    (hb : ∀ (v : Value) (Q : ForInStep PUnit → Shared → Prop) (s : Shared), WP prog w A (call f [v]) (fun k s => WP prog w A (Builtin.List.listUpdate (.ref kS) (·.push k)) (fun _ s => Q (.yield ⟨⟩) s) s) s → WP prog w A (body v ⟨⟩) Q s) :
    ∀ (r : List Value) (ks : List Value) (μ' : Mu) (s' : Shared) (ek : Nat), (∀ v ∈ r, ∃ x ∈ xs, VR μ s.heap x v) → KeyJ w cls B μ H s D kS e1 ks μ' s' ek → ks.length + r.length ≤ 60 →
      (∀ ks2 μ2 s2 ek2, KeyJ w cls B μ H s D kS e1 ks2 μ2 s2 ek2 → ks2.length = ks.length + r.length → Q s2) → WP prog w A (forIn r PUnit.unit body) (fun _ => Q) s'
  | [], ks, μ', s', ek, _, J, _, q => by
    rw [List.forIn_nil]
    exact wpAny_pure (q _ _ _ _ J rfl)
  | v :: r, ks, μ', s', ek, hx, J, hz, q => by
    have hl : ∀ k : Value, (ks ++ [k]).length + r.length = ks.length + (v :: r).length := fun k => by rw [List.length_append, Nat.add_assoc, Nat.add_comm]; exact Nat.add_left_cancel_iff.mpr (Nat.add_comm ..) |>.trans (Nat.add_comm ..) |>.symm ▸ rfl
    rw [List.forIn_cons]
    exact (hx v List.mem_cons_self).elim fun x y => wpAny_bind (hb v _ _ (key_turn hf p J y.1 (y.2.le S J.le) (Nat.le_trans (Nat.le_add_right ..) hz) fun k μ2 s2 ek2 J2 => key_loop S hf p hb r (ks ++ [k]) μ2 s2 ek2 (fun v hv => hx v (List.mem_cons_of_mem _ hv)) J2 (hl k ▸ hz) fun ks2 μ2 s2 ek2 J2 e => q _ _ _ _ J2 (e.trans (hl k))))
theorem vrs_pick {xs : List AV} {vl : List Value} (r : VRs μ h xs vl) : ∀ l : List Nat, (∀ i ∈ l, i < xs.length) → VRs μ h (l.map fun i => xs.getD i (.py .none)) (l.map fun i => vl.getD i Value.none)
  | [], _ => .nil
  | i :: l, hl => (r.get (List.getElem?_eq_getElem (hl i List.mem_cons_self))).elim fun v y => .cons (by
    show VR μ h (xs.getD i _) (vl.getD i _)
    rw [List.getD_eq_getElem?_getD, List.getD_eq_getElem?_getD, y.1, List.getElem?_eq_getElem (hl i List.mem_cons_self)]
    exact y.2) (vrs_pick r l fun j hj => hl j (List.mem_cons_of_mem _ hj))
theorem range_pick {α : Type} (xs : List α) (d : α) : (List.range xs.length).map (fun i => xs.getD i d) = xs := by
  apply List.ext_getElem?
  intro i
  by_cases hi : i < xs.length
  · simp [hi]
  · simp [hi]
structure SortQ (w : World) (cls : Cls) (B : Base) (μ : Mu) (H : AH) (s : Shared) (xs : List AV) (vl : List Value) (Kq : K1) : Prop where
  S : SR w cls B μ H s.heap
  rv : VRs μ s.heap xs vl
  h2 : 2 ≤ xs.length
  h6 : xs.length ≤ 6
  kq : ∀ ys : List AV, ys.Perm xs → Kq (.ref H.length) (H ++ [.list ys])
theorem key_end {D kS : Addr} {e1 ek : Nat} {ks : List Value} {xs : List AV} {vl : List Value} {Kq : K1} {R : Value → Shared → Prop} {P : PySem.Fin → Shared → Prop} (q : SortQ w cls B μ H s xs vl Kq) (p0 : KeyP B s D kS) (J : KeyJ w cls B μ H s D kS e1 ks μ' s' ek) (hl : ks.length = vl.length) (k : Ret w cls B μ s Kq R)
    (fin : ∀ s', R (.ref D) s' → P (.done (.ret .none)) s') : WP prog w A (ksk_end D false vl.toArray e1 (.ref kS) ks.toArray) P s' := by
  have h2 : 2 ≤ vl.length := q.rv.length ▸ q.h2
  have h6 : vl.length ≤ 6 := q.rv.length ▸ q.h6
  have hn2 : ¬ vl.toArray.size < 2 := by rw [List.size_toArray]; exact Nat.not_lt_of_le h2
  unfold ksk_end
  dsimp only
  rw [if_neg (by decide), if_neg hn2, if_neg hn2]
  refine wpAny_bind (key_kind J.keys (hl ▸ Nat.lt_of_lt_of_le (by decide) h2) ?_)
  rw [if_neg (by decide)]
  refine wpAny_bind (wpAny_mono (kat_run (vs := vl) (ks := ks) (κ := tuples' true) (Q := fun st' s2 => s2 = s' ∧ ∃ p : Array Nat, p.toList.Perm (List.range ks.length) ∧ arrOf st' = p.map (kas_item (ks.toArray.zip vl.toArray)) ∧ failedOf st' = none)
    (G := fun p s2 => s2 = s' ∧ p.toList.Perm (List.range ks.length)) hl (hl ▸ h2) (Nat.lt_of_le_of_lt h6 (by decide)) (fun p st' s2 _ h1 h2 h3 => ⟨h3.1, p, h3.2, h1, h2⟩) (by rw [← hl]; exact key_sort J.keys (hl ▸ h2) (hl ▸ h6) fun p hp => ⟨rfl, hp⟩)) (fun st s2 y => ?_) fun _ _ f => f)
  refine y.1 ▸ y.2.elim fun p y => ?_
  have hp := y.1
  have hout := kat_snds hl y.2.1
  have hpl : p.toList.length = vl.length := by rw [hp.length_eq, List.length_range, hl]
  unfold ksk_tail
  dsimp only
  rw [hout, y.2.2]
  have hs1 := Heap.SameBut.update s'.heap kS (Obj.mapSeq fun _ => (#[] : Array Value))
  have x1 := off_turn J.sr J.atK (fun _ _ z => absurd (show Value.type "list" = .type "tuple" from z) (by decide)) (fun z => nomatch z) J.offK p0.newK hs1
  have atD1 := (hs1.2 D p0.ne).trans J.atD
  have hs2 := Heap.SameBut.update (s'.heap.update kS (Obj.mapSeq fun _ => (#[] : Array Value))) D (Obj.mapSeq fun _ => List.toArray (p.toList.map fun i => vl.getD i Value.none))
  have hc2 := get?_update_seq atD1 fun _ => List.toArray (p.toList.map fun i => vl.getD i Value.none)
  have x2 := off_turn (s := { s' with heap := s'.heap.update kS (Obj.mapSeq fun _ => (#[] : Array Value)) }) x1.1 atD1 (fun _ _ z => absurd (show Value.type "list" = .type "tuple" from z) (by decide)) (fun z => nomatch z) J.offD p0.newD hs2
  refine wpAny_bind (listUpdate_at J.atK rfl ?_ (by rw [List.size_toArray, sizeLine_eq, hl]; exact Nat.le_trans h6 (by decide)) (Nat.zero_le _))
  refine wpAny_bind (wpAny_letGo ?_)
  refine wpAny_bind (seqEpoch_at atD1 rfl ?_)
  refine wpAny_bind (listUpdate_at atD1 rfl ?_ (Nat.zero_le _) (Nat.le_trans (Nat.le_of_eq (by rw [if_neg (by decide), List.size_toArray, List.length_map, hpl])) (by rw [sizeLine_eq]; exact Nat.le_trans h6 (by decide))))
  simp only [bne_self_eq_false, Bool.false_eq_true, if_false]
  have rl := vrs_pick q.rv p.toList fun i hi => q.rv.length ▸ hl ▸ List.mem_range.mp (hp.mem_iff.mp hi)
  have hperm := hp.map fun i => xs.getD i (.py .none)
  rw [show ks.length = xs.length from hl.trans q.rv.length.symm, range_pick] at hperm
  exact wpAny_pure (fin _ (adopt_fin (o := .list (p.toList.map fun i => xs.getD i (.py .none))) k x2.1 ((J.le.turn (tk := s'.toks) p0.sK hs1).turn (tk := s'.toks) p0.sD hs2) J.offD p0.newD p0.sD ⟨rfl, _, _, hc2, (rl.le q.S J.le).mono mu_left (x1.2.trans x2.2)⟩ (q.kq _ hperm)))
theorem key_rest {f : Value} {D kS : Addr} {e1 : Nat} {xs : List AV} {vl : List Value} {Kq : K1} {R : Value → Shared → Prop} {P : PySem.Fin → Shared → Prop} (q : SortQ w cls B μ H s xs vl Kq) (hf : KeyF prog w cls A B H f xs) (p0 : KeyP B s D kS) (J : KeyJ w cls B μ H s D kS e1 [] μ' s' 0) (k : Ret w cls B μ s Kq R)
    (fin : ∀ s', R (.ref D) s' → P (.done (.ret .none)) s') : WP prog w A (ksk_rest D f false vl.toArray e1 (.ref kS)) P s' := by
  unfold ksk_rest
  refine wpAny_bind (wpAny_rule ?_)
  first
    | rw [List.forIn_toArray]
    | (rw [← Array.forIn_toList]; simp only [List.toList_toArray])
    | rw [← Array.forIn_toList]
  refine wpAny_bind (key_loop q.S hf p0 (fun v Q s hc => ?_) vl [] μ' s' 0 (fun v hv => ?_) J (by rw [List.length_nil, Nat.zero_add, ← q.rv.length]; exact Nat.le_trans q.h6 (by decide)) (fun ks μ2 s2 ek J2 hl => ?_))
  · exact wpAny_bind (wpAny_attempt (wpAny_mono hc (fun k s2 hk => wpAny_bind (wpAny_mono hk (fun _ s3 hq => wpAny_pure hq) fun _ _ f => f)) fun _ _ f => f.elim))
  · exact (List.getElem_of_mem hv).elim fun i z => z.elim fun hi e => (q.rv.get' (List.getElem?_eq_getElem hi)).elim fun x z => ⟨x, List.mem_of_getElem? z.1, e ▸ z.2⟩
  · exact wpAny_bind (listItems_at J2.atK rfl (key_end q p0 J2 (hl.trans (Nat.zero_add _)) k fin))
theorem sort_key {q D : Addr} {h1 : Heap} {xs : List AV} {vl : List Value} {Kq : K1} {R : Value → Shared → Prop} {P : PySem.Fin → Shared → Prop} (y : SortQ w cls B μ H s xs vl Kq) (keep : ∀ b o, s.heap.get? b = some o → h1.get? b = some o) (hoL : h1.get? D = some (seqObj "list" vl.toArray 0)) (sD : s.heap.get? D = none)
    (hf : KeyF prog w cls A B H (.ref q) xs) (k : Ret w cls B μ s Kq R) (fin : ∀ s', R (.ref D) s' → P (.done (.ret .none)) s') : WP prog w A (Builtin.«list.sort» ⟨[.ref D], [(PySem.Str.ofString "key", .ref q)]⟩) P { s with heap := h1 } := by
  have hz : vl.length ≤ 60 := y.rv.length ▸ Nat.le_trans y.h6 (by decide)
  have x1 := y.S.grow (tk := s.toks) keep
  have fD := fresh_at y.S sD
  have hs1 := Heap.SameBut.update h1 D (Obj.mapSeq fun _ => (#[] : Array Value))
  have ho1 := get?_update_seq hoL fun _ => #[]
  have x2 := off_turn (s := { s with heap := h1 }) x1.1 hoL (fun _ _ z => absurd (show Value.type "list" = .type "tuple" from z) (by decide)) (fun z => nomatch z) fD.1 fD.2 hs1
  rw [ksk_t1]
  unfold ksk_tree
  refine wpAny_bind (listItems_at hoL rfl ?_)
  refine wpAny_bind (listUpdate_at hoL rfl ?_ (by rw [List.size_toArray, sizeLine_eq]; exact Nat.le_trans hz (by decide)) (Nat.zero_le _))
  refine wpAny_bind (seqEpoch_at ho1 rfl ?_)
  refine wpAny_bind (wpAny_newTuple ?_ (by show vl.length ≤ _; rw [sizeLine_eq]; exact Nat.le_trans hz (by decide)))
  refine wpAny_bind (wpAny_newList ?_ (Nat.zero_le _))
  refine wpAny_holding ?_
  have k2 : ∀ b o, (h1.update D (Obj.mapSeq fun _ => (#[] : Array Value))).get? b = some o → (((h1.update D (Obj.mapSeq fun _ => (#[] : Array Value))).push (seqObj "tuple" vl.toArray 0)).push (seqObj "list" #[] 0)).get? b = some o := fun b o e => Heap.get?_push_of_some _ (Heap.get?_push_of_some _ e)
  have x3 := SR.grow (s := { s with heap := h1.update D (Obj.mapSeq fun _ => (#[] : Array Value)) }) (tk := s.toks) x2.1 k2
  have hlt : h1.objs.size < ((h1.update D (Obj.mapSeq fun _ => (#[] : Array Value))).push (seqObj "tuple" vl.toArray 0)).objs.size := by rw [size_push', Heap.size_update]; exact Nat.lt_succ_self _
  have sK : s.heap.get? ((h1.update D (Obj.mapSeq fun _ => (#[] : Array Value))).push (seqObj "tuple" vl.toArray 0)).objs.size = none := none_of_alive (fun b o e => ⟨o, keep b o e⟩) (Heap.get?_none_of_le (Nat.le_of_lt hlt))
  have fK := fresh_at y.S sK
  exact key_rest (s' := { s with heap := ((h1.update D (Obj.mapSeq fun _ => (#[] : Array Value))).push (seqObj "tuple" vl.toArray 0)).push (seqObj "list" #[] 0) }) y hf ⟨fD.2, fK.2, sK, sD, Nat.ne_of_lt (Nat.lt_trans (Heap.lt_size hoL) hlt)⟩
    ⟨x3.1, (x1.2.turn (tk := s.toks) sD hs1).trans x3.2, fD.1, fK.1, k2 _ _ ho1, Heap.get?_push_size _ rfl, fun k hk => nomatch hk⟩ k fin
theorem sorted_key {q : Addr} {l : Addr} {vs : Array Value} {m : Nat} {xs : List AV} {Kq : K1} {R : Value → Shared → Prop} (hl : IsL s.heap l vs m) (y : SortQ w cls B μ H s xs vs.toList Kq) (hf : KeyF prog w cls A.in1.in1 B H (.ref q) xs) (k : Ret w cls B μ s Kq R) : WP prog w A (call (.builtin "sorted") [.ref l] [(PySem.Str.ofString "key", .ref q)]) R s := by
  have hz : vs.toList.length ≤ 60 := y.rv.length ▸ Nat.le_trans y.h6 (by decide)
  refine call_function_entry_kw kind_sorted plain_sorted entry_sorted (ksk_s1 _ _) ?_
  unfold Builtin.«sorted»
  refine wpAny_bind (m := checkCount "sorted" 1 1 _) (wpAny_pure ?_)
  refine wpAny_bind (collect_list (vs := vs.toList) (by simpa using IsL.isList hl) ?_ (by rw [sizeLine_eq]; exact Nat.le_trans hz (by decide)))
  refine wpAny_bind (wpAny_newList ?_ (by rw [sizeLine_eq]; exact Nat.le_trans hz (by decide)))
  have hsz : ((s.heap.push (seqObj "list" #[] 0)).update s.heap.objs.size (Obj.mapSeq (· ++ vs.toList.toArray))).objs.size = s.heap.objs.size + 1 := by rw [Heap.size_update, size_push']
  show wpAny _ _ _ _ _ { s with heap := ((s.heap.push (seqObj "list" #[] 0)).update s.heap.objs.size (Obj.mapSeq (· ++ vs.toList.toArray))).push (seqObj "list" vs.toList.toArray 0) }
  rw [hsz]
  have hoL : (((s.heap.push (seqObj "list" #[] 0)).update s.heap.objs.size (Obj.mapSeq (· ++ vs.toList.toArray))).push (seqObj "list" vs.toList.toArray 0)).get? (s.heap.objs.size + 1) = some (seqObj "list" vs.toList.toArray 0) := hsz ▸ Heap.get?_push_size _ rfl
  refine wpAny_bind (wpAny_holding (wpAny_call_entry_kw slot_list_sort ⟨_, hoL, rfl⟩ entry_list_sort (sort_key y (fun b o q => ?_) hoL (Heap.get?_none_of_le (Nat.le_succ _)) hf k fun s' hp => ⟨_, rfl, wpAny_pure ⟨_, rfl, hp⟩⟩) (ksk_l1 _ _)))
  have hlt : b < s.heap.objs.size := Heap.lt_size q
  rw [Heap.get?_push_ne _ _ _ (by rw [hsz]; exact Nat.ne_of_lt (Nat.lt_succ_of_lt hlt)), Heap.get?_update_ne _ _ _ _ (Nat.ne_of_lt hlt), Heap.get?_push_ne _ _ _ (Nat.ne_of_lt hlt)]
  exact q
end
section
variable {prog : Program} {w : World} {cls : Cls} {B B0 : Base} {μ μ' : Mu} {H : AH} {s s' : Shared} {h h' : Heap} {A : Around} {K : Frag} {N : Nam} {Γ : Gam} {n : Nat} {env : Env} {nm : List PySem.Str} {vs : Vars}
theorem vrs3 {a b c : AV} {vs : List Value} (r : VRs μ h [a, b, c] vs) {m : List Value → Prop} (k : ∀ v u x, VR μ h a v → VR μ h b u → VR μ h c x → m [v, u, x]) : m vs := by
  cases r with | cons r1 r => exact vrs2 r (m := fun vs => m (_ :: vs)) fun u x r2 r3 => k _ u x r1 r2 r3
theorem pStr_some {d : PyData} (h : (pStr d).isSome = true) {G : Prop} (q : ∀ x, d = .str x → G) : G := (Option.isSome_iff_exists.mp h).elim fun x e => q x (pStr_k e)
theorem keyD_k {d : PyData} (h : keyD d = true) {G : Prop} (q : ∀ x y z, d = .tuple [.str x, .str y, .str z] → G) : G := by
  induction d using PyData.casesOn with
  | tuple l =>
    cases l with
    | nil => exact bf h
    | cons a r =>
      refine band_k h fun h1 h2 => ?_
      cases e : two2 r with
      | none => rw [e] at h2; exact bf h2
      | some p => rw [e] at h2; exact band_k h2 fun h2 h3 => pStr_some h1 fun x e1 => pStr_some h2 fun y e2 => pStr_some h3 fun z e3 => q x y z (by rw [two2_k e, e1, e2, e3])
  | _ => exact bf h
theorem keyV_of {r : AV} {v : Value} (k : keyShape r) (x : VR μ h r v) : KeyV h v := k.elim fun d k => keyD_k k.2 fun a b c e => (show VR μ h (.py (.tuple [.str a, .str b, .str c])) v from e ▸ k.1 ▸ x).tup_m rfl fun t vs ht rv => by
  obtain ⟨l⟩ := vs
  exact ht.elim fun o y => y.2.2.elim fun n hd => vrs3 rv (m := fun l => o.data = .seq ⟨l⟩ n → KeyV h (.ref t)) (fun v u x r1 r2 r3 => r1.str_m (m := fun v => o.data = .seq #[v, u, x] n → KeyV h (.ref t)) rfl fun t1 =>
    r2.str_m (m := fun u => o.data = .seq #[.str a t1, u, x] n → KeyV h (.ref t)) rfl fun t2 => r3.str_m (m := fun x => o.data = .seq #[.str a t1, .str b t2, x] n → KeyV h (.ref t)) rfl fun t3 hd => .mk _ _ _ _ _ _ _ _ _ y.1 y.2.1 hd) hd
theorem ev_sortK (T : Tx prog w N cls B0 K Γ n) {c : CE} {f : Nat} (h1 : EvS prog w N cls B0 Γ n c) : EvS prog w N cls B0 Γ n (.sortK c f) := @fun B nm env vs A μ H s Q R e z hb q k =>
  i_sortK (m := fun e => WP prog w A (eval e env) R s) hb fun p y p2 p3 p4 hg hg2 hns hy => T.ns_k fun _ _ t => by
    refine wpAny_bind (builtin_load z.Fr hg (t.ns _ z.hh) (t.bn .sorted) ?_)
    refine callWith_kw (e := y) (rest := []) (kws := [⟨some _, .Name (N.fn f) p2, p3⟩]) ?_ (by rw [starEach_cons hns]; rfl) (by rw [starEach_cons hns]; rfl) rfl rfl
    rw [starEach_cons hns]
    exact spliced_cons (h1 z hy q fun v s1 a μ1 H1 q1 S1 L1 r1 => spliced_nil (oP_k q1 fun j ej q1 => oP_k q1 fun xs exs q1 => (t.fn f).elim fun fa x =>
      kws_cons (glob_load (z.Fr.le z.S L1) hg2 (t.ns _ (holds_sr S1 z.hB)).1 x.1 (kws_nil (list_m S1 r1 ej exs (m := fun v => WP prog w A (call (.builtin "sorted") [v] [(PySem.Str.ofString "key", .ref fa)]) R s1) fun l vals m hμ hl rv =>
        sorted_key hl ⟨S1, rv, q1.1.1, q1.1.2, q1.2.2⟩ (fun hB1 S2 hx r kk => x.2.2.call (z.hB.trans hB1) S2 ((z.hA.le (d' := 2 * n) (u' := 100 * n + 2) (Nat.le_succ _) (Nat.add_le_add_left (by decide) _)).in1.in1) (.cons r .nil) (q1.2.1 _ hx) fun k s3 a μ3 H3 q S3 L3 r3 => kk k s3 μ3 (q.1 ▸ S3) L3 (keyV_of q.2 r3)) (k.from L1))))))
theorem FR.badd {a : Addr} {o : Obj} (Fr : FR B env nm vs μ h) (ha : ∀ b, Own env b → b ≠ a) : FR (Badd B a o) env nm vs μ h :=
  { kind := Fr.kind, globals := Fr.globals, builtins := Fr.builtins, len := Fr.len, ns := Fr.ns, offL := Fr.offL, newL := (Badd.ne (ha _ (.inl rfl))).trans Fr.newL
    cell := fun x c e => have y := Fr.cell x c e; ⟨y.1, y.2.1, (Badd.ne (ha _ (.inr ⟨x, e⟩))).trans y.2.2.1, y.2.2.2⟩
    apart := Fr.apart, has := Fr.has }
theorem At.badd {a : Addr} {o : Obj} (z : At w cls B0 n B nm env vs A μ H s) (hn : s.heap.get? a = none) (S : SR w cls B μ H s'.heap) (L : Le μ s μ s') (e : s'.heap.get? a = some o) : At w cls B0 n (Badd B a o) nm env vs A μ H s' :=
  have f := fresh_at z.S hn
  ⟨z.hB.trans (Badd.le f.2), z.nd, S.badd f.1 e, (z.Fr.le z.S L).badd fun b hb y => (own_there z.Fr b hb).elim fun o ho => nos (hn.symm.trans (y ▸ ho)), z.hA⟩
theorem ev_dict1 (T : Tx prog w N cls B0 K Γ n) {k v : CE} (h1 : EvS prog w N cls B0 Γ n k) (h2 : EvS prog w N cls B0 Γ n v) : EvS prog w N cls B0 Γ n (.dict1 k v) := @fun B nm env vs A μ H s Q R e z hb q r =>
  i_dict1 (m := fun e => WP prog w A (eval e env) R s) hb fun a b p ha hb => by
    have hD := size_none s.heap
    have f := fresh_at z.S hD
    have g1 : (s.heap.push { cls := .type "dict", data := .dict #[] }).get? s.heap.objs.size = some (dictOf [] 0) := Heap.get?_push_size _ rfl
    have x1 := z.S.grow (h' := s.heap.push { cls := .type "dict", data := .dict #[] }) (tk := s.toks) fun b o e => Heap.get?_push_of_some _ e
    have z1 := z.badd (s' := { s with heap := s.heap.push { cls := .type "dict", data := .dict #[] }, toks := s.toks }) hD x1.1 x1.2 g1
    have hsm : (s.heap.objs.size == sysModules) = false := beq_eq_false_iff_ne.mpr fun y => (T.sysB z.hB).elim fun o ho => nos (hD.symm.trans (y ▸ z.S.base _ _ ho))
    refine wpAny_Dict_walk (knd := strKind prog w) rfl rfl (by simp) (by simp) (pairTrees_cons_walk (h1 z1 ha q fun kv s2 ka μ2 H2 q2 S2 L2 r2 => h2 (z1.next S2 L2) hb q2 fun vv s3 va μ3 H3 q3 S3 L3 r3 => oP_k q3 fun x ex q3 => (r2.str_m ex (m := fun kv => ∃ t, kv = .str x t) fun t => ⟨t, rfl⟩).elim fun t et => ?_))
    rw [et]
    refine wpAny_pure ⟨[(x, vv)], ⟨strKind_is prog w x t, rfl, trivial⟩, str_of (prog := prog) (w := w) (μ := μ) (S3.base _ _ Badd.at) .nil rfl List.nodup_nil fun kvs y d _ => by cases y; exact d, fun h' hd' hs' => ?_⟩
    have off3 := S3.off_of (a := s.heap.objs.size) (o := dictOf [] 0) Badd.at
    have x5 := off_turn (S3.weaken (Badd.le f.2)) (S3.base _ _ Badd.at) (fun _ _ y => absurd (show Value.type "dict" = .type "tuple" from y) (by decide)) (fun y => nomatch y) off3 f.2 hs'
    have y := of_str (w := w) (.cons (r3.mono mu_left x5.2) .nil : KV PyData.str (μ3 ++ [(s.heap.objs.size, s.heap.objs.size)]) h' [(PyData.str x, va)] [(x, vv)]) hd'
    exact adopt_fin (o := .dict [(PyData.str x, va)]) r x5.1 (((x1.2.trans L2).trans L3).turn (tk := s3.toks + [(Value.str x t, vv)].length) hD hs') off3 f.2 hD ⟨rfl, ⟨hsm, y.1⟩, y.2⟩ q3
end
section
variable {prog : Program} {w : World} {cls : Cls} {B0 : Base} {K : Frag} {N : Nam} {Γ : Gam} {n : Nat}
theorem exC_other {k : Nat} {c : CE} (hs : ∀ nm sc e, bE N nm sc c e = true → noComp e = true) : ExC prog w N cls B0 Γ n k c := fun hnc _ _ _ hb _ _ => bf (hnc.symm.trans (hs _ _ _ hb))
structure EvC (prog : Program) (w : World) (N : Nam) (cls : Cls) (B0 : Base) (Γ : Gam) (n : Nat) (c : CE) : Prop where
  s : EvS prog w N cls B0 Γ n c
  t : EvT prog w N cls B0 Γ n c
  c : ∀ k, ExC prog w N cls B0 Γ n k c
structure EvCs (prog : Program) (w : World) (N : Nam) (cls : Cls) (B0 : Base) (Γ : Gam) (n : Nat) (cs : CEs) : Prop where
  l : EvL prog w N cls B0 Γ n cs
  q : EvQ prog w N cls B0 Γ n cs
  b : ∀ o, BoS prog w N cls B0 Γ n o cs
  bt : ∀ o, BoT prog w N cls B0 Γ n o cs
noncomputable def pl (e : PySem.Expr) : Prop := noComp e = true ∧ testShape e = false
theorem EvC.plain {c : CE} (h1 : EvS prog w N cls B0 Γ n c) (hs : ∀ nm sc e, bE N nm sc c e = true → pl e) : EvC prog w N cls B0 Γ n c := ⟨h1, evT_value h1 fun nm sc e hb => (hs nm sc e hb).2, fun _ => exC_other fun nm sc e hb => (hs nm sc e hb).1⟩
theorem EvC.bad : EvC prog w N cls B0 Γ n .bad := ⟨fun _ _ q => q.elim, fun _ _ q => q.elim, fun k => fun _ _ _ _ _ q => q.elim⟩
theorem const_pl {d : PyData} {nm : List PySem.Str} {sc : Scope} {e : PySem.Expr} (hb : bE N nm sc (.const d) e = true) : pl e := by
  induction d using PyData.casesOn with
  | none => exact i_none (m := pl) hb fun _ _ => ⟨rfl, rfl⟩
  | bool b => exact i_bool (m := pl) hb fun _ _ => ⟨rfl, rfl⟩
  | str x => exact i_str (m := pl) hb fun _ _ => ⟨rfl, rfl⟩
  | int i => exact isInt_m (m := pl) hb (fun _ _ => ⟨rfl, rfl⟩) fun _ _ _ => ⟨rfl, rfl⟩
  | _ => exact bf hb
theorem ev_sound (T : Tx prog w N cls B0 K Γ n) : ∀ c : CE, EvC prog w N cls B0 Γ n c :=
  CE.rec (motive_1 := EvC prog w N cls B0 Γ n) (motive_2 := EvCs prog w N cls B0 Γ n) (motive_3 := EvI prog w N cls B0 Γ n)
    .bad
    (fun d => .plain (ev_const d) fun _ _ _ => const_pl)
    (fun i => .plain (ev_var i) fun _ _ _ hb => i_nm1 (m := pl) hb fun _ _ _ _ => ⟨rfl, rfl⟩)
    (fun g => .plain (ev_glob T g) fun _ _ _ hb => i_glob (m := pl) hb fun _ _ => ⟨rfl, rfl⟩)
    (fun _ h => .plain (ev_tup h.l) fun _ _ _ hb => i_tup (m := pl) hb fun _ _ _ _ => ⟨rfl, rfl⟩)
    (fun _ h => .plain (ev_lst h.l) fun _ _ _ hb => i_lst (m := pl) hb fun _ _ _ => ⟨rfl, rfl⟩)
    (.plain (ev_dict0 T) fun _ _ _ hb => i_dict0 (m := pl) hb fun _ => ⟨rfl, rfl⟩)
    (fun _ _ h1 h2 => .plain (ev_dict1 T h1.s h2.s) fun _ _ _ hb => i_dict1 (m := pl) hb fun _ _ _ _ _ => ⟨rfl, rfl⟩)
    (fun _ _ _ h1 h2 => ⟨ev_cmp T h1.s h2.s, evT_cmp T h1.s h2.s, fun _ => exC_other fun _ _ _ hb => i_cmp (m := (noComp · = true)) hb fun _ _ _ _ _ _ => rfl⟩)
    (fun _ h => ⟨ev_and (h.b true), evT_and (h.bt true), fun _ => exC_other fun _ _ _ hb => i_and (m := (noComp · = true)) hb fun _ _ _ => rfl⟩)
    (fun _ h => ⟨ev_or (h.b false), evT_or (h.bt false), fun _ => exC_other fun _ _ _ hb => i_or (m := (noComp · = true)) hb fun _ _ _ => rfl⟩)
    (fun _ h => ⟨ev_not h.s, evT_not h.t, fun _ => exC_other fun _ _ _ hb => i_not (m := (noComp · = true)) hb fun _ _ _ => rfl⟩)
    (fun _ _ _ h1 h2 => .plain (ev_bin h1.s h2.s) fun _ _ _ hb => i_bin (m := pl) hb fun _ _ _ _ _ => ⟨rfl, rfl⟩)
    (fun _ _ _ h0 h1 h2 => ⟨ev_ite h0.t h1.s h2.s, evT_ite h0.t h1.t h2.t, fun _ => exC_other fun _ _ _ hb => i_ite (m := (noComp · = true)) hb fun _ _ _ _ _ _ _ => rfl⟩)
    (fun _ _ h => .plain (ev_attr T h.s) fun _ _ _ hb => i_attr (m := pl) hb fun _ _ _ _ => ⟨rfl, rfl⟩)
    (fun _ _ h1 h2 => .plain (ev_sub T h1.s h2.s) fun _ _ _ hb => i_sub (m := pl) hb fun _ _ _ _ _ => ⟨rfl, rfl⟩)
    (fun _ _ h => .plain (ev_slice h.s) fun _ _ _ hb => i_slice (m := pl) hb fun _ _ _ _ _ _ _ _ _ _ => ⟨rfl, rfl⟩)
    (fun _ _ h => .plain (ev_callF T h.l) fun _ _ _ hb => i_callF (m := pl) hb fun _ _ _ _ _ => ⟨rfl, rfl⟩)
    (fun _ _ _ h0 h => .plain (ev_callM T h0.s h.l) fun _ _ _ hb => i_callM (m := pl) hb fun _ _ _ _ _ _ _ _ _ => ⟨rfl, rfl⟩)
    (fun _ _ h => .plain (ev_callC T h.l) fun _ _ _ hb => i_callC (m := pl) hb fun _ _ _ _ _ => ⟨rfl, rfl⟩)
    (fun _ _ h => .plain (ev_callB T h.l) fun _ _ _ hb => i_callB (m := pl) hb fun _ _ _ _ _ => ⟨rfl, rfl⟩)
    (fun _ _ h => .plain (ev_sortK T h.s) fun _ _ _ hb => i_sortK (m := pl) hb fun _ _ _ _ _ _ _ _ _ => ⟨rfl, rfl⟩)
    (fun a b c d f hE hI hQ => have h : EvS prog w N cls B0 Γ n (.comp a b c d f) := ev_comp hI hE.s hQ.q; ⟨h, evT_value h fun _ _ _ hb => i_comp (m := (testShape · = false)) hb fun _ _ _ _ _ _ _ _ _ _ => rfl, fun _ => exC_comp hI hE.s hQ.q⟩)
    (fun a b c d f g hE hI hI2 => have h : EvS prog w N cls B0 Γ n (.comp2 a b c d f g) := ev_comp2 hI hE.s hI2; ⟨h, evT_value h fun _ _ _ hb => i_comp2 (m := (testShape · = false)) hb fun _ _ _ _ _ _ _ _ _ _ _ => rfl, fun _ => exC_comp2 hI hE.s hI2⟩)
    ⟨evL_nil, evQ_nil, bo_nil, boT_nil⟩
    (fun _ _ h1 h2 => ⟨evL_cons h1.s h2.l, evQ_cons h1.t, fun o => bo_cons h1.s (h2.b o), fun o => boT_cons h1.t (h2.bt o)⟩)
    (fun _ h => evI_over T h.s)
    (fun _ h => evI_range T h.s)
    (fun _ _ h1 h2 => evI_zip T h1.s h2.s)
theorem evi_sound (T : Tx prog w N cls B0 K Γ n) (it : IT) : EvI prog w N cls B0 Γ n it := by
  cases it with
  | over e => exact evI_over T (ev_sound T e).s
  | range e => exact evI_range T (ev_sound T e).s
  | zip a b => exact evI_zip T (ev_sound T a).s (ev_sound T b).s
theorem ex_tup_ {l : List Nat} {c : CE} (h1 : EvS prog w N cls B0 Γ n c) : ExS prog w N cls B0 Γ n (.assign (.tg (.tup l)) c) := @fun B nm env vs A μ H s Q R st z hb q k =>
  i_asg (m := fun st => WP prog w A (exec st env) R s) hb fun g e p htg htu he => i_tgtup (m := fun g => WP prog w A (exec (.Assign [g] e p) env) R s) htg fun es j pt hno => band_k htu fun hnd hpl => ex_tup h1 z hno (nodupN_ok hnd) hpl he q k
theorem ex_asg (T : Tx prog w N cls B0 K Γ n) {e : CE} (h : EvC prog w N cls B0 Γ n e) (t : TgS) : ExS prog w N cls B0 Γ n (.assign t e) :=
  TgS.casesOn (motive := fun t => ExS prog w N cls B0 Γ n (.assign t e)) t (fun t => Tg.casesOn (motive := fun t => ExS prog w N cls B0 Γ n (.assign (.tg t) e)) t (fun i => ex_name h.s (h.c i)) fun l => ex_tup_ h.s) (fun o x => ex_attr T h.s (ev_sound T o).s) fun o i => ex_item T h.s (ev_sound T o).s (ev_sound T i).s
theorem exs_sound (T : Tx prog w N cls B0 K Γ n) : ∀ cs : CSs, ExL prog w N cls B0 Γ n cs :=
  CSs.rec (motive_1 := ExS prog w N cls B0 Γ n) (motive_2 := ExL prog w N cls B0 Γ n)
    (fun _ _ q => q.elim)
    (fun t e => ex_asg T (ev_sound T e) t)
    (fun e => ex_expr (ev_sound T e).s)
    (fun e => ex_ret (ev_sound T e).s)
    (fun c _ _ ha hb => ex_if (ev_sound T c).t ha hb)
    (fun _ c _ hb => ex_while (ev_sound T c).t hb)
    (fun _ it _ hb => ex_for T (evi_sound T it) hb)
    ex_nil
    (fun _ _ h1 h2 => ex_cons h1 h2)
end
section
noncomputable def dstep (slots : List (PySem.Str × Value)) (p : PySem.Str × Value) : List (PySem.Str × Value) := if (slots.lookup p.1).isNone then slots ++ [p] else slots
theorem dfold_skip : ∀ (L slots : List (PySem.Str × Value)), (∀ p ∈ L, (slots.lookup p.1).isSome = true) → L.foldl dstep slots = slots
  | [], _, _ => rfl
  | p :: L, slots, h => by
    rw [List.foldl_cons]
    have hp := h p List.mem_cons_self
    have : dstep slots p = slots := by unfold dstep; rw [if_neg (by cases e : slots.lookup p.1 with | none => rw [e] at hp; cases hp | some _ => simp)]
    rw [this]
    exact dfold_skip L slots fun q hq => h q (List.mem_cons_of_mem _ hq)
theorem lookup_snoc {slots : List (PySem.Str × Value)} {p : PySem.Str × Value} {x : PySem.Str} (h : slots.lookup x = none) (hx : x ≠ p.1) : (slots ++ [p]).lookup x = none := by
  induction slots with
  | nil => rw [List.nil_append, List.lookup_cons, beq_eq_false_iff_ne.mpr hx]; rfl
  | cons q r ih =>
    rw [List.cons_append, List.lookup_cons]
    rw [List.lookup_cons] at h
    cases hq : x == q.1 with
    | true => rw [hq] at h; cases h
    | false => rw [hq] at h; exact ih h
theorem dfold_add : ∀ (L slots : List (PySem.Str × Value)), (L.map (·.1)).Nodup → (∀ p ∈ L, slots.lookup p.1 = none) → L.foldl dstep slots = slots ++ L
  | [], _, _, _ => by simp
  | p :: L, slots, hn, h => by
    rw [List.map_cons, List.nodup_cons] at hn
    rw [List.foldl_cons]
    have : dstep slots p = slots ++ [p] := by unfold dstep; rw [h p List.mem_cons_self]; rfl
    rw [this, dfold_add L _ hn.2 fun q hq => lookup_snoc (h q (List.mem_cons_of_mem _ hq)) fun e => hn.1 (List.mem_map.mpr ⟨q, hq, e⟩)]
    simp
theorem lookup_zip_some : ∀ {names : List PySem.Str} {vs : List Value} {j : Nat} {x : PySem.Str}, names[j]? = some x → j < vs.length → ((names.zip vs).lookup x).isSome = true
  | [], _, _, _, h, _ => by simp at h
  | _ :: _, [], _, _, _, h => by simp at h
  | n :: names, v :: vs, j, x, h, hj => by
    rw [List.zip_cons_cons, List.lookup_cons]
    cases hx : x == n with
    | true => rfl
    | false =>
      cases j with
      | zero => simp at h; rw [h] at hx; simp at hx
      | succ j => exact lookup_zip_some (names := names) (vs := vs) (j := j) (by simpa using h) (by simpa using hj)
theorem lookup_zip_none : ∀ {names : List PySem.Str} {vs : List Value} {x : PySem.Str}, x ∉ names.take vs.length → (names.zip vs).lookup x = none
  | [], _, _, _ => rfl
  | _ :: _, [], _, _ => rfl
  | n :: names, v :: vs, x, h => by
    simp only [List.length_cons, List.take_succ_cons, List.mem_cons, not_or] at h
    rw [List.zip_cons_cons, List.lookup_cons, beq_eq_false_iff_ne.mpr h.1]
    exact lookup_zip_none h.2
theorem fm_congr {α β : Type} {f g : α → Option β} : ∀ {l : List α}, (∀ x ∈ l, f x = g x) → l.filterMap f = l.filterMap g
  | [], _ => rfl
  | x :: l, h => by
    rw [List.filterMap_cons, List.filterMap_cons, h x List.mem_cons_self, fm_congr fun y hy => h y (List.mem_cons_of_mem _ hy)]
theorem zip_app : ∀ (vs ds : List Value) (ns : List PySem.Str), vs.length ≤ ns.length → ns.zip vs ++ (ns.drop vs.length).zip ds = ns.zip (vs ++ ds)
  | [], ds, ns, _ => by simp
  | v :: vs, ds, [], h => by simp at h
  | v :: vs, ds, n :: ns, h => by
    simp only [List.zip_cons_cons, List.cons_append, List.length_cons, List.drop_succ_cons]
    rw [zip_app vs ds ns (by simpa using h)]
theorem zip_fst_sub : ∀ (l : List PySem.Str) (r : List Value), ((l.zip r).map (·.1)).Sublist l
  | [], _ => by simp
  | _ :: _, [] => by simp
  | a :: l, b :: r => by simpa using zip_fst_sub l r
theorem pick_zip : ∀ {names : List PySem.Str} {vs : List Value}, names.Nodup → names.length = vs.length → names.filterMap (fun n => ((names.zip vs).lookup n).map (n, ·)) = names.zip vs
  | [], [], _, _ => rfl
  | [], _ :: _, _, h => by simp at h
  | _ :: _, [], _, h => by simp at h
  | n :: names, v :: vs, hn, h => by
    rw [List.nodup_cons] at hn
    rw [List.zip_cons_cons, List.filterMap_cons, List.lookup_cons, beq_self_eq_true]
    show (n, v) :: names.filterMap (fun x => (((n, v) :: names.zip vs).lookup x).map (x, ·)) = (n, v) :: names.zip vs
    rw [fm_congr (g := fun x => ((names.zip vs).lookup x).map (x, ·)) fun x hx => by rw [List.lookup_cons, beq_eq_false_iff_ne.mpr (show x ≠ n from fun e => hn.1 (e ▸ hx))]]
    rw [pick_zip hn.2 (by simpa using h)]
theorem slots_all {names : List PySem.Str} {vs ds : List Value} (hn : names.Nodup) (h1 : vs.length ≤ names.length) (h2 : names.length ≤ vs.length + ds.length) (h3 : ds.length ≤ names.length) :
    ((names.drop (names.length - ds.length)).zip ds).foldl dstep (names.zip vs) = names.zip (vs ++ ds.drop (vs.length - (names.length - ds.length))) := by
  have hk : names.length - ds.length ≤ vs.length := by omega
  generalize hf : names.length - ds.length = f at *
  have split : (names.drop f).zip ds = ((names.drop f).zip ds).take (vs.length - f) ++ (names.drop vs.length).zip (ds.drop (vs.length - f)) := by
    have e : (names.drop vs.length).zip (ds.drop (vs.length - f)) = ((names.drop f).zip ds).drop (vs.length - f) := by
      rw [List.zip_eq_zipWith, List.zip_eq_zipWith, List.drop_zipWith, List.drop_drop]
      congr 2; omega
    rw [e, List.take_append_drop]
  have e1 : (((names.drop f).zip ds).take (vs.length - f)).foldl dstep (names.zip vs) = names.zip vs := dfold_skip _ _ fun p hp => by
    obtain ⟨i, hi, e⟩ := List.getElem_of_mem hp
    have hi' : i < vs.length - f := by rw [List.length_take] at hi; omega
    rw [List.getElem_take, List.getElem_zip] at e
    subst e
    refine lookup_zip_some (j := f + i) ?_ (by omega)
    rw [List.getElem_drop]
    exact List.getElem?_eq_getElem _
  have e2 : ((names.drop vs.length).zip (ds.drop (vs.length - f))).foldl dstep (names.zip vs) = names.zip vs ++ (names.drop vs.length).zip (ds.drop (vs.length - f)) := by
    refine dfold_add _ _ ((zip_fst_sub _ _).nodup (hn.sublist (List.drop_sublist vs.length names))) fun p hp => lookup_zip_none fun hm => ?_
    obtain ⟨p1, p2⟩ := p
    obtain ⟨hp1, _⟩ := List.of_mem_zip hp
    have := List.nodup_append.mp ((List.take_append_drop vs.length names).symm ▸ hn)
    exact this.2.2 _ hm _ hp1 rfl
  rw [split, List.foldl_append, e1, e2]
  exact zip_app _ _ _ h1
variable {prog : Program} {w : World} {s : Shared} {A : Around} {E : Value → Shared → Prop}
theorem bind_args {fd : FuncData} {names : List PySem.Str} {vs ds : List Value} {Q : List (PySem.Str × Value) → Shared → Prop} (p1 : fd.params.posonlyargs = []) (p2 : fd.params.vararg = none) (p3 : fd.params.kwonlyargs = []) (p4 : fd.params.kwarg = none)
    (hnm : fd.params.args.map (·.arg) = names) (hn : names.Nodup) (h1 : vs.length ≤ names.length) (h2 : names.length ≤ vs.length + ds.length) (h3 : ds.length ≤ names.length)
    (hseq : ∀ (A : Around) (E : Value → Shared → Prop) (Q : Option (Array Value) → Shared → Prop), (∀ o, (o.getD #[]).toList = ds → Q o s) → wpAny (model prog w) A (seqItems? fd.defaults) Q E s)
    (q : Q (names.zip (vs ++ ds.drop (vs.length - (names.length - ds.length)))) s) : wpAny (model prog w) A (bindArgs fd ⟨vs, []⟩) Q E s := by
  unfold bindArgs
  simp only [p1, p2, p3, p4, hnm, List.map_nil, List.nil_append, List.forIn_nil, pure_bind]
  refine wpAny_bind (hseq _ _ _ fun o ho => ?_)
  have hd : ds.drop (ds.length - names.length) = ds := by rw [show ds.length - names.length = 0 by omega]; rfl
  simp only [ho, hd]
  have hno : ¬ (decide (vs.length > names.length) && (none : Option PySem.Arg).isNone) = true := by
    rw [decide_eq_false (by omega)]; simp
  have hmiss : List.filter (fun n => (List.lookup n (names.zip vs)).isNone) (List.take (names.length - ds.length) names) = [] := by
    refine List.filter_eq_nil_iff.mpr fun x hx => ?_
    obtain ⟨i, hi, e⟩ := List.getElem_of_mem hx
    rw [List.length_take] at hi
    rw [List.getElem_take] at e
    have := lookup_zip_some (vs := vs) (List.getElem?_eq_some_iff.mpr ⟨by omega, e⟩) (by omega)
    cases h : List.lookup x (names.zip vs) with
    | none => rw [h] at this; cases this
    | some _ => simp
  have hloop : ∀ (L slots : List (PySem.Str × Value)), (forIn L slots fun x __s => if (List.lookup x.fst __s).isNone = true then pure (ForInStep.yield (__s ++ [(x.fst, x.snd)])) else pure (ForInStep.yield __s) : Sem (List (PySem.Str × Value))) = pure (L.foldl dstep slots) := by
    intro L
    induction L with
    | nil => intro slots; rw [List.forIn_nil]; rfl
    | cons p L ih =>
      intro slots
      rw [List.forIn_cons, List.foldl_cons]
      have e : dstep slots p = if (slots.lookup p.1).isNone then slots ++ [p] else slots := rfl
      by_cases hc : (List.lookup p.fst slots).isNone = true
      · rw [if_pos hc, pure_bind, e, if_pos hc]; exact ih _
      · rw [if_neg hc, pure_bind, e, if_neg hc]; exact ih _
  rw [if_neg hno, hmiss, if_neg (by decide), hloop, pure_bind, if_neg (by decide)]
  refine wpAny_pure ?_
  rw [slots_all hn h1 h2 h3, List.append_nil, pick_zip hn (by rw [List.length_append, List.length_drop]; omega)]
  exact q
end
section
variable {prog : Program} {w : World} {cls : Cls} {B B0 : Base} {μ μ₀ μ' μ'' : Mu} {H H' : AH} {s s₀ s' s'' : Shared} {h h' : Heap} {A : Around} {K : Frag} {N : Nam} {Γ : Gam} {n : Nat} {env : Env} {nm : List PySem.Str} {vs vs' : Vars}

noncomputable def fullArgs (D : FnDef) (as : List AV) : List AV := as ++ (D.dfl.drop (as.length - (D.np - D.dfl.length))).map .py
noncomputable def outK (Q : K1) : K2 := fun o _ H' => match o with
  | .ret a => Q a H'
  | .next => Q (.py .none) H'
noncomputable def bodySpec (Γ : Gam) (D : FnDef) : Spec := fun as H Q => bP (Nat.ble as.length D.np && Nat.ble D.np (as.length + D.dfl.length)) (eSs Γ D.body ((fullArgs D as).map some ++ List.replicate (D.nm.length - D.np) none) H (outK Q))
structure FnIs (B0 : Base) (N : Nam) (D : FnDef) (fd : FuncData) (body : List Stmt) (ds : List Value) : Prop where
  co : fd.scope.isCoroutine = false
  gen : fd.scope.isGenerator = false
  stmts : fd.body = .stmts body
  code : ∀ h, Holds B0 h → h.CodeRec fd.code fd.qualname
  kind : fd.scope.kind = .function
  closure : fd.closure = []
  globals : fd.globals = mainGlobals
  builtins : fd.builtins = builtinsNs
  p1 : fd.params.posonlyargs = []
  p2 : fd.params.vararg = none
  p3 : fd.params.kwonlyargs = []
  p4 : fd.params.kwarg = none
  names : fd.params.args.map (·.arg) = D.nm.take D.np
  np : D.np ≤ D.nm.length
  nodup : D.nm.Nodup
  kinds : ∀ x ∈ D.nm.take D.np, fd.scope.names.lookup x = some .local ∨ fd.scope.names.lookup x = some .cell
  ok : bSs N D.nm fd.scope D.body body = true
  dlen : D.dfl.length ≤ D.np
  dseq : fd.defaults = .none ∧ ds = [] ∨ ∃ t o n, fd.defaults = .ref t ∧ B0 t = some o ∧ o.data = .seq ds.toArray n
  dval : ∀ h, Holds B0 h → VRs [] h (D.dfl.map .py) ds
structure FnI (B0 : Base) (N : Nam) (D : FnDef) (a : Addr) (o : Obj) (fd : FuncData) (body : List Stmt) (ds : List Value) : Prop where
  ho : B0 a = some o
  hd : o.data = .func fd
  i : FnIs B0 N D fd body ds
noncomputable def FnAt (B0 : Base) (N : Nam) (D : FnDef) (a : Addr) : Prop := ∃ o fd body ds, FnI B0 N D a o fd body ds
theorem VRs.up {as : List AV} {vs : List Value} (r : VRs [] h as vs) : VRs μ h as vs := r.mono (fun i p e => nos (List.getElem?_nil.symm.trans e)) (TK.refl h)
theorem cells_has : ∀ {names : List (PySem.Str × NameKind)} {k : Nat} {acc : List (PySem.Str × Addr)} {x : PySem.Str}, (x, NameKind.cell) ∈ names ∨ (acc.lookup x).isSome = true → ((cellsFrom k names acc).lookup x).isSome = true
  | [], k, acc, x, h => h.elim (fun h => nomatch h) id
  | (y, kd) :: r, k, acc, x, h => by
    unfold cellsFrom
    by_cases hk : (kd == .cell) = true
    · rw [if_pos hk]
      refine cells_has (h.elim (fun h => (List.mem_cons.mp h).elim (fun e => .inr ?_) .inl) fun h => .inr ?_)
      · cases e; rw [List.lookup_cons, beq_self_eq_true]; rfl
      · rw [List.lookup_cons]
        cases x == y with
        | true => rfl
        | false => exact h
    · rw [if_neg hk]
      exact cells_has (h.imp (fun h => (List.mem_cons.mp h).elim (fun e => absurd (beq_iff_eq.mpr (congrArg Prod.snd e).symm) hk) id) id)
theorem bindL_other {kindOf : PySem.Str → Option NameKind} : ∀ {binds : List (PySem.Str × Value)} {m : PySem.Str → Option Value} {x : PySem.Str}, x ∉ binds.map (·.1) → bindL kindOf binds m x = m x
  | [], _, _, _ => rfl
  | (y, v) :: r, m, x, h => by
    have h1 : x ∉ r.map (·.1) := fun z => h (List.mem_cons_of_mem _ z)
    have h2 : ¬ x = y := fun z => h (z ▸ List.mem_cons_self)
    unfold bindL
    by_cases hk : kindOf y = some .local
    · rw [if_pos hk, bindL_other h1, if_neg h2]
    · rw [if_neg hk, bindL_other h1]
theorem bindC_other {kindOf : PySem.Str → Option NameKind} : ∀ {binds : List (PySem.Str × Value)} {m : PySem.Str → Option Value} {x : PySem.Str}, x ∉ binds.map (·.1) → bindC kindOf binds m x = m x
  | [], _, _, _ => rfl
  | (y, v) :: r, m, x, h => by
    have h1 : x ∉ r.map (·.1) := fun z => h (List.mem_cons_of_mem _ z)
    have h2 : ¬ x = y := fun z => h (z ▸ List.mem_cons_self)
    unfold bindC
    by_cases hk : kindOf y = some .local
    · rw [if_pos hk, bindC_other h1]
    · rw [if_neg hk, bindC_other h1, if_neg h2]
theorem bind_at {kindOf : PySem.Str → Option NameKind} : ∀ {binds : List (PySem.Str × Value)} {m cm : PySem.Str → Option Value} {x : PySem.Str} {v : Value}, (binds.map (·.1)).Nodup → (x, v) ∈ binds →
    (kindOf x = some .local → bindL kindOf binds m x = some v) ∧ (¬ kindOf x = some .local → bindC kindOf binds cm x = some v)
  | [], _, _, _, _, _, h => nomatch h
  | (y, u) :: r, m, cm, x, v, hn, h => by
    have hn := List.nodup_cons.mp hn
    unfold bindL bindC
    refine (List.mem_cons.mp h).elim (fun e => ?_) fun h => bind_at hn.2 h
    cases e
    exact ⟨fun hk => by rw [bindL_other hn.1, if_pos hk, if_pos rfl], fun hk => by rw [bindC_other hn.1, if_neg hk, if_pos rfl]⟩
theorem call_frame {scope : Scope} {qual : PySem.Str} {func : Option Addr} {code : Value} {full : List AV} {vals : List Value} {np : Nat} (S : SR w cls B μ H s.heap) (hk : scope.kind = .function) (hn : nm.Nodup) (hnp : np ≤ nm.length)
    (kinds : ∀ x ∈ nm.take np, scope.names.lookup x = some .local ∨ scope.names.lookup x = some .cell) (rv : VRs μ s.heap full vals) (hl : full.length = np)
    (he : env = newEnv scope s.heap.objs.size mainGlobals (cellsFrom (s.heap.objs.size + 1) scope.names []) qual func code none builtinsNs)
    (x : InCallC s env.locals (bindL env.kindOf ((nm.take np).zip vals) fun _ => none) env.cells (bindC env.kindOf ((nm.take np).zip vals) fun _ => none) s') {G : Prop}
    (g : SR w cls B μ H s'.heap → Le μ s μ s' → FR B env nm (full.map some ++ List.replicate (nm.length - np) none) μ s'.heap → (∀ a, Own env a → s.heap.get? a = none) → G) : G := by
  obtain ⟨h', tk, rfl, keep⟩ := x.done
  have y := S.grow (h' := h') (tk := tk) keep
  have hown : ∀ a, Own env a → s.heap.get? a = none := fun a ha => ha.elim (fun e => e ▸ Heap.get?_none_of_le x.toInCall.fresh) fun z => z.elim fun _ e => Heap.get?_none_of_le (Nat.le_trans x.toInCall.fresh (Nat.le_of_lt (x.above _ _ (mem_of_lookup e))))
  have fresh : ∀ a, Own env a → Off μ a ∧ B a = none := fun a ha => fresh_at S (hown a ha)
  have hm : (full.map some).length = np := (List.length_map _).trans hl
  refine g y.1 y.2 ⟨by rw [he]; exact hk, by rw [he]; rfl, by rw [he]; rfl, by rw [List.length_append, hm, List.length_replicate]; exact Nat.add_sub_cancel' hnp, ⟨_, x.toInCall.ns, fun i y' a e1 e2 => ?_⟩, (fresh _ (.inl rfl)).1, (fresh _ (.inl rfl)).2, fun y c e => ⟨⟨_, x.cell y c e⟩, (fresh _ (.inr ⟨y, e⟩)).1, (fresh _ (.inr ⟨y, e⟩)).2, Nat.ne_of_gt (x.above _ _ (mem_of_lookup e))⟩, fun y z c e1 e2 => name_of_addr x.apart (mem_of_lookup e1) (mem_of_lookup e2), fun y hy => ?_⟩ hown
  · rcases Nat.lt_or_ge i np with hi | hi
    · rw [List.getElem?_append_left (hm ▸ hi), List.getElem?_map] at e2
      refine om_k e2 fun b hb e2 => ?_
      cases e2
      obtain ⟨v, hv, r⟩ := rv.get hb
      have hy : (nm.take np)[i]? = some y' := (List.getElem?_take ..).trans ((if_pos hi).trans e1)
      have z := bind_at (kindOf := env.kindOf) (m := fun _ => none) (cm := fun _ => none) ((zip_fst_sub _ vals).nodup (hn.sublist (List.take_sublist np _))) (List.mem_of_getElem? (List.getElem?_zip_eq_some.mpr ⟨hy, hv⟩))
      have hkk : env.kindOf y' = some .local ∨ env.kindOf y' = some .cell := by rw [he]; exact kinds y' (List.mem_of_getElem? hy)
      refine ⟨v, r.mono (fun _ _ e => e) (y.2.tk S), hkk.imp (fun hkk => ⟨hkk, z.1 hkk⟩) fun hkk => ⟨hkk, ?_⟩⟩
      have hc : (env.cells.lookup y').isSome = true := by
        rw [he] at hkk ⊢
        exact cells_has (.inl (mem_of_lookup hkk))
      exact (Option.isSome_iff_exists.mp hc).imp fun c hc => ⟨hc, by have := x.cell y' c hc; rwa [z.2 (by rw [hkk]; exact fun z => nomatch z)] at this⟩
    · rw [List.getElem?_append_right (hm ▸ hi), List.getElem?_replicate] at e2
      by_cases z : i - (full.map some).length < nm.length - np
      · rw [if_pos z] at e2; exact nos (Option.some.inj e2)
      · rw [if_neg z] at e2; exact nos e2
  · rw [he] at hy ⊢
    exact Option.isSome_iff_exists.mp (cells_has (.inl (mem_of_lookup hy)))
theorem fn_entry (T : Tx prog w N cls B0 K Γ n) (hlim : ∀ h, Holds B0 h → h.NoLimit) {D : FnDef} {a : Addr} {o : Obj} {fd : FuncData} {body : List Stmt} {ds : List Value} (hf : FnI B0 N D a o fd body ds) : FnOk prog w cls B0 (n + 1) (.ref a) (bodySpec Γ D) := by
  intro B hB A μ H s as vals Q S hA r q
  have I := hf.i
  refine bP_k q fun q1 q3 => band_k q1 fun q1 q2 => ?_
  have q1 := Nat.le_of_ble_eq_true q1
  have q2 := Nat.le_of_ble_eq_true q2
  have hh := holds_sr S hB
  have hlen := r.length
  have hdl := (I.dval _ hh).length
  rw [List.length_map] at hdl
  have hdr : A.depth < recursionLimit := Nat.lt_of_le_of_lt (Nat.le_add_right _ _) hA.depth
  have hnl : (D.nm.take D.np).length = D.np := (List.length_take ..).trans (Nat.min_eq_left I.np)
  have dlen := I.dlen
  refine codeAny_call_function hdr (hh _ _ hf.ho) hf.hd I.co I.gen I.stmts (I.code _ hh) (WP.any ?_)
  refine bind_args (names := D.nm.take D.np) (ds := ds) I.p1 I.p2 I.p3 I.p4 I.names (I.nodup.sublist (List.take_sublist _ _)) (hnl.symm ▸ hlen ▸ q1) (hnl.symm ▸ hlen ▸ hdl ▸ q2) (hnl.symm ▸ hdl ▸ dlen) (fun A E Q q => I.dseq.elim (fun z => ?_) fun z => z.elim fun t z => z.elim fun ot z => z.elim fun nt z => ?_) ?_
  · rw [z.1]
    exact wpAny_bind (wpAny_pure (wpAny_pure (q none z.2.symm)))
  · rw [z.1]
    exact wpAny_seqItems (hh _ _ z.2.1) z.2.2 (q _ rfl)
  · rw [hnl, I.closure, I.globals, I.builtins]
    have rfull : VRs μ s.heap (fullArgs D as) (vals ++ ds.drop (vals.length - (D.np - ds.length))) := by
      unfold fullArgs
      rw [hlen, hdl, List.map_drop]
      exact r.append ((I.dval _ hh).up.drop _)
    have hfl : (fullArgs D as).length = D.np := by
      unfold fullArgs
      rw [List.length_append, List.length_map, List.length_drop]; omega
    refine WP.any (wpAny_newFunctionEnv_cells I.kind (fun x hx => ?_) fun env he s' x => ?_)
    · exact (I.kinds x.1 ((zip_fst_sub _ _).subset (List.mem_map_of_mem hx))).imp id fun hk => ⟨hk, cells_has (.inl (mem_of_lookup hk))⟩
    · refine call_frame S I.kind I.nodup I.np I.kinds rfull hfl he x fun S' L' F' hown => ⟨hlim _ (holds_sr S' hB), codeAny_func (WP.any ?_)⟩
      have lf : ∀ {μ2 s2}, LeX (Own env) μ s' μ2 s2 → Le μ s μ2 s2 := fun L2 => ((LeX.of (X := Own env) L' S).trans L2).le hown
      have Z : At w cls B0 n B D.nm env ((fullArgs D as).map some ++ List.replicate (D.nm.length - D.np) none) (A.deeper env) μ H s' := ⟨hB, I.nodup, S', F', AOk.deeper (hA.le (Nat.le_refl _) (show 100 * n + 75 + 3 ≤ 100 * (n + 1) by omega))⟩
      exact exs_sound T D.body Z (by rw [he]; exact I.ok) q3 ⟨fun _ μ2 H2 _ q4 S2 _ L2 => ⟨_, μ2, H2, q4, S2, lf L2, vr_none⟩, fun a2 _ _ μ2 H2 _ q4 S2 _ L2 r2 => ⟨a2, μ2, H2, q4, S2, lf L2, r2⟩⟩
end
section
variable {prog : Program} {w : World} {cls : Cls} {B B0 B1 : Base} {μ μ₀ μ' μ'' : Mu} {H H' : AH} {s s₀ s' s'' : Shared} {h h' : Heap} {A : Around} {K : Frag} {N : Nam} {Γ : Gam} {n : Nat} {env : Env} {nm : List PySem.Str} {vs vs' : Vars}

mutual
noncomputable def refsA (m : Nat) : AV → Bool
  | .py _ => true
  | .ref i => Nat.blt i m
  | .mix xs => refsAs m xs
  | .fro _ => true
noncomputable def refsAs (m : Nat) : List AV → Bool
  | [] => true
  | a :: r => refsA m a && refsAs m r
end
noncomputable abbrev still (a : AV) : Bool := refsA 0 a
noncomputable abbrev stills (as : List AV) : Bool := refsAs 0 as
theorem VR.via {m : Nat} {a : AV} {v : Value} (k : ∀ (i : Nat) (p : Addr × Addr), i < m → μ[i]? = some p → μ'[i]? = some p) (r : VR μ h a v) : refsA m a = true → VR μ' h a v :=
  r.rec (motive_1 := fun a v _ => refsA m a = true → VR μ' h a v) (motive_2 := fun as vs _ => refsAs m as = true → VRs μ' h as vs)
    (fun r _ => .py r) (fun hp e => .ref (k _ _ (Nat.blt_eq.mp e) hp)) (fun h1 h2 h3 _ ih e => .mix h1 h2 h3 (ih e)) (fun _ => .fro) (fun _ => .nil) (fun _ _ i1 i2 e => band_k e fun e1 e2 => .cons (i1 e1) (i2 e2))
theorem VRs.via {m : Nat} (k : ∀ (i : Nat) (p : Addr × Addr), i < m → μ[i]? = some p → μ'[i]? = some p) : ∀ {as : List AV} {vs : List Value}, VRs μ h as vs → refsAs m as = true → VRs μ' h as vs := fun r => by
  induction r using VRs.rec (motive_1 := fun _ _ _ => True) with
  | nil => exact fun _ => .nil
  | cons h1 h2 _ ih => exact fun e => band_k e fun e1 e2 => .cons (h1.via k e1) (ih e2)
  | _ => trivial
theorem still_vr {a : AV} {v : Value} (e : still a = true) (r : VR μ h a v) : VR μ' h a v := r.via (m := 0) (fun _ _ h => nomatch h) e
theorem stills_vr {as : List AV} {vs : List Value} (e : stills as = true) (r : VRs μ h as vs) : VRs μ' h as vs := r.via (m := 0) (fun _ _ h => nomatch h) e
noncomputable def pureK (m : Nat) (H : AH) (Q : K1) : K1 := fun r H' => (still r = true ∧ Q r H) ∨ (∃ j xs, r = .ref j ∧ m ≤ j ∧ H'[j]? = some (.list xs) ∧ stills xs = true ∧ Q (.ref H.length) (H ++ [.list xs]))
noncomputable def pureSpec (S : Spec) : Spec := fun as H Q => stills as = true ∧ S as [] (pureK 0 H Q)
noncomputable def pureL (k : Nat) (S : Spec) : Spec := fun as H Q => ∃ i xs, as[k]? = some (.ref i) ∧ H[i]? = some (.list xs) ∧ stills xs = true ∧ stills (as.eraseIdx k) = true ∧ S (as.set k (.ref 0)) [.list xs] fun r H' => H'[0]? = some (.list xs) ∧ pureK 1 H Q r H'
theorem same_rest {μ ν : Mu} (L : Le μ s ν s') : { s with heap := s'.heap, toks := s'.toks } = s' := by
  have e1 := L.gens; have e2 := L.drawn; have e3 := L.os
  cases s'; cases s; simp_all
theorem pure_end {B1 : Base} {m : Nat} {Q : K1} {a : AV} {v : Value} (hS : SR w cls B μ H s.heap) (S1 : SR w cls B μ H s'.heap) (L1 : Le μ s μ s') (S' : SR w cls B1 μ' H' s'.heap) (hν : ∀ j p, m ≤ j → μ'[j]? = some p → s.heap.get? p.1 = none ∧ s.heap.get? p.2 = none)
    (hk : pureK m H Q a H') (r' : VR μ' s'.heap a v) : PV w cls B μ s Q v s' :=
  hk.elim (fun z => ⟨a, μ, H, z.2, S1, L1, still_vr z.1 r'⟩) fun z => z.elim fun j z => z.elim fun xs z => by
    rw [z.1] at r'
    refine list_m S' r' rfl (hL_of z.2.2.1) (m := fun v => PV w cls B μ s Q v s') fun l ws n hp hl rv => ?_
    have hpn := hν j _ z.2.1 hp
    have f := fresh_at hS hpn.2
    exact adopt_fin (o := .list xs) (Ret.pv Q) S1 L1 f.1 f.2 hpn.2 ⟨rfl, ws, n, hl, stills_vr z.2.2.2.1 rv⟩ z.2.2.2.2
theorem FnOk.pure {n : Nat} {f : Value} {S : Spec} (x : FnOk prog w cls B0 n f S) : FnOk prog w cls B0 n f (pureSpec S) := fun B hB A μ H s as vs Q hS hA r q =>
  have S0 : SR w cls (fun a => s.heap.get? a) [] [] s.heap := ⟨rfl, List.nodup_nil, fun i o p e => nos (List.getElem?_nil.symm.trans e), fun a o e => e, fun p hp => nomatch hp⟩
  codeAny_mono (x (fun a => s.heap.get? a) (fun a o e => hS.base a o (hB a o e)) A [] [] s as vs _ S0 hA (stills_vr q.1 r) q.2) fun rr s' z => RV.mono z fun v z => by
    obtain ⟨a, μ', H', hk, S', L', r'⟩ := z
    have y := hS.grow (h' := s'.heap) (tk := s'.toks) fun b o e => S'.base b o e
    rw [same_rest L'] at y
    exact pure_end hS y.1 y.2 S' (fun j p _ hp => L'.ext.elim fun ν z => z.2 p (by have e := z.1; rw [List.nil_append] at e; exact e ▸ List.mem_of_getElem? hp)) hk r'
theorem set_vr {p : Addr × Addr} {i : Nat} (hp : μ[i]? = some p) : ∀ {k : Nat} {as : List AV} {vs : List Value}, as[k]? = some (.ref i) → stills (as.eraseIdx k) = true → VRs μ h as vs → VRs [p] h (as.set k (.ref 0)) vs := fun {k} {as} {vs} ek hs r => by
  induction r using VRs.rec (motive_1 := fun _ _ _ => True) generalizing k with
  | nil => exact nos (List.getElem?_nil.symm.trans ek)
  | cons h1 h2 _ ih =>
    cases k with
    | zero =>
      cases Option.some.inj ek
      exact .cons (h1.ref_m rfl (m := fun v => VR [p] h (.ref 0) v) fun q hq => by cases Option.some.inj (hp.symm.trans hq); exact .ref rfl) (stills_vr hs h2)
    | succ k => exact band_k hs fun e1 e2 => .cons (still_vr e1 h1) (ih ek e2)
  | _ => trivial
theorem FnOk.pureL {n k : Nat} {f : Value} {S : Spec} (x : FnOk prog w cls B0 n f S) : FnOk prog w cls B0 n f (Mine.pureL k S) := by
  intro B hB A μ H s as vs Q hS hA r q
  obtain ⟨i, xs, ek, ei, hxs, hst, q⟩ := q
  obtain ⟨p, hp, hpp, ws, m, hl, rv⟩ := hS.at_ ei
  have hpm : p ∈ μ := List.mem_of_getElem? hp
  have S0 : SR w cls (fun a => if a = p.2 then none else s.heap.get? a) [p] [.list xs] s.heap := by
    refine ⟨rfl, List.nodup_cons.mpr ⟨(nomatch ·), List.nodup_nil⟩, fun i o q e e' => ?_, fun a o e => ?_, fun q hq => List.mem_singleton.mp hq ▸ if_pos rfl⟩
    · cases i with
      | zero => cases Option.some.inj e; cases Option.some.inj e'; exact ⟨hpp, ws, m, hl, stills_vr hxs rv⟩
      | succ i => exact nomatch e
    · by_cases z : a = p.2
      · rw [if_pos z] at e; exact nos e
      · rw [if_neg z] at e; exact e
  have hpB : ∀ a o, B a = some o → a ≠ p.2 := fun a o e z => nos ((hS.new p hpm).symm.trans (z ▸ e))
  refine codeAny_mono (x _ (fun a o e => (if_neg (hpB a o (hB a o e))).trans (hS.base a o (hB a o e))) A [p] [.list xs] s (as.set k (.ref 0)) vs _ S0 hA (set_vr hp ek hst r) q) fun rr s' z => RV.mono z fun v z => ?_
  obtain ⟨a, μ', H', ⟨h0, hk⟩, S', L', r'⟩ := z
  have keep : ∀ b o, b ≠ p.2 → s.heap.get? b = some o → s'.heap.get? b = some o := fun b o hne e => S'.base b o ((if_neg hne).trans e)
  have tk := L'.tk S0
  have S1 : SR w cls B μ H s'.heap := by
    refine ⟨hS.len, hS.nodup, fun j o q ej eq => ?_, fun b o e => keep b o (hpB b o e) (hS.base b o e), hS.new⟩
    by_cases hj : j = i
    · cases hj
      cases Option.some.inj (ei.symm.trans ej)
      cases Option.some.inj (hp.symm.trans eq)
      obtain ⟨_, ws', m', hl', rv'⟩ := S'.obj 0 _ p h0 (L'.mu 0 p rfl)
      exact ⟨hpp, ws', m', hl', stills_vr hxs rv'⟩
    · have hne := nodup_get hS.nodup eq hp hj
      have z := hS.obj j o q ej eq
      refine z.mono_ne (fun _ _ e => e) tk (fun y e => keep _ y hne e) fun y e => ?_
      induction o using AO.casesOn with
      | list ys => rw [z.1] at e ⊢; exact keep _ y hne e
      | dict ys => rw [z.1] at e ⊢; exact keep _ y hne e
      | inst c fs =>
        obtain ⟨_, _, h1, _⟩ := z
        refine keep _ y (fun z => ?_) e
        rw [z] at h1
        exact nomatch congrArg Obj.data (Option.some.inj (hl.symm.trans h1))
  have L1 : Le μ s μ s' := ⟨L'.gens, L'.drawn, L'.os, ⟨[], (List.append_nil _).symm, fun _ h => nomatch h⟩, fun b o e hm => keep b o (fun z => hm (z ▸ List.mem_map_of_mem hpm)) e, L'.alive⟩
  refine pure_end hS S1 L1 S' (fun j q hj hq => ?_) hk r'
  obtain ⟨ν, e, hν⟩ := L'.ext
  rw [e, List.getElem?_append_right hj] at hq
  exact hν q (List.mem_of_getElem? hq)
noncomputable def refsP {α : Type} (m : Nat) : List (α × AV) → Bool
  | [] => true
  | e :: r => refsA m e.2 && refsP m r
noncomputable def refsO (m : Nat) : AO → Bool
  | .list xs => refsAs m xs
  | .dict es => refsP m es
  | .inst _ fs => refsP m fs
noncomputable def refsH (m : Nat) : AH → Bool
  | [] => true
  | o :: r => refsO m o && refsH m r
theorem cut_le {ν : Mu} : ∀ (i : Nat) (p : Addr × Addr), i < μ.length → (μ ++ ν)[i]? = some p → μ[i]? = some p := fun _ _ hi e => (List.getElem?_append_left hi).symm.trans e
theorem OR.cut {ν : Mu} {o : AO} {p : Addr × Addr} (e : refsO μ.length o = true) (x : OR w cls (μ ++ ν) h o p) : OR w cls μ h o p := by
  cases o with
  | list xs => exact ⟨x.1, x.2.imp fun vs z => z.imp fun n z => ⟨z.1, z.2.via cut_le e⟩⟩
  | dict es => exact ⟨x.1, x.2.1, x.2.2.imp fun r z => z.imp fun n z => ⟨z.1, DR.ind (P := fun es r => refsP μ.length es = true → DR w μ h es r) (fun _ => .nil) (fun _ _ _ _ _ h1 h2 h3 _ ih e => band_k e fun e1 e2 => .cons h1 (h2.via cut_le e1) h3 (ih e2)) z.2 e⟩⟩
  | inst c fs => exact x.imp fun r z => z.imp fun n z => ⟨z.1, z.2.1, z.2.2.rec (motive := fun es r _ => refsP μ.length es = true → FD μ h es r) (fun _ => .nil) (fun h1 h2 _ ih e => band_k e fun e1 e2 => .cons h1 (h2.via cut_le e1) (ih e2)) e⟩
theorem refsH_at {m : Nat} : ∀ {H : AH} {i : Nat} {o : AO}, refsH m H = true → H[i]? = some o → refsO m o = true
  | [], _, _, _, e => nos (List.getElem?_nil.symm.trans e)
  | x :: r, 0, o, h, e => band_k h fun h1 _ => Option.some.inj e ▸ h1
  | x :: r, i + 1, o, h, e => band_k h fun _ h2 => refsH_at h2 e
noncomputable def dropSpec (S : Spec) : Spec := fun as H Q => S as H fun a H' => H.length ≤ H'.length ∧ refsH H.length (H'.take H.length) = true ∧ refsA H.length a = true ∧ Q a (H'.take H.length)
theorem FnOk.drop {n : Nat} {f : Value} {S : Spec} (x : FnOk prog w cls B0 n f S) : FnOk prog w cls B0 n f (dropSpec S) := fun B hB A μ H s as vs Q hS hA r q =>
  codeAny_mono (x B hB A μ H s as vs _ hS hA r q) fun rr s' z => RV.mono z fun v z => by
    obtain ⟨a, μ', H', ⟨h1, h2, h3, hq⟩, S', L', r'⟩ := z
    obtain ⟨ν, rfl, hν⟩ := L'.ext
    have hl := hS.len
    rw [← hl] at h1 h2 h3 hq
    have len : (H'.take μ.length).length = μ.length := (List.length_take ..).trans (Nat.min_eq_left h1)
    refine ⟨a, μ, H'.take μ.length, hq, ⟨len.symm, hS.nodup, fun i o p e1 e2 => ?_, S'.base, fun p hp => S'.new p (List.mem_append_left _ hp)⟩, ⟨L'.gens, L'.drawn, L'.os, ⟨[], (List.append_nil _).symm, fun _ h => nomatch h⟩, L'.keep, L'.alive⟩, r'.via cut_le h3⟩
    have hi : i < μ.length := (List.getElem?_eq_some_iff.mp e2).1
    exact (S'.obj i o p (((List.getElem?_take ..).trans (if_pos hi)).symm.trans e1) ((List.getElem?_append_left hi).trans e2)).cut (refsH_at h2 e1)
inductive anySpec (S : Spec) (as : List AV) (H : AH) (Q : K1) : Prop
  | go (q : S as H Q)
  | pu (q : pureSpec S as H Q)
  | pl (k : Nat) (q : pureL k S as H Q)
  | dr (q : dropSpec S as H Q)
theorem FnOk.any {n : Nat} {f : Value} {S : Spec} (x : FnOk prog w cls B0 n f S) : FnOk prog w cls B0 n f (anySpec S) := fun B hB A μ H s as vs Q hS hA r q =>
  q.rec (fun q => x B hB A μ H s as vs Q hS hA r q) (fun q => x.pure B hB A μ H s as vs Q hS hA r q) (fun _ q => x.pureL B hB A μ H s as vs Q hS hA r q) fun q => x.drop B hB A μ H s as vs Q hS hA r q

structure Txt where
  N : Nam
  fnD : Nat → FnDef
  globV : Nat → PyData
  meD : Nat → PySem.Str → FnDef
  attrs : Nat → PySem.Str → Bool
  meths : Nat → PySem.Str → Bool
noncomputable def mkG (P : Txt) (frz : Frz) (r : (Nat → Spec) × (Nat → PySem.Str → Spec)) : Gam := { frz := frz, glob := fun g => .py (P.globV g), fn := r.1, me := r.2, attrs := P.attrs, meths := P.meths }
noncomputable def denF (P : Txt) (frz : Frz) : Nat → (Nat → Spec) × (Nat → PySem.Str → Spec)
  | 0 => (fun _ _ _ _ => False, fun _ _ _ _ _ => False)
  | n + 1 => (fun f => anySpec (bodySpec (mkG P frz (denF P frz n)) (P.fnD f)), fun c x => anySpec (bodySpec (mkG P frz (denF P frz n)) (P.meD c x)))
noncomputable def den (P : Txt) (frz : Frz) (n : Nat) : Gam := mkG P frz (denF P frz n)
structure FNs (P : Txt) (cls : Cls) (B0 : Base) (K : Frag) (mg mb : PySem.Str → Option Value) : Prop where
  ns : ∀ h, Holds B0 h → h.Ns mainGlobals mg ∧ h.Ns builtinsNs mb
  fn : ∀ f, ∃ a, mg (P.N.fn f) = some (.ref a) ∧ keepIn K (.ref a) = true ∧ FnAt B0 P.N (P.fnD f) a
  cl : ∀ c, mg (P.N.cls c) = some (.ref (cls c)) ∧ keepIn K (.ref (cls c)) = true
  glob : ∀ g, ∃ v, mg (P.N.glob g) = some v ∧ ∀ h, Holds B0 h → VR [] h (.py (P.globV g)) v
  bn : ∀ b, mg (bnOf b) = none ∧ mb (bnOf b) = some (bnV b)
  rng : mg "range" = none ∧ mb "range" = some (.type "range")
  zip : mg "zip" = none ∧ mb "zip" = some (.type "zip")
structure FMe (P : Txt) (cls : Cls) (B0 : Base) (K : Frag) (c : Nat) (x : PySem.Str) (f : Addr) : Prop where
  co : clsOkB K (cls c) = true
  mo : methOkB K (cls c) x f = true
  at_ : FnAt B0 P.N (P.meD c x) f
  init : x = "__init__" → makesIn K (cls c) = true
structure Facts (P : Txt) (cls : Cls) (B0 : Base) (K : Frag) : Prop where
  kIn : ∀ a o, K.lookup a = some o → B0 a = some o
  sys : ∃ o, B0 sysModules = some o
  lim : ∀ h, Holds B0 h → h.NoLimit
  ns : ∃ mg mb, FNs P cls B0 K mg mb
  me : ∀ c x, P.meths c x = true → ∃ f, FMe P cls B0 K c x f
  attrs : ∀ c x, P.attrs c x = true → clsOkB K (cls c) = true ∧ attrOkB K (cls c) x = true
theorem FnAt.mono {D : FnDef} {a : Addr} (x : FnAt B0 N D a) (hB : BLe B0 B1) : FnAt B1 N D a := x.imp fun _ x => x.imp fun _ x => x.imp fun _ x => x.imp fun _ x =>
  ⟨hB _ _ x.ho, x.hd, { x.i with code := fun h hh => x.i.code h (hh.le hB), dseq := x.i.dseq.imp_right fun ⟨t, o, n, e, ho, hd⟩ => ⟨t, o, n, e, hB _ _ ho, hd⟩, dval := fun h hh => x.i.dval h (hh.le hB) }⟩
theorem Facts.mono {P : Txt} (x : Facts P cls B0 K) (hB : BLe B0 B1) : Facts P cls B1 K :=
  ⟨fun a o e => hB _ _ (x.kIn a o e), x.sys.imp fun o e => hB _ _ e, fun h hh => x.lim h (hh.le hB), x.ns.imp fun _ y => y.imp fun _ y =>
    ⟨fun h hh => y.ns h (hh.le hB), fun f => (y.fn f).imp fun a z => ⟨z.1, z.2.1, z.2.2.mono hB⟩, y.cl, fun g => (y.glob g).imp fun v z => ⟨z.1, fun h hh => z.2 h (hh.le hB)⟩, y.bn, y.rng, y.zip⟩,
    fun c x' e => (x.me c x' e).imp fun f z => ⟨z.co, z.mo, z.at_.mono hB, z.init⟩, x.attrs⟩
theorem tx_of {P : Txt} (x : Facts P cls B0 K) {frz : Frz} (fz : FzOk w cls B0 frz) (n : Nat) (k : ∀ {D a}, FnAt B0 P.N D a → (∀ f, D = P.fnD f → FnOk prog w cls B0 n (.ref a) ((den P frz n).fn f)) ∧ ∀ c x, D = P.meD c x → FnOk prog w cls B0 n (.ref a) ((den P frz n).me c x)) : Tx prog w P.N cls B0 K (den P frz n) n :=
  ⟨x.kIn, fz, x.sys, x.ns.imp fun _ y => y.imp fun _ y => ⟨y.ns, fun f => (y.fn f).imp fun a z => ⟨z.1, z.2.1, (k z.2.2).1 f rfl⟩, y.cl, y.glob, y.bn, y.rng, y.zip⟩,
    fun c x' e => (x.me c x' e).imp fun f z => ⟨z.co, z.mo, (k z.at_).2 c x' rfl, z.init⟩, x.attrs⟩
theorem tx_all {P : Txt} (x : Facts P cls B0 K) {frz : Frz} (fz : FzOk w cls B0 frz) : ∀ n, Tx prog w P.N cls B0 K (den P frz n) n
  | 0 => tx_of x fz 0 fun _ => ⟨fun _ _ _ _ _ _ _ _ _ _ _ _ _ _ q => q.elim, fun _ _ _ _ _ _ _ _ _ _ _ _ _ _ _ q => q.elim⟩
  | n + 1 => tx_of x fz (n + 1) fun z => z.elim fun _ z => z.elim fun _ z => z.elim fun _ z => z.elim fun _ z => have y := fn_entry (tx_all x fz n) x.lim z; ⟨fun f e => (show FnOk prog w cls B0 (n + 1) _ (anySpec (bodySpec (den P frz n) (P.fnD f))) from e ▸ y.any), fun c x' e => (show FnOk prog w cls B0 (n + 1) _ (anySpec (bodySpec (den P frz n) (P.meD c x'))) from e ▸ y.any)⟩
end
section
theorem oBk {α : Type} {l : Option α} {k : α → Bool} (h : oB l k = true) {G : Prop} (g : ∀ x, l = some x → k x = true → G) : G := oB_m (m := fun o => (∀ x, o = some x → k x = true → G) → G) h (fun x hx g => g x rfl hx) g
theorem pRef_k {v : Value} {x : Addr} (e : pRef v = some x) : v = .ref x := by
  induction v using Value.casesOn with
  | ref a => exact congrArg Value.ref (Option.some.inj e)
  | _ => exact nos e
theorem pType_k {v : Value} {x : String} (e : pType v = some x) : v = .type x := by
  induction v using Value.casesOn with
  | type a => exact congrArg Value.type (Option.some.inj e)
  | _ => exact nos e
theorem pBlt_k {v : Value} {x : String} (e : pBlt v = some x) : v = .builtin x := by
  induction v using Value.casesOn with
  | builtin a => exact congrArg Value.builtin (Option.some.inj e)
  | _ => exact nos e
theorem pStrV_k {v : Value} {x : PySem.Str} (e : pStrV v = some x) : ∃ t, v = .str x t := by
  induction v using Value.casesOn with
  | str a t => exact ⟨t, congrArg (Value.str · t) (Option.some.inj e)⟩
  | _ => exact nos e
theorem isBoolV_k {v : Value} {b : Bool} (e : isBoolV b v = true) : v = .bool b := by
  induction v using Value.casesOn with
  | bool a => exact congrArg Value.bool (beq_iff_eq.mp e).symm
  | _ => exact bf e
theorem isIntV_k {v : Value} {b : Int} (e : isIntV b v = true) : ∃ t, v = .int b t := by
  induction v using Value.casesOn with
  | int a t => exact ⟨t, congrArg (Value.int · t) (beq_iff_eq.mp e).symm⟩
  | _ => exact bf e
theorem isNoneV_k {v : Value} (e : isNoneV v = true) : v = .none := by
  induction v using Value.casesOn with
  | none => rfl
  | _ => exact bf e
theorem pSeq_k {v : Data} {x : Array Value} (e : pSeq v = some x) : ∃ n, v = .seq x n := by
  induction v using Data.casesOn with
  | seq a n => exact ⟨n, congrArg (Data.seq · n) (Option.some.inj e)⟩
  | _ => exact nos e
theorem pFields_k {v : Data} {x : Array Value} (e : pFields v = some x) : v = .fields x := by
  induction v using Data.casesOn with
  | fields a => exact congrArg Data.fields (Option.some.inj e)
  | _ => exact nos e
theorem funcOf_k {v : Data} {x : FuncData} (e : funcOf v = some x) : v = .func x := by
  induction v using Data.casesOn with
  | func a => exact congrArg Data.func (Option.some.inj e)
  | _ => exact nos e
theorem stmtsOf_k {v : FuncBody} {x : List Stmt} (e : stmtsOf v = some x) : v = .stmts x := by
  induction v using FuncBody.casesOn with
  | stmts a => exact congrArg FuncBody.stmts (Option.some.inj e)
  | _ => exact nos e
variable {prog : Program} {w : World} {cls : Cls} {B B0 B1 : Base} {h : Addr → Option Obj} {h' : Heap} {K : Frag} {N : Nam}
theorem isTypeV_ok {T : String} {v : Value} (e : isTypeV T v = true) : v = .type T := oBk e fun U h1 h2 => (pType_k h1).trans (congrArg Value.type (beq_iff_eq.mp h2))
theorem isBltV_ok {T : String} {v : Value} (e : isBltV T v = true) : v = .builtin T := oBk e fun U h1 h2 => (pBlt_k h1).trans (congrArg Value.builtin (beq_iff_eq.mp h2))
theorem ns_of {a : Addr} (e : isNsG h a = true) (k : ∀ b o, h b = some o → h'.get? b = some o) : h'.Ns a (nsG h a) := by
  cases ho : h a with
  | none => unfold isNsG at e; rw [ho] at e; exact bf e
  | some o =>
    have e1 : h'.isNs a = isNsG h a := by unfold Heap.isNs isNsG; rw [k _ _ ho, ho]; rfl
    have e2 : h'.nsMap a = nsG h a := by funext x; unfold Heap.nsMap nsG; rw [k _ _ ho, ho]; rfl
    exact e2 ▸ Heap.Ns.of_isNs (e1.trans e)
theorem tupAt_k {v : Value} {xs : Array Value} (e : tupAt h v = some xs) {G : Prop} (g : ∀ a o n, v = .ref a → h a = some o → o.cls = .type "tuple" → o.data = .seq xs n → G) : G :=
  ob_k e fun a e1 e => ob_k e fun o e2 e => gB_k e fun e3 e => (pSeq_k e).elim fun n e => g a o n (pRef_k e1) e2 (isTypeV_ok e3) e
theorem readsB_ok (k : ∀ a o, h a = some o → h'.get? a = some o) (d : PyData) : ∀ {v : Value}, readsB h d v = true → Reads h' v d [] :=
  d.rec (motive_1 := fun d => ∀ {v}, readsB h d v = true → Reads h' v d []) (motive_2 := fun ds => ∀ {vs}, readsBs h ds vs = true → ReadsAll h' vs ds []) (motive_3 := fun _ => True) (motive_4 := fun _ => True)
    (fun e => isNoneV_k e ▸ .none) (fun _ _ e => isBoolV_k e ▸ .bool _) (fun _ _ e => (isIntV_k e).elim fun t e => e ▸ .int _ t) (fun _ _ e => oBk e fun y h1 h2 => (pStrV_k h1).elim fun t e => by rw [e, beq_iff_eq.mp h2]; exact .str _ t)
    (fun _ _ _ e => bf e) (fun _ ih _ e => oBk e fun xs h1 h2 => tupAt_k h1 fun a o n e ho hc hd => e ▸ .tuple (k _ _ ho) hc hd (ih h2)) (fun _ _ _ e => bf e)
    (fun {vs} e => by cases vs with | nil => exact .nil | cons _ _ => exact bf e)
    (fun d ds i1 i2 vs e => by cases vs with | nil => exact bf e | cons v r => exact band_k e fun e1 e2 => .cons (as := []) (bs := []) (i1 e1) (i2 e2))
    trivial (fun _ _ _ _ => trivial) fun _ _ _ _ => trivial
theorem readsBs_ok (k : ∀ a o, h a = some o → h'.get? a = some o) : ∀ {ds : List PyData} {vs : List Value}, readsBs h ds vs = true → ReadsAll h' vs ds []
  | [], [], _ => .nil
  | [], _ :: _, e => bf e
  | _ :: _, [], e => bf e
  | _ :: _, _ :: _, e => band_k e fun e1 e2 => .cons (as := []) (bs := []) (readsB_ok k _ e1) (readsBs_ok k e2)
theorem not_k {b : Bool} (h : (!b) = true) : b = false := (Bool.not_eq_true' _ ▸ h : b = false)
theorem fnAtB_ok (hB : ∀ a o, h a = some o → B0 a = some o) {D : FnDef} {a : Addr} (e : fnAtB h N D a = true) (ec : okCode N D (codeAt h a) = true) : FnAt B0 N D a :=
  oBk e fun o ho e => oBk e fun fd hfd e => oBk e fun body hbody e => oBk e fun ds hds e =>
    band_k e fun c1 e => band_k e fun c2 e => band_k e fun c3 e => band_k e fun c4 e => band_k e fun c5 e => band_k e fun c6 e => band_k e fun c7 e => band_k e fun c8 e => band_k e fun c9 e => band_k e fun c10 e =>
    band_k e fun c11 e => band_k e fun c12 e => band_k e fun c13 e => band_k e fun c14 e => band_k e fun c15 e => band_k e fun c17 c18 =>
    ⟨o, fd, body, ds.toList, hB _ _ ho, funcOf_k hfd, {
      co := not_k c1
      gen := not_k c2
      stmts := stmtsOf_k hbody
      code := fun h' hh => oBk c3 fun c h1 e => oBk e fun oc h2 e => oBk e fun vs h3 e => oBk e fun v h4 e => oBk e fun x h5 e => (pStrV_k h5).elim fun t h5 => ⟨c, oc, vs, t, pRef_k h1, hh _ _ (hB _ _ h2), pFields_k h3, by rw [h4, h5, beq_iff_eq.mp e]⟩
      kind := of_decide_eq_true c4
      closure := List.isEmpty_iff.mp c5
      globals := Nat.eq_of_beq_eq_true c6
      builtins := Nat.eq_of_beq_eq_true c7
      p1 := List.isEmpty_iff.mp c8
      p2 := Option.isNone_iff_eq_none.mp c9
      p3 := List.isEmpty_iff.mp c10
      p4 := Option.isNone_iff_eq_none.mp c11
      names := beq_iff_eq.mp c12
      np := Nat.le_of_ble_eq_true c13
      nodup := nodupB_ok c14
      kinds := fun x hx => (Bool.or_eq_true_iff.mp (List.all_eq_true.mp c15 x hx)).imp of_decide_eq_true of_decide_eq_true
      ok := by rw [codeAt, ho, Option.bind_some, hfd, Option.bind_some, hbody] at ec; exact ec
      dlen := Nat.le_of_ble_eq_true c17
      dseq := by
        unfold dfltsOf at hds
        cases hn : isNoneV fd.defaults with
        | true => rw [hn] at hds; exact .inl ⟨isNoneV_k hn, by rw [← Option.some.inj hds]⟩
        | false => rw [hn] at hds; exact tupAt_k hds fun t ot n et hot _ hdt => .inr ⟨t, ot, n, et, hB _ _ hot, hdt⟩
      dval := fun h' hh => VRs.ofReads (readsBs_ok (fun a o e => hh _ _ (hB _ _ e)) c18) rfl }⟩

noncomputable def TL.me (t : TL) (c : Nat) (x : PySem.Str) : Nat × PySem.Str × FnDef := (t.mes.find? (meIs c x)).getD t.me0
noncomputable def TL.txt (t : TL) : Txt :=
  { N := t.nam, fnD := fun f => (t.fns.getD f t.fn0).2, globV := fun g => (t.globs.getD g t.glob0).2,
    meD := fun c x => (t.me c x).2.2, attrs := fun c x => t.ats.any fun p => Nat.beq p.1 c && p.2 == x, meths := fun c x => t.mes.any (meIs c x) }
theorem fragOf_in : ∀ {l : List Addr} {a : Addr} {o : Obj}, (l.filterMap fun a => (h a).map fun o => (a, o)).lookup a = some o → h a = some o
  | [], a, o, e => nos e
  | b :: l, a, o, e => by
    rw [List.filterMap_cons] at e
    cases hb : h b with
    | none => rw [hb] at e; exact fragOf_in e
    | some q =>
      rw [hb] at e
      have e : (match a == b with | true => some q | false => (l.filterMap fun a => (h a).map fun o => (a, o)).lookup a) = some o := e
      cases hab : a == b with
      | true => rw [hab] at e; rw [beq_iff_eq.mp hab, ← Option.some.inj e]; exact hb
      | false => rw [hab] at e; exact fragOf_in e
theorem bltB_ok {x : PySem.Str} {f : Value → Bool} {v : Value} (hf : ∀ u, f u = true → u = v) (e : bltB h x f = true) : nsG h mainGlobals x = none ∧ nsG h builtinsNs x = some v :=
  band_k e fun e1 e2 => ⟨Option.isNone_iff_eq_none.mp e1, oBk e2 fun u h1 h2 => h1.trans (congrArg some (hf u h2))⟩
theorem bnIs_ok (b : BN) (u : Value) (e : bnIs b u = true) : u = bnV b := by
  cases b <;> first | exact isTypeV_ok e | exact isBltV_ok e
theorem refB_ok {x : PySem.Str} {k : Addr → Bool} (e : refB h K x k = true) {G : Prop} (g : ∀ a, nsG h mainGlobals x = some (.ref a) → keepIn K (.ref a) = true → k a = true → G) : G :=
  oBk e fun v h1 e => oBk e fun a h2 e => band_k e fun h3 h4 => g a (h1.trans (congrArg some (pRef_k h2))) h3 h4
theorem getD_mem {α : Type} (l : List α) (i : Nat) (d : α) : l.getD i d ∈ d :: l := by
  rw [List.getD_eq_getElem?_getD]
  cases e : l[i]? with
  | none => exact List.mem_cons_self
  | some x => exact List.mem_cons_of_mem _ (List.mem_of_getElem? e)
theorem me_ok {t : TL} {c : Nat} {x : PySem.Str} (hB : ∀ a o, h a = some o → B0 a = some o) (e6 : t.mes.all (meB t h (fragOf h)) = true) (em : ∀ m ∈ t.mes, okCode t.nam m.2.2 (codeM t h m) = true) (hx : t.mes.any (meIs c x) = true) : ∃ f, FMe t.txt (clsOf t h) B0 (fragOf h) c x f :=
  have hs : (t.mes.find? (meIs c x)).isSome = true := by rw [List.isSome_find?]; exact hx
  (Option.isSome_iff_exists.mp hs).elim fun m hm => by
    have hme : t.me c x = m := by unfold TL.me; rw [hm]; rfl
    refine band_k (show (Nat.beq m.1 c && m.2.1 == x) = true from List.find?_some (p := meIs c x) hm) fun q1 q2 => ?_
    cases Nat.eq_of_beq_eq_true q1
    cases beq_iff_eq.mp q2
    exact band_k (List.all_eq_true.mp e6 _ (List.mem_of_find?_eq_some hm)) fun z1 z => oBk z fun o w1 z => oBk z fun v w2 z => oBk z fun f w3 z => band_k z fun z2 z => band_k z fun z3 z4 =>
      ⟨f, z1, z2, (show FnAt B0 t.nam (t.me m.1 m.2.1).2.2 f from hme.symm ▸ fnAtB_ok hB z3 (by have y := em _ (List.mem_of_find?_eq_some hm); rw [codeM, w1, Option.bind_some, id, w2, Option.bind_some, w3] at y; exact y)), fun hi => (Bool.or_eq_true_iff.mp z4).elim (fun z => bf ((not_k z).symm.trans (beq_iff_eq.mpr hi))) id⟩
theorem factsB_ok {t : TL} (hB : ∀ a o, h a = some o → B0 a = some o) (e : factsB t h = true) (ef : ∀ p ∈ t.fn0 :: t.fns, okCode t.nam p.2 (codeF h p) = true) (em : ∀ m ∈ t.mes, okCode t.nam m.2.2 (codeM t h m) = true) : Facts t.txt (clsOf t h) B0 (fragOf h) :=
  have keep : ∀ h', Holds B0 h' → ∀ a o, h a = some o → h'.get? a = some o := fun h' hh a o e => hh _ _ (hB _ _ e)
  band_k e fun e1 e => band_k e fun e2 e => band_k e fun e8 e => band_k e fun e9 e => band_k e fun e3 e => band_k e fun e4 e => band_k e fun e5 e => band_k e fun e6 e7 =>
  band_k e1 fun b1 e => band_k e fun b2 e => band_k e fun b3 e => band_k e fun b4 b5 => {
    kIn := fun a o e => hB _ _ (fragOf_in e)
    sys := (Option.isSome_iff_exists.mp b1).imp fun o e => hB _ _ e
    lim := fun h' hh => ⟨_, ns_of b2 (keep h' hh), Option.isNone_iff_eq_none.mp b3⟩
    ns := ⟨nsG h mainGlobals, nsG h builtinsNs, {
      ns := fun h' hh => ⟨ns_of b4 (keep h' hh), ns_of b5 (keep h' hh)⟩
      fn := fun f => refB_ok (List.all_eq_true.mp e3 _ (getD_mem t.fns f t.fn0)) fun a h1 h2 h3 => ⟨a, h1, h2, fnAtB_ok hB h3 (by have y := ef _ (getD_mem t.fns f t.fn0); rw [codeF, h1] at y; exact y)⟩
      cl := fun c => refB_ok (List.all_eq_true.mp e4 _ (getD_mem t.cls c t.cls0)) fun a h1 h2 _ => by
        have hr : clsOf t h c = a := by
          show refAt (nsG h mainGlobals (t.nam.cls c)) = a
          rw [show nsG h mainGlobals (t.nam.cls c) = _ from h1]; rfl
        exact hr.symm ▸ ⟨h1, h2⟩
      glob := fun g => oBk (List.all_eq_true.mp e5 _ (getD_mem t.globs g t.glob0)) fun v h1 h2 => ⟨v, h1, fun h' hh => .py (readsB_ok (keep h' hh) _ h2)⟩
      bn := fun b => bltB_ok (bnIs_ok b) (List.all_eq_true.mp e2 b (by unfold bns; cases b <;> repeat first | exact List.mem_cons_self | apply List.mem_cons_of_mem))
      rng := bltB_ok (fun _ => isTypeV_ok) e8
      zip := bltB_ok (fun _ => isTypeV_ok) e9 }⟩
    me := fun c x hx => me_ok hB e6 em hx
    attrs := fun c x hx => (List.any_eq_true.mp hx).elim fun p z => band_k z.2 fun q1 q2 => band_k (List.all_eq_true.mp e7 _ z.1) fun h1 h2 => by
      cases Nat.eq_of_beq_eq_true q1
      cases beq_iff_eq.mp q2
      exact ⟨h1, h2⟩ }
theorem all_zip {α β : Type} {f : α → β} {q : α × β → Bool} : ∀ {l : List α}, (l.zip (l.map f)).all q = true → ∀ x ∈ l, q (x, f x) = true
  | [], _, _, hx => nomatch hx
  | _ :: _, e, x, hx => band_k e fun e1 e2 => (List.mem_cons.mp hx).elim (fun z => z ▸ e1) (all_zip e2 x)
end
mutual
noncomputable def sameD : PyData → PyData → Bool
  | .none, e => isNnD e
  | .bool b, e => oB (pBool e) fun c => b == c
  | .int i, e => oB (pInt e) fun j => i == j
  | .str x, e => oB (pStr e) fun y => x == y
  | .tuple ds, e => oB (pTup e) (sameDs ds)
  | .list _, _ => false
  | .dict _, _ => false
noncomputable def sameDs : List PyData → List PyData → Bool
  | [], es => none0 es
  | d :: ds, es => match es with | e :: r => sameD d e && sameDs ds r | [] => false
end
theorem sameD_ok (d : PyData) : ∀ {e : PyData}, sameD d e = true → d = e :=
  d.rec (motive_1 := fun d => ∀ {e}, sameD d e = true → d = e) (motive_2 := fun ds => ∀ {es}, sameDs ds es = true → ds = es) (motive_3 := fun _ => True) (motive_4 := fun _ => True)
    (fun h => (isNnD_k h).symm) (fun _ _ h => oBk h fun c h1 h2 => (congrArg PyData.bool (beq_iff_eq.mp h2)).trans (pBool_k h1).symm) (fun _ _ h => oBk h fun c h1 h2 => (congrArg PyData.int (beq_iff_eq.mp h2)).trans (pInt_k h1).symm)
    (fun _ _ h => oBk h fun c h1 h2 => (congrArg PyData.str (beq_iff_eq.mp h2)).trans (pStr_k h1).symm) (fun _ _ _ h => bf h) (fun _ ih _ h => oBk h fun c h1 h2 => (congrArg PyData.tuple (ih h2)).trans (pTup_k h1).symm) (fun _ _ _ h => bf h)
    (fun h => (none0_k h).symm) (fun _ _ i1 i2 es h => by cases es with | nil => exact bf h | cons e r => exact band_k h fun h1 h2 => congr (congrArg List.cons (i1 h1)) (i2 h2))
    trivial (fun _ _ _ _ => trivial) fun _ _ _ _ => trivial
mutual
noncomputable def sameA : AV → AV → Bool
  | .py d, e => oB (vD e) (sameD d)
  | .ref i, e => oB (vR e) (Nat.beq i)
  | .mix xs, e => cond (vD e).isNone (oB (tupOf e) (sameAs xs)) false
  | .fro _, _ => false
noncomputable def sameAs : List AV → List AV → Bool
  | [], es => none0 es
  | d :: ds, es => match es with | e :: r => sameA d e && sameAs ds r | [] => false
end
theorem mix_k {e : AV} {xs : List AV} (h1 : (vD e).isNone = true) (h2 : tupOf e = some xs) : e = .mix xs := by
  induction e using AV.casesOn with
  | py d => exact bf h1
  | mix ys => exact congrArg AV.mix (Option.some.inj h2)
  | _ => exact nos h2
theorem sameA_ok (d : AV) : ∀ {e : AV}, sameA d e = true → d = e :=
  d.rec (motive_1 := fun d => ∀ {e}, sameA d e = true → d = e) (motive_2 := fun ds => ∀ {es}, sameAs ds es = true → ds = es)
    (fun d _ h => oBk h fun c h1 h2 => (congrArg AV.py (sameD_ok d h2)).trans (vD_k h1).symm) (fun i _ h => oBk h fun c h1 h2 => (congrArg AV.ref (Nat.eq_of_beq_eq_true h2)).trans (vR_k h1).symm)
    (fun xs ih e h => by
      cases z : (vD e).isNone with
      | true => exact oBk (show oB (tupOf e) (sameAs xs) = true from ((congrArg (cond · _ _) z).symm.trans h)) fun c h1 h2 => (congrArg AV.mix (ih h2)).trans (mix_k z h1).symm
      | false => exact bf ((congrArg (cond · _ _) z).symm.trans h))
    (fun _ _ h => bf h)
    (fun h => (none0_k h).symm) (fun _ _ i1 i2 es h => by cases es with | nil => exact bf h | cons e r => exact band_k h fun h1 h2 => congr (congrArg List.cons (i1 h1)) (i2 h2))
theorem sameAs_ok : ∀ {ds es : List AV}, sameAs ds es = true → ds = es
  | [], _, h => (none0_k h).symm
  | _ :: _, [], h => bf h
  | _ :: _, _ :: _, h => band_k h fun h1 h2 => congr (congrArg List.cons (sameA_ok _ h1)) (sameAs_ok h2)

noncomputable abbrev Res := Option (AV × AH)
noncomputable abbrev SRes := Option (Out × Vars × AH)
structure IG where
  frz : Frz
  glob : Nat → AV
  fn : Nat → List AV → AH → Res
  me : Nat → PySem.Str → List AV → AH → Res
  attrs : Nat → PySem.Str → Bool
  meths : Nat → PySem.Str → Bool
noncomputable def rb {α β γ : Type} (o : Option (α × β)) (f : α → β → Option γ) : Option γ := match o with
  | none => none
  | some (a, b) => f a b
theorem rb_k {α β γ : Type} {o : Option (α × β)} {f : α → β → Option γ} {r : γ} (h : rb o f = some r) {G : Prop} (k : ∀ a b, o = some (a, b) → f a b = some r → G) : G := by
  cases o with
  | none => exact nos h
  | some p => exact k p.1 p.2 rfl h
noncomputable def boolR {γ : Type} (o : Res) (f : Bool → AH → Option γ) : Option γ := rb o fun a H => (vBool a).bind fun b => f b H
theorem boolR_k {γ : Type} {o : Res} {f : Bool → AH → Option γ} {r : γ} (h : boolR o f = some r) {G : Prop} (k : ∀ b H, o = some (.b b, H) → f b H = some r → G) : G :=
  rb_k h fun a H e h => ob_k h fun b e2 h => k b H (vBool_k e2 ▸ e) h
noncomputable def sR (o : SRes) (f : Vars → AH → SRes) : SRes := match o with
  | none => none
  | some (q, vs, H) => match q with
    | .next => f vs H
    | .ret a => some (.ret a, vs, H)
theorem sR_k {o : SRes} {f : Vars → AH → SRes} {r : Out × Vars × AH} (h : sR o f = some r) {G : Prop} (k1 : ∀ vs H, o = some (.next, vs, H) → f vs H = some r → G) (k2 : ∀ a vs H, o = some (.ret a, vs, H) → r = (.ret a, vs, H) → G) : G := by
  cases o with
  | none => exact nos h
  | some p =>
    obtain ⟨q, vs, H⟩ := p
    cases q with
    | next => exact k1 vs H rfl h
    | ret a => exact k2 a vs H rfl (Option.some.inj h).symm
noncomputable def chkB (a : AV) (xs : List AV) (H : AH) : Bool := match vR a with
  | some j => oB (hL H j) (sameAs xs)
  | none => true
noncomputable def iFor (chk : AH → Bool) (step : AV → Vars → AH → SRes) : List AV → Vars → AH → SRes
  | [], vs, H => gB (chk H) (some (.next, vs, H))
  | x :: r, vs, H => gB (chk H) (sR (step x vs H) (iFor chk step r))
noncomputable def iWhile (test : Vars → AH → Res) (body : Vars → AH → SRes) : Nat → Vars → AH → SRes
  | 0, _, _ => none
  | n + 1, vs, H => boolR (test vs H) fun b H' => cond b (sR (body vs H') (iWhile test body n)) (some (.next, vs, H'))
noncomputable def iForStep (f : Vars → AH → SRes) (t : Tg) (x : AV) (vs : Vars) (H : AH) : SRes := (setT t x vs).bind fun vs' => f vs' H
noncomputable def iApp (j : Nat) (vs : Vars) (o : Res) : SRes := rb o fun v H => (appendAt j v H).map fun H' => (.next, vs, H')
noncomputable def iEnd (j : Nat) (o : SRes) : Res := o.map fun r => (.ref j, r.2.2)
inductive IKd
  | user (f : List AV → AH → Res)
  | append
  | extend
  | pop
  | join
noncomputable def iListM (x : Str) : Option IKd := cond (x == "append") (some .append) (cond (x == "pop") (some .pop) (cond (x == "extend") (some .extend) none))
noncomputable def iInstM (I : IG) (x : Str) (p : Nat × List (Str × AV)) : Option IKd := gB (I.meths p.1 x && (p.2.lookup x).isNone) (some (.user (I.me p.1 x)))
noncomputable def iKindO (I : IG) (x : Str) : AO → Option IKd
  | .list _ => iListM x
  | .dict _ => none
  | .inst c fs => iInstM I x (c, fs)
noncomputable def iKind (I : IG) (o : AV) (x : Str) (H : AH) : Option IKd := match o with
  | .py d => (pStr d).bind fun _ => gB (x == "join") (some .join)
  | .ref j => (H[j]?).bind (iKindO I x)
  | .mix _ => none
  | .fro _ => none
noncomputable def iMk (F : Frz) (m : IKd) (o : AV) (as : List AV) (H : AH) : Res := match m with
  | .user f => f (o :: as) H
  | .append => appA o as H
  | .extend => extA F o as H
  | .pop => popA o as H
  | .join => joinA o as H
noncomputable def iInit (I : IG) (c : Nat) (as : List AV) (H : AH) : Res := gB (I.meths c "__init__") (rb (I.me c "__init__" (.ref H.length :: as) (H ++ [.inst c []])) fun r H2 => gB (isNn r) (some (.ref H.length, H2)))
mutual
noncomputable def iE (I : IG) : CE → Vars → AH → Res
  | .bad, _, _ => none
  | .const d, _, H => some (.py d, H)
  | .var i, vs, H => (vs[i]?).join.map fun a => (a, H)
  | .glob g, _, H => some (I.glob g, H)
  | .tup es, vs, H => rb (iEs I es vs H) fun as H' => gB (Nat.ble as.length room) (some (mkTup as, H'))
  | .lst es, vs, H => rb (iEs I es vs H) fun as H' => gB (Nat.ble as.length room) (some (.ref H'.length, H' ++ [.list as]))
  | .dict0, _, H => some (.ref H.length, H ++ [.dict []])
  | .dict1 k v, vs, H => rb (iE I k vs H) fun a H1 => rb (iE I v vs H1) fun b H2 => (vStr a).map fun x => (.ref H2.length, H2 ++ [.dict [(.str x, b)]])
  | .cmp op a b, vs, H => rb (iE I a vs H) fun x H1 => rb (iE I b vs H1) fun y H2 => (cmpA I.frz op x y H2).map fun t => (.b t, H2)
  | .and es, vs, H => iBo I true es vs H
  | .or es, vs, H => iBo I false es vs H
  | .not a, vs, H => boolR (iE I a vs H) fun b H' => some (.b (!b), H')
  | .bin op a b, vs, H => rb (iE I a vs H) fun x H1 => rb (iE I b vs H1) fun y H2 => binA op x y H2
  | .ite c a b, vs, H => boolR (iE I c vs H) fun t H' => cond t (iE I a vs H') (iE I b vs H')
  | .attr o x, vs, H => rb (iE I o vs H) fun a H1 => ((getO I.frz H1 a).bind fun ob => (oI ob).bind fun p => gB (I.attrs p.1 x) (p.2.lookup x)).map fun b => (b, H1)
  | .sub o i, vs, H => rb (iE I o vs H) fun a H1 => rb (iE I i vs H1) fun b H2 => (subA I.frz a b H2).map fun c => (c, H2)
  | .slice o k, vs, H => rb (iE I o vs H) fun a H1 => sliceA a k H1
  | .callF f es, vs, H => rb (iEs I es vs H) (I.fn f)
  | .callM o x es, vs, H => rb (iE I o vs H) fun a H1 => (iKind I a x H1).bind fun m => rb (iEs I es vs H1) (iMk I.frz m a)
  | .callC c es, vs, H => rb (iEs I es vs H) (iInit I c)
  | .callB b es, vs, H => rb (iEs I es vs H) (callBA I.frz b)
  | .sortK _ _, _, _ => none
  | .comp caps elt tg it ifs, vs, H => rb (iIT I it vs H) fun xs p => iEnd p.2.length (iFor (chkB p.1 xs) (iForStep (fun vs H => rb (iTests I ifs vs H) fun t H' => cond t (iApp p.2.length vs (iE I elt vs H')) (some (.next, vs, H'))) tg) xs (capVars caps vs (tgN tg)) (p.2 ++ [.list []]))
  | .comp2 caps elt tg it tg2 it2, vs, H => rb (iIT I it vs H) fun xs p => iEnd p.2.length (iFor (chkB p.1 xs) (iForStep (fun vs H => rb (iIT I it2 vs H) fun ys q => iFor (chkB q.1 ys) (iForStep (fun vs H => iApp p.2.length vs (iE I elt vs H)) tg2) ys vs q.2) tg) xs (capVars caps vs (tgN tg + tgN tg2)) (p.2 ++ [.list []]))
noncomputable def iEs (I : IG) : CEs → Vars → AH → Option (List AV × AH)
  | .nil, _, H => some ([], H)
  | .cons e es, vs, H => rb (iE I e vs H) fun a H1 => rb (iEs I es vs H1) fun as H2 => some (a :: as, H2)
noncomputable def iBo (I : IG) (o : Bool) : CEs → Vars → AH → Res
  | .nil, _, _ => none
  | .cons e es, vs, H => boolR (iE I e vs H) fun b H' => cond (nilE es) (some (.b b, H')) (cond (goOn o b) (iBo I o es vs H') (some (.b b, H')))
noncomputable def iTests (I : IG) : CEs → Vars → AH → Option (Bool × AH)
  | .nil, _, H => some (true, H)
  | .cons e es, vs, H => gB (nilE es) (boolR (iE I e vs H) fun b H' => some (b, H'))
noncomputable def iIT (I : IG) : IT → Vars → AH → Option (List AV × AV × AH)
  | .over e, vs, H => rb (iE I e vs H) fun a H1 => (itemsA I.frz a H1).map fun xs => (xs, a, H1)
  | .range e, vs, H => rb (iE I e vs H) fun a H1 => (vInt a).bind fun n => gB (rgOk n) (some (rngA n.toNat, .py .none, H1))
  | .zip a b, vs, H => rb (iE I a vs H) fun x H1 => rb (iE I b vs H1) fun y H2 => (itemsA I.frz x H2).bind fun xs => (itemsA I.frz y H2).bind fun ys => gB (none0 xs && none0 ys) (some ([], x, H2))
end
noncomputable def iAsg (I : IG) (t : TgS) (a : AV) (vs : Vars) (H : AH) : SRes := match t with
  | .tg t => (setT t a vs).map fun vs' => (.next, vs', H)
  | .attr o x => rb (iE I o vs H) fun b H2 => ((vR b).bind fun j => (H2[j]?).bind fun ob => (oI ob).bind fun p => gB (I.attrs p.1 x && Nat.ble p.2.length 100) (some (H2.set j (.inst p.1 (fput p.2 x a))))).map fun H3 => (.next, vs, H3)
  | .sub o i => rb (iE I o vs H) fun b H2 => rb (iE I i vs H2) fun c H3 => (setItemA b c a H3).map fun H4 => (.next, vs, H4)
mutual
noncomputable def iS (I : IG) : CS → Vars → AH → SRes
  | .bad, _, _ => none
  | .assign t e, vs, H => rb (iE I e vs H) fun a H1 => iAsg I t a vs H1
  | .expr e, vs, H => rb (iE I e vs H) fun a H1 => gB (isNn a) (some (.next, vs, H1))
  | .ret e, vs, H => rb (iE I e vs H) fun a H1 => some (.ret a, vs, H1)
  | .ifS c a b, vs, H => boolR (iE I c vs H) fun t H1 => cond t (iSs I a vs H1) (iSs I b vs H1)
  | .whileS n c body, vs, H => iWhile (iE I c) (iSs I body) n vs H
  | .forS t it body, vs, H => rb (iIT I it vs H) fun xs p => iFor (chkB p.1 xs) (iForStep (iSs I body) t) xs vs p.2
noncomputable def iSs (I : IG) : CSs → Vars → AH → SRes
  | .nil, vs, H => some (.next, vs, H)
  | .cons x xs, vs, H => sR (iS I x vs H) (iSs I xs)
end
section
variable {I : IG} {Γ : Gam}
structure ISnd (I : IG) (Γ : Gam) : Prop where
  frz : I.frz = Γ.frz
  glob : ∀ g, I.glob g = Γ.glob g
  fn : ∀ f as H r, I.fn f as H = some r → ∀ Q : K1, Q r.1 r.2 → Γ.fn f as H Q
  me : ∀ c x as H r, I.me c x as H = some r → ∀ Q : K1, Q r.1 r.2 → Γ.me c x as H Q
  attrs : I.attrs = Γ.attrs
  meths : I.meths = Γ.meths
section
variable (I : IG) (Γ : Gam)
noncomputable abbrev IkE (c : CE) : Prop := ∀ (vs : Vars) (H : AH) (r : AV × AH), iE I c vs H = some r → ∀ Q : K1, Q r.1 r.2 → eE Γ c vs H Q
structure IkEs (c : CEs) : Prop where
  l : ∀ (vs : Vars) (H : AH) (r : List AV × AH), iEs I c vs H = some r → ∀ Q : KL, Q r.1 r.2 → eEs Γ c vs H Q
  b : ∀ (o : Bool) (vs : Vars) (H : AH) (r : AV × AH), iBo I o c vs H = some r → ∀ Q : K1, Q r.1 r.2 → eBo Γ o c vs H Q
  t : ∀ (vs : Vars) (H : AH) (r : Bool × AH), iTests I c vs H = some r → ∀ Q : KB, Q r.1 r.2 → eTests Γ c vs H Q
noncomputable abbrev IkI (c : IT) : Prop := ∀ (vs : Vars) (H : AH) (r : List AV × AV × AH), iIT I c vs H = some r → ∀ Q : KI, (∀ chk, (∀ H, chkB r.2.1 r.1 H = true → chk H) → Q r.1 chk r.2.2) → eIT Γ c vs H Q
noncomputable abbrev IkF (f : Vars → AH → SRes) (g : Vars → AH → K2 → Prop) : Prop := ∀ (vs : Vars) (H : AH) (r : Out × Vars × AH), f vs H = some r → ∀ K : K2, K r.1 r.2.1 r.2.2 → g vs H K
end
theorem ik_bool {c : CE} (h : IkE I Γ c) {vs : Vars} {H : AH} {γ : Type} {f : Bool → AH → Option γ} {r : γ} (e : boolR (iE I c vs H) f = some r) {K : KB} (k : ∀ b H', f b H' = some r → K b H') : eE Γ c vs H (asB K) :=
  boolR_k e fun b H' e1 e => h _ _ _ e1 _ (k b H' e)
theorem cond_k {γ : Type} {t : Bool} {a b : Option γ} {r : γ} (e : cond t a b = some r) {m : Bool → Prop} (k1 : a = some r → m true) (k2 : b = some r → m false) : m t := by
  cases t with
  | true => exact k1 e
  | false => exact k2 e
theorem chkB_ok {a : AV} {xs : List AV} {H : AH} (e : chkB a xs H = true) : chkA a xs H := by
  induction a using AV.casesOn with
  | ref j => exact oBk e fun ys h1 h2 => sameAs_ok h2 ▸ hL_k h1
  | _ => trivial
theorem iFor_ok {chk : AH → Bool} {chk' : AH → Prop} {f : AV → Vars → AH → SRes} {g : AV → Vars → AH → K2 → Prop} (hc : ∀ H, chk H = true → chk' H) (hs : ∀ x, IkF (f x) (g x)) : ∀ xs, IkF (iFor chk f xs) (forL chk' g xs)
  | [], _, _, _, e, _, k => gB_k e fun e1 e => ⟨hc _ e1, by rw [← Option.some.inj e] at k; exact k⟩
  | x :: xs, _, _, _, e, _, k => gB_k e fun e1 e => ⟨hc _ e1, sR_k e (fun _ _ e2 e => hs x _ _ _ e2 _ (iFor_ok hc hs xs _ _ _ e _ k)) fun _ _ _ e2 e => hs x _ _ _ e2 _ (by rw [e] at k; exact k)⟩
theorem iWhile_ok {c : CE} {f : Vars → AH → SRes} {g : Vars → AH → K2 → Prop} (ht : IkE I Γ c) (hb : IkF f g) : ∀ n, IkF (iWhile (iE I c) f n) (whileL (eE Γ c) g n)
  | 0, _, _, _, e, _, _ => nos e
  | n + 1, vs, _, _, e, K, k => ik_bool ht e fun b H' e => cond_k e (m := fun b => kIf _ _ vs K b H')
    (fun e => sR_k e (fun _ _ e2 e => hb _ _ _ e2 _ (iWhile_ok ht hb n _ _ _ e _ k)) fun _ _ _ e2 e => hb _ _ _ e2 _ (by rw [e] at k; exact k)) fun e => by rw [← Option.some.inj e] at k; exact k
theorem iForStep_ok {f : Vars → AH → SRes} {g : Vars → AH → K2 → Prop} (h : IkF f g) (t : Tg) (x : AV) : IkF (iForStep f t x) (forStep g t x) := fun _ _ _ e _ k => ob_k e fun _ e1 e => oP_of e1 (h _ _ _ e _ k)
theorem iApp_ok {c : CE} (h : IkE I Γ c) {j : Nat} {vs : Vars} {H : AH} {r : Out × Vars × AH} (e : iApp j vs (iE I c vs H) = some r) {K : K2} (k : K r.1 r.2.1 r.2.2) : eE Γ c vs H (kApp j vs K) :=
  rb_k e fun v H' e1 e => om_k e fun H'' e2 e => h _ _ _ e1 _ (oP_of e2 (by rw [← e] at k; exact k))
theorem iEnd_ok {j : Nat} {o : SRes} {r : AV × AH} (e : iEnd j o = some r) {Q : K1} (q : Q r.1 r.2) {G : Prop} (g : ∀ p, o = some p → kEnd j Q p.1 p.2.1 p.2.2 → G) : G := om_k e fun p e1 e => g p e1 (by rw [← e] at q; exact q)
theorem iKind_ok (h : ISnd I Γ) {o : AV} {x : Str} {H : AH} {m : IKd} (e : iKind I o x H = some m) : ∃ m', kindM Γ o x H = some m' ∧ ∀ as H r, iMk I.frz m o as H = some r → ∀ Q : K1, Q r.1 r.2 → callMk Γ.frz m' o as H Q := by
  have give : ∀ {a b : Res} {r} {Q : K1}, a = some r → a = b → Q r.1 r.2 → giveO b Q := fun e1 e2 q => oP_of (e2 ▸ e1) q
  induction o using AV.casesOn with
  | py d => exact ob_k e fun s e1 e => gB_k e fun e2 e => ⟨.join, (congrArg (Option.bind · _) e1).trans (gB_of e2), fun as H r e3 Q q => by cases Option.some.inj e; exact oP_of e3 q⟩
  | ref j =>
    refine ob_k e fun ob e1 e => ?_
    have k : kindM Γ (.ref j) x H = kindO Γ x ob := congrArg (Option.bind · (kindO Γ x)) e1
    rw [k]
    induction ob using AO.casesOn with
    | list xs =>
      have e : cond (x == "append") (some IKd.append) (cond (x == "pop") (some .pop) (cond (x == "extend") (some .extend) none)) = some m := e
      show ∃ m', cond (x == "append") (some MKd.append) (cond (x == "pop") (some .pop) (cond (x == "extend") (some .extend) none)) = some m' ∧ _
      revert e
      cases x == "append" with
      | true => exact fun e => ⟨_, rfl, fun as H r e3 Q q => by cases Option.some.inj e; exact oP_of e3 q⟩
      | false =>
        cases x == "pop" with
        | true => exact fun e => ⟨_, rfl, fun as H r e3 Q q => by cases Option.some.inj e; exact oP_of e3 q⟩
        | false =>
          cases x == "extend" with
          | true => exact fun e => ⟨_, rfl, fun as H r e3 Q q => by cases Option.some.inj e; exact oP_of (h.frz ▸ e3) q⟩
          | false => exact fun e => nos e
    | dict xs => exact nos e
    | inst c fs => exact gB_k e fun e2 e => ⟨.user (Γ.me c x), gB_of (h.meths ▸ e2), fun as H r e3 Q q => by cases Option.some.inj e; exact h.me c x _ _ _ e3 _ q⟩
  | _ => exact nos e
theorem iInit_ok (h : ISnd I Γ) {c : Nat} {as : List AV} {H : AH} {r : AV × AH} (e : iInit I c as H = some r) {Q : K1} (q : Q r.1 r.2) : kInit Γ c Q as H :=
  gB_k e fun e1 e => bP_of (h.meths ▸ e1) (rb_k e fun a H2 e2 e => gB_k e fun e3 e => h.me c _ _ _ _ e2 _ (bP_of e3 (by rw [← Option.some.inj e] at q; exact q)))
theorem iE_ok (h : ISnd I Γ) : ∀ c : CE, IkE I Γ c :=
  CE.rec (motive_1 := IkE I Γ) (motive_2 := IkEs I Γ) (motive_3 := IkI I Γ)
    (fun _ _ _ e => nos e)
    (fun _ _ _ _ e _ q => by rw [← Option.some.inj e] at q; exact q)
    (fun _ _ _ _ e _ q => om_k e fun a e1 e => oP_of e1 (by rw [← e] at q; exact q))
    (fun g _ H _ e Q q => show Q (Γ.glob g) H from h.glob g ▸ (by rw [← Option.some.inj e] at q; exact q))
    (fun _ he _ _ _ e _ q => rb_k e fun as H' e1 e => gB_k e fun e2 e => he.l _ _ _ e1 _ (bP_of e2 (by rw [← Option.some.inj e] at q; exact q)))
    (fun _ he _ _ _ e _ q => rb_k e fun as H' e1 e => gB_k e fun e2 e => he.l _ _ _ e1 _ (bP_of e2 (by rw [← Option.some.inj e] at q; exact q)))
    (fun _ _ _ e _ q => by rw [← Option.some.inj e] at q; exact q)
    (fun _ _ ha hb _ _ _ e _ q => rb_k e fun a H1 e1 e => rb_k e fun b H2 e2 e => om_k e fun x e3 e => ha _ _ _ e1 _ (hb _ _ _ e2 _ (oP_of e3 (by rw [← e] at q; exact q))))
    (fun _ _ _ ha hb _ _ _ e _ q => rb_k e fun a H1 e1 e => rb_k e fun b H2 e2 e => om_k e fun x e3 e => ha _ _ _ e1 _ (hb _ _ _ e2 _ (oP_of (h.frz ▸ e3) (by rw [← e] at q; exact q))))
    (fun _ he _ _ _ e _ q => he.b _ _ _ _ e _ q)
    (fun _ he _ _ _ e _ q => he.b _ _ _ _ e _ q)
    (fun _ ha _ _ _ e _ q => ik_bool ha e fun b H' e => by rw [← Option.some.inj e] at q; exact q)
    (fun _ _ _ ha hb _ _ _ e _ q => rb_k e fun a H1 e1 e => rb_k e fun b H2 e2 e => ha _ _ _ e1 _ (hb _ _ _ e2 _ (oP_of e q)))
    (fun _ _ _ hc ha hb _ _ _ e Q q => ik_bool hc e fun b H' e => cond_k e (m := fun b => cond b (eE Γ _ _ H' Q) (eE Γ _ _ H' Q)) (fun e => ha _ _ _ e _ q) fun e => hb _ _ _ e _ q)
    (fun _ x ha _ _ _ e _ q => rb_k e fun a H1 e1 e => om_k e fun b e2 e => ha _ _ _ e1 _ (oP_of (show attrA Γ a x H1 = some b from by unfold attrA; rw [← h.frz, ← h.attrs]; exact e2) (by rw [← e] at q; exact q)))
    (fun _ _ ha hb _ _ _ e _ q => rb_k e fun a H1 e1 e => rb_k e fun b H2 e2 e => om_k e fun x e3 e => ha _ _ _ e1 _ (hb _ _ _ e2 _ (oP_of (h.frz ▸ e3) (by rw [← e] at q; exact q))))
    (fun _ _ ha _ _ _ e _ q => rb_k e fun a H1 e1 e => ha _ _ _ e1 _ (oP_of e q))
    (fun f _ he _ _ _ e _ q => rb_k e fun as H' e1 e => he.l _ _ _ e1 _ (h.fn f _ _ _ e _ q))
    (fun _ _ _ ha he _ _ _ e _ q => rb_k e fun a H1 e1 e => ob_k e fun m e2 e => rb_k e fun as H2 e3 e => (iKind_ok h e2).elim fun m' z => ha _ _ _ e1 _ (oP_of z.1 (he.l _ _ _ e3 _ (z.2 _ _ _ e _ q))))
    (fun _ _ he _ _ _ e _ q => rb_k e fun as H' e1 e => he.l _ _ _ e1 _ (iInit_ok h e q))
    (fun _ _ he _ _ _ e _ q => rb_k e fun as H' e1 e => he.l _ _ _ e1 _ (oP_of (h.frz ▸ e) q))
    (fun _ _ _ _ _ _ e => nos e)
    (fun _ _ _ _ _ he hi ht _ _ _ e _ q => rb_k e fun xs p e1 e => hi _ _ _ e1 _ fun chk hc => iEnd_ok e q fun r e2 q => iFor_ok hc (iForStep_ok (fun vs H _ e K k => rb_k e fun b H' e1 e => ht.t _ _ _ e1 _ (cond_k e (m := fun b => cond b (eE Γ _ _ H' (kApp _ vs K)) (K .next vs H')) (fun e => iApp_ok he e k) fun e => by rw [← Option.some.inj e] at k; exact k)) _) xs _ _ _ e2 _ q)
    (fun _ _ _ _ _ _ he hi hi2 _ _ _ e _ q => rb_k e fun xs p e1 e => hi _ _ _ e1 _ fun chk hc => iEnd_ok e q fun r e2 q => iFor_ok hc (iForStep_ok (fun vs H _ e K k => rb_k e fun ys p e1 e => hi2 _ _ _ e1 _ fun chk hc => iFor_ok hc (iForStep_ok (fun vs H _ e K k => iApp_ok he e k) _) ys _ _ _ e _ k) _) xs _ _ _ e2 _ q)
    ⟨fun _ _ _ e _ q => (by rw [← Option.some.inj e] at q; exact q), fun _ _ _ _ e => nos e, fun _ _ _ e _ q => (by rw [← Option.some.inj e] at q; exact q)⟩
    (fun _ es ha he => ⟨fun _ _ _ e _ q => rb_k e fun a H1 e1 e => rb_k e fun as H2 e2 e => ha _ _ _ e1 _ (he.l _ _ _ e2 _ (by rw [← Option.some.inj e] at q; exact q)),
      fun o vs _ _ e Q q => ik_bool ha e fun b H' e => cond_k e (m := fun t => cond t (Q (.b b) H') (cond (goOn o b) (eBo Γ o es vs H' Q) (Q (.b b) H'))) (fun e => by rw [← Option.some.inj e] at q; exact q)
        fun e => cond_k e (m := fun t => cond t (eBo Γ o es vs H' Q) (Q (.b b) H')) (fun e => he.b _ _ _ _ e _ q) fun e => by rw [← Option.some.inj e] at q; exact q,
      fun _ _ _ e _ q => gB_k e fun e1 e => bP_of e1 (ik_bool ha e fun b H' e => by rw [← Option.some.inj e] at q; exact q)⟩)
    (fun _ ha _ _ _ e _ q => rb_k e fun a H1 e1 e => om_k e fun xs e2 e => ha _ _ _ e1 _ (oP_of (h.frz ▸ e2) (by rw [← e] at q; exact q _ fun _ => chkB_ok)))
    (fun _ ha _ _ _ e _ q => rb_k e fun a H1 e1 e => ob_k e fun n e2 e => gB_k e fun e3 e => ha _ _ _ e1 _ (oP_of e2 (bP_of e3 (by rw [← Option.some.inj e] at q; exact q _ fun _ _ => trivial))))
    (fun _ _ ha hb _ _ _ e _ q => rb_k e fun x H1 e1 e => rb_k e fun y H2 e2 e => ob_k e fun xs e3 e => ob_k e fun ys e4 e => gB_k e fun e5 e => ha _ _ _ e1 _ (hb _ _ _ e2 _ (oP_of (h.frz ▸ e3) (oP_of (h.frz ▸ e4) (bP_of e5 (by rw [← Option.some.inj e] at q; exact q _ fun _ => chkB_ok))))))
theorem iIT_ok (h : ISnd I Γ) (it : IT) : IkI I Γ it := by
  have hE := iE_ok h
  induction it using IT.casesOn with
  | over a => exact fun _ _ _ e _ q => rb_k e fun a H1 e1 e => om_k e fun xs e2 e => hE _ _ _ _ e1 _ (oP_of (h.frz ▸ e2) (by rw [← e] at q; exact q _ fun _ => chkB_ok))
  | range a => exact fun _ _ _ e _ q => rb_k e fun a H1 e1 e => ob_k e fun n e2 e => gB_k e fun e3 e => hE _ _ _ _ e1 _ (oP_of e2 (bP_of e3 (by rw [← Option.some.inj e] at q; exact q _ fun _ _ => trivial)))
  | zip a b => exact fun _ _ _ e _ q => rb_k e fun x H1 e1 e => rb_k e fun y H2 e2 e => ob_k e fun xs e3 e => ob_k e fun ys e4 e => gB_k e fun e5 e => hE _ _ _ _ e1 _ (hE _ _ _ _ e2 _ (oP_of (h.frz ▸ e3) (oP_of (h.frz ▸ e4) (bP_of e5 (by rw [← Option.some.inj e] at q; exact q _ fun _ => chkB_ok)))))
theorem iAsg_ok (h : ISnd I Γ) {c : CE} (hc : IkE I Γ c) (t : TgS) : IkF (iS I (.assign t c)) (eS Γ (.assign t c)) := by
  induction t using TgS.casesOn with
  | tg t => exact fun _ _ _ e _ k => rb_k e fun a H1 e1 e => om_k e fun vs' e2 e => hc _ _ _ e1 _ (oP_of e2 (by rw [← e] at k; exact k))
  | attr o x => exact fun _ _ _ e _ k => rb_k e fun a H1 e1 e => rb_k e fun b H2 e2 e => om_k e fun H3 e3 e => hc _ _ _ e1 _ (iE_ok h o _ _ _ e2 _ (oP_of (show setAttrA Γ b x a H2 = some H3 from by unfold setAttrA; rw [← h.attrs]; exact e3) (by rw [← e] at k; exact k)))
  | sub o i => exact fun _ _ _ e _ k => rb_k e fun a H1 e1 e => rb_k e fun b H2 e2 e => rb_k e fun d H3 e3 e => om_k e fun H4 e4 e => hc _ _ _ e1 _ (iE_ok h o _ _ _ e2 _ (iE_ok h i _ _ _ e3 _ (oP_of e4 (by rw [← e] at k; exact k))))
theorem iSs_ok (h : ISnd I Γ) : ∀ c : CSs, IkF (iSs I c) (eSs Γ c) :=
  CSs.rec (motive_1 := fun c => IkF (iS I c) (eS Γ c)) (motive_2 := fun c => IkF (iSs I c) (eSs Γ c))
    (fun _ _ _ e => nos e)
    (fun t c => iAsg_ok h (iE_ok h c) t)
    (fun c _ _ _ e _ k => rb_k e fun a H1 e1 e => gB_k e fun e2 e => iE_ok h c _ _ _ e1 _ (bP_of e2 (by rw [← Option.some.inj e] at k; exact k)))
    (fun c _ _ _ e _ k => rb_k e fun a H1 e1 e => iE_ok h c _ _ _ e1 _ (by rw [← Option.some.inj e] at k; exact k))
    (fun c _ _ ha hb vs _ _ e K k => ik_bool (iE_ok h c) e fun b H' e => cond_k e (m := fun b => kIf _ _ vs K b H') (fun e => ha _ _ _ e _ k) fun e => hb _ _ _ e _ k)
    (fun n c _ hb => iWhile_ok (iE_ok h c) hb n)
    (fun _ it _ hb _ _ _ e _ k => rb_k e fun xs p e1 e => iIT_ok h it _ _ _ e1 _ fun chk hc => iFor_ok hc (iForStep_ok hb _) xs _ _ _ e _ k)
    (fun _ _ _ e _ k => by rw [← Option.some.inj e] at k; exact k)
    (fun _ _ hx hs _ _ _ e _ k => sR_k e (fun _ _ e1 e => hx _ _ _ e1 _ (hs _ _ _ e _ k)) fun _ _ _ e1 e => hx _ _ _ e1 _ (by rw [e] at k; exact k))
end
section
variable {I : IG} {Γ : Gam}
noncomputable def outR (o : SRes) : Res := o.map fun r => (match r.1 with | .ret a => a | .next => .py .none, r.2.2)
noncomputable def iBody (I : IG) (D : FnDef) (as : List AV) (H : AH) : Res := gB (Nat.ble as.length D.np && Nat.ble D.np (as.length + D.dfl.length)) (outR (iSs I D.body ((fullArgs D as).map some ++ List.replicate (D.nm.length - D.np) none) H))
noncomputable abbrev RunOk (f : List AV → AH → Res) (S : Spec) : Prop := ∀ as H r, f as H = some r → ∀ Q : K1, Q r.1 r.2 → S as H Q
theorem iBody_ok (h : ISnd I Γ) (D : FnDef) : RunOk (iBody I D) (bodySpec Γ D) := fun as H r e Q q => gB_k e fun e1 e => om_k e fun p e2 e => bP_of e1 (iSs_ok h _ _ _ _ e2 _ (by
  rw [← e] at q
  obtain ⟨o, vs, H'⟩ := p
  cases o with
  | next => exact q
  | ret a => exact q))
noncomputable def pureR (m : Nat) (H : AH) (o : Res) : Res := rb o fun a H' => cond (still a) (some (a, H)) ((vR a).bind fun j => gB (Nat.ble m j) ((hL H' j).bind fun xs => gB (stills xs) (some (.ref H.length, H ++ [.list xs]))))
theorem pureR_ok {m : Nat} {H : AH} {o : Res} {r : AV × AH} (e : pureR m H o = some r) {Q : K1} (q : Q r.1 r.2) {G : Prop} (g : ∀ a H', o = some (a, H') → pureK m H Q a H' → G) : G := rb_k e fun a H' e1 e => g a H' e1 (by
  revert e
  cases z : still a with
  | true => exact fun e => .inl ⟨z, by rw [← Option.some.inj e] at q; exact q⟩
  | false => exact fun e => ob_k e fun j e2 e => gB_k e fun e3 e => ob_k e fun xs e4 e => gB_k e fun e5 e => .inr ⟨j, xs, vR_k e2, Nat.le_of_ble_eq_true e3, hL_k e4, e5, by rw [← Option.some.inj e] at q; exact q⟩)
noncomputable def iL (k : Nat) (f : List AV → AH → Res) (as : List AV) (H : AH) (xs : List AV) : Res := rb (f (as.set k (.ref 0)) [.list xs]) fun a H' => (hL H' 0).bind fun ys => gB (sameAs xs ys) (pureR 1 H (some (a, H')))
noncomputable def iTry (k : Nat) (f : List AV → AH → Res) (as : List AV) (H : AH) (els : Res) : Res := match (as[k]?).bind fun a => (vR a).bind fun j => (hL H j).bind fun xs => gB (stills (as.eraseIdx k) && stills xs) (some xs) with
  | some xs => iL k f as H xs
  | none => els
noncomputable def nP {β R : Type} : List β → (List β → R) → R
  | [], k => k []
  | x :: r, k => nP r fun r' => k (x :: r')
noncomputable def nO {R : Type} (o : AO) (k : AO → R) : R := match o with
  | .list xs => nP xs fun xs' => k (.list xs')
  | .dict es => nP es fun es' => k (.dict es')
  | .inst c fs => nP fs fun fs' => k (.inst c fs')
noncomputable def nH {R : Type} : AH → (AH → R) → R
  | [], k => k []
  | o :: r, k => nO o fun o' => nH r fun r' => k (o' :: r')
theorem nP_eq {β R : Type} : ∀ (l : List β) (k : List β → R), nP l k = k l
  | [], _ => rfl
  | x :: r, k => nP_eq r _
theorem nO_eq {R : Type} (o : AO) (k : AO → R) : nO o k = k o := by cases o <;> exact nP_eq _ _
theorem nH_eq {R : Type} : ∀ (l : AH) (k : AH → R), nH l k = k l
  | [], _ => rfl
  | o :: r, k => (nO_eq o _).trans (nH_eq r _)
noncomputable def iDrop (f : List AV → AH → Res) (as : List AV) (H : AH) : Res := rb (f as H) fun a H' => gB (Nat.ble H.length H'.length && (refsH H.length (H'.take H.length) && refsA H.length a)) (nH (H'.take H.length) fun H2 => some (a, H2))
inductive Md | go | auto | drop
noncomputable def iAny (m : Md) (f : List AV → AH → Res) (as : List AV) (H : AH) : Res := match m with
  | .go => f as H
  | .auto => cond (stills as) (pureR 0 H (f as [])) (iTry 0 f as H (iTry 1 f as H (f as H)))
  | .drop => iDrop f as H
variable {f : List AV → AH → Res} {S : Spec}
theorem iTry_ok (hf : RunOk f S) {k : Nat} {as : List AV} {H : AH} {els : Res} {r : AV × AH} (e : iTry k f as H els = some r) {Q : K1} (q : Q r.1 r.2) (g : els = some r → anySpec S as H Q) : anySpec S as H Q := by
  unfold iTry at e
  cases z : (as[k]?).bind fun a => (vR a).bind fun j => (hL H j).bind fun xs => gB (stills (as.eraseIdx k) && stills xs) (some xs) with
  | none => rw [z] at e; exact g e
  | some xs =>
    rw [z] at e
    exact ob_k z fun a e1 z => ob_k z fun j e2 z => ob_k z fun ys e3 z => gB_k z fun e40 z => band_k e40 fun e4 e5 => rb_k e fun b H' e6 e => ob_k e fun zs e7 e => gB_k e fun e8 e => pureR_ok e q fun a' H'' e9 e => by
      cases Option.some.inj z
      cases Option.some.inj e9
      exact .pl k ⟨j, _, by rw [e1, vR_k e2], hL_k e3, e5, e4, hf _ _ _ e6 _ ⟨sameAs_ok e8 ▸ hL_k e7, e⟩⟩
theorem iAny_ok (hf : RunOk f S) (m : Md) : RunOk (iAny m f) (anySpec S) := fun as H r e Q q => by
  cases m with
  | go => exact .go (hf _ _ _ e _ q)
  | auto =>
    have e : cond (stills as) (pureR 0 H (f as [])) (iTry 0 f as H (iTry 1 f as H (f as H))) = some r := e
    cases z : stills as with
    | true => rw [z] at e; exact pureR_ok e q fun a H' e1 h => .pu ⟨z, hf _ _ _ e1 _ h⟩
    | false => rw [z] at e; exact iTry_ok hf e q fun e => iTry_ok hf e q fun e => .go (hf _ _ _ e _ q)
  | drop => exact rb_k e fun a H' e1 e => gB_k e fun e2 e => band_k e2 fun e2 e3 => band_k e3 fun e3 e4 => .dr (hf _ _ _ e1 _ ⟨Nat.le_of_ble_eq_true e2, e3, e4, by rw [nH_eq] at e; rw [← Option.some.inj e] at q; exact q⟩)
noncomputable def iden (t : Txt) (mF : Nat → Md) (mM : Nat → PySem.Str → Md) (frz : Frz) : Nat → IG
  | 0 => { frz := frz, glob := fun g => .py (t.globV g), fn := fun _ _ _ => none, me := fun _ _ _ _ => none, attrs := t.attrs, meths := t.meths }
  | n + 1 => { frz := frz, glob := fun g => .py (t.globV g), fn := fun f => iAny (mF f) (iBody (iden t mF mM frz n) (t.fnD f)), me := fun c x => iAny (mM c x) (iBody (iden t mF mM frz n) (t.meD c x)), attrs := t.attrs, meths := t.meths }
theorem iden_ok (t : Txt) (mF : Nat → Md) (mM : Nat → PySem.Str → Md) (frz : Frz) (k : Nat) : ∀ n, ISnd (iden t mF mM frz n) (den t frz (k + n))
  | 0 => ⟨rfl, fun _ => rfl, fun _ _ _ _ e => nos e, fun _ _ _ _ _ e => nos e, rfl, rfl⟩
  | n + 1 => ⟨rfl, fun _ => rfl, fun f => iAny_ok (iBody_ok (iden_ok t mF mM frz k n) _) (mF f), fun c x => iAny_ok (iBody_ok (iden_ok t mF mM frz k n) _) (mM c x), rfl, rfl⟩
end
section
noncomputable def mF (f : Nat) : Md := cond (Nat.ble 34 f) .go .auto
noncomputable def mM (_ : Nat) (x : PySem.Str) : Md := cond (x == "declare") .drop .go
noncomputable abbrev cev (frz : Frz) (n f : Nat) (as : List AV) : Res := iBody (iden tl.txt mF mM frz n) (tl.txt.fnD f) as []
noncomputable def okPy (r : Res) (a : AV) : Bool := oB r fun p => sameA p.1 a && still p.1
noncomputable def okL (r : Res) (xs : List AV) : Bool := oB r fun p => oB (vR p.1) fun j => oB (hL p.2 j) fun ys => sameAs ys xs && stills ys
variable {frz : Frz} {n m f : Nat} {as xs : List AV} {a : AV} {H : AH} {Q : K1}
theorem bd1 {a b : Bool} (h : (a && b) = true) : a = true := band_k h fun h _ => h
theorem bd2 {a b : Bool} (h : (a && b) = true) : b = true := band_k h fun _ h => h
theorem dn {a b n : Nat} (h : b < n) (e : Nat.ble a b = true) : a < n := Nat.lt_of_le_of_lt (Nat.le_of_ble_eq_true e) h
theorem fn_run (hm : n < m) (hs : stills as = true) {r : AV × AH} (e : cev frz n f as = some r) (q : pureK 0 H Q r.1 r.2) : (den tl.txt frz m).fn f as H Q := by
  rw [← Nat.sub_add_cancel hm]
  exact .pu ⟨hs, iBody_ok (iden_ok tl.txt mF mM frz (m - (n + 1)) n) _ _ _ _ e _ q⟩
theorem fn_py (hm : n < m) (hs : stills as = true) (e : okPy (cev frz n f as) a = true) (q : Q a H) : (den tl.txt frz m).fn f as H Q :=
  oBk e fun p e1 e => band_k e fun e2 e3 => fn_run hm hs e1 (.inl ⟨e3, sameA_ok _ e2 ▸ q⟩)
theorem fn_list (hm : n < m) (hs : stills as = true) (e : okL (cev frz n f as) xs = true) (q : Q (.ref H.length) (H ++ [.list xs])) : (den tl.txt frz m).fn f as H Q :=
  oBk e fun p e1 e => oBk e fun j e2 e => oBk e fun ys e3 e => band_k e fun e4 e5 => fn_run hm hs e1 (.inr ⟨j, ys, vR_k e2, Nat.zero_le _, hL_k e3, e5, sameAs_ok e4 ▸ q⟩)

inductive Nm | I8 | Ch | I64 | St | In | Si | Re | Nu | AC | AS | An
  deriving DecidableEq
noncomputable def nmS : Nm → PySem.Str
  | .I8 => "Int8" | .Ch => "Char" | .I64 => "Int64" | .St => "String" | .In => "Integer" | .Si => "Signed" | .Re => "Real" | .Nu => "Number" | .AC => "AbstractChar" | .AS => "AbstractString" | .An => "Any"
noncomputable def nmD (x : Nm) : PyData := .tuple [.str "name", .str (nmS x), .tuple []]
noncomputable def allNm : List Nm := [.I8, .Ch, .I64, .St, .In, .Si, .Re, .Nu, .AC, .AS, .An]
theorem allNm_mem (x : Nm) : x ∈ allNm := by cases x <;> decide
noncomputable def sup : Nm → Nm
  | .I8 => .Si | .I64 => .Si | .Si => .In | .In => .Re | .Re => .Nu | .Nu => .An | .Ch => .AC | .AC => .An | .St => .AS | .AS => .An | .An => .An
noncomputable def supsL : Nm → List Nm
  | .I8 => [.I8, .Si, .In, .Re, .Nu, .An] | .I64 => [.I64, .Si, .In, .Re, .Nu, .An] | .Si => [.Si, .In, .Re, .Nu, .An] | .In => [.In, .Re, .Nu, .An] | .Re => [.Re, .Nu, .An] | .Nu => [.Nu, .An]
  | .Ch => [.Ch, .AC, .An] | .AC => [.AC, .An] | .St => [.St, .AS, .An] | .AS => [.AS, .An] | .An => [.An]
noncomputable def leN (x y : Nm) : Bool := (supsL x).contains y
theorem nm_all {p : Nm → Bool} (h : allNm.all p = true) (x : Nm) : p x = true := List.all_eq_true.mp h x (allNm_mem x)
theorem leN_refl (x : Nm) : leN x x = true := nm_all (p := fun x => leN x x) (by decide) x
theorem leN_trans {x y z : Nm} (h1 : leN x y = true) (h2 : leN y z = true) : leN x z = true := by
  have := nm_all (nm_all (nm_all (p := fun x => allNm.all fun y => allNm.all fun z => !(leN x y && leN y z) || leN x z) (by decide) x) y) z
  rw [h1, h2] at this
  exact this
inductive Mem | n (x : Nm) | t1 (x : Nm) | t2 (x y : Nm) | r (x : Nm)
  deriving DecidableEq
noncomputable def memD : Mem → PyData
  | .n x => nmD x
  | .t1 x => .tuple [.str "tuple", .tuple [nmD x], .none]
  | .t2 x y => .tuple [.str "tuple", .tuple [nmD x, nmD y], .none]
  | .r x => .tuple [.str "tuple", .tuple [], nmD x]
noncomputable def nm7 : List Nm := [.I8, .Ch, .I64, .St, .In, .Si, .An]
noncomputable def okM : Mem → Bool
  | .n _ => true
  | .t1 x => nm7.contains x
  | .t2 x y => nm7.contains x && nm7.contains y
  | .r x => nm7.contains x
noncomputable def depM : Mem → Int
  | .n _ => 1
  | _ => 2
noncomputable def sizM : Mem → Int
  | .n _ => 1
  | .t1 _ => 2
  | .t2 _ _ => 3
  | .r _ => 2
noncomputable def wM : Mem → PySem.Str
  | .n _ => "name"
  | _ => "tuple"
noncomputable def tailD : Mem → PyData
  | .r x => nmD x
  | _ => .none
noncomputable def partsD : Mem → List PyData
  | .n _ => []
  | .t1 x => [nmD x]
  | .t2 x y => [nmD x, nmD y]
  | .r _ => []
noncomputable def isTup : Mem → Bool
  | .n _ => false
  | _ => true
theorem mem_all {p : Mem → Bool} (h : ((allNm.map .n).all p && ((nm7.map .t1).all p && ((nm7.map .r).all p && nm7.all fun x => (nm7.map (.t2 x)).all p))) = true) {k : Mem} (hk : okM k = true) : p k = true :=
  band_k h fun h1 h => band_k h fun h2 h => band_k h fun h3 h4 => by
    cases k with
    | n x => exact List.all_eq_true.mp h1 _ (List.mem_map_of_mem (allNm_mem x))
    | t1 x => exact List.all_eq_true.mp h2 _ (List.mem_map_of_mem (List.elem_iff.mp hk))
    | r x => exact List.all_eq_true.mp h3 _ (List.mem_map_of_mem (List.elem_iff.mp hk))
    | t2 x y => exact band_k hk fun hx hy => List.all_eq_true.mp (List.all_eq_true.mp h4 _ (List.elem_iff.mp hx)) _ (List.mem_map_of_mem (List.elem_iff.mp hy))
noncomputable def memTab (frz : Frz) (m : Mem) : Bool :=
  okPy (cev frz 12 10 [.py (memD m)]) (.i (depM m)) && (okPy (cev frz 12 11 [.py (memD m)]) (.i (sizM m)) && (okL (cev frz 12 12 [.py (memD m)]) [.py (memD m)] && (okPy (cev frz 12 14 [.py (memD m)]) (.b false) && (okL (cev frz 12 6 [.py (memD m)]) [] &&
  (okL (cev frz 12 3 [.py (memD m)]) [.py (memD m)] && ((oB (cev frz 12 9 [.py (memD m)]) fun p => oB (vD p.1) fun d => keyD d && still p.1) && (okPy (cev frz 12 20 [.py (memD m)]) (.py (memD m)) && (okPy (cev frz 12 27 [.py (memD m), .i 4]) (.b true) && (okPy (cev frz 12 27 [.py (memD m), .i 3]) (.b true) &&
  (!(isTup m) || okPy (cev frz 12 15 [.py (memD m)]) (.py (tailD m))))))))))))
theorem mt_n (frz : Frz) : (allNm.map .n).all (memTab frz) = true := by kernel_rfl
theorem mt_1 (frz : Frz) : (nm7.map .t1).all (memTab frz) = true := by kernel_rfl
theorem mt_r (frz : Frz) : (nm7.map .r).all (memTab frz) = true := by kernel_rfl
theorem mt_I8 (frz : Frz) : (nm7.map (.t2 .I8)).all (memTab frz) = true := by kernel_rfl
theorem mt_Ch (frz : Frz) : (nm7.map (.t2 .Ch)).all (memTab frz) = true := by kernel_rfl
theorem mt_I64 (frz : Frz) : (nm7.map (.t2 .I64)).all (memTab frz) = true := by kernel_rfl
theorem mt_St (frz : Frz) : (nm7.map (.t2 .St)).all (memTab frz) = true := by kernel_rfl
theorem mt_In (frz : Frz) : (nm7.map (.t2 .In)).all (memTab frz) = true := by kernel_rfl
theorem mt_Si (frz : Frz) : (nm7.map (.t2 .Si)).all (memTab frz) = true := by kernel_rfl
theorem mt_An (frz : Frz) : (nm7.map (.t2 .An)).all (memTab frz) = true := by kernel_rfl
theorem mem_all4 {p : Mem → Bool} (h1 : (allNm.map .n).all p = true) (h2 : (nm7.map .t1).all p = true) (h3 : (nm7.map .r).all p = true) (g0 : (nm7.map (.t2 .I8)).all p = true) (g1 : (nm7.map (.t2 .Ch)).all p = true) (g2 : (nm7.map (.t2 .I64)).all p = true) (g3 : (nm7.map (.t2 .St)).all p = true) (g4 : (nm7.map (.t2 .In)).all p = true) (g5 : (nm7.map (.t2 .Si)).all p = true) (g6 : (nm7.map (.t2 .An)).all p = true) :
    ((allNm.map .n).all p && ((nm7.map .t1).all p && ((nm7.map .r).all p && nm7.all fun x => (nm7.map (.t2 x)).all p))) = true := by
  have h4 : (nm7.all fun x => (nm7.map (.t2 x)).all p) = true := List.all_eq_true.mpr fun x hx => by
    cases x <;> first | assumption | exact absurd hx (by decide)
  rw [h1, h2, h3, h4]; rfl
theorem memTab_all (frz : Frz) : ((allNm.map .n).all (memTab frz) && ((nm7.map .t1).all (memTab frz) && ((nm7.map .r).all (memTab frz) && nm7.all fun x => (nm7.map (.t2 x)).all (memTab frz)))) = true :=
  mem_all4 (p := memTab frz) (mt_n frz) (mt_1 frz) (mt_r frz) (mt_I8 frz) (mt_Ch frz) (mt_I64 frz) (mt_St frz) (mt_In frz) (mt_Si frz) (mt_An frz)
theorem memTab_ok {m : Mem} (h : okM m = true) : memTab frz m = true := mem_all (memTab_all frz) h
end
section
variable {frz : Frz} {n m f c : Nat} {as xs : List AV} {a : AV} {H H' : AH} {Q : K1} {x : PySem.Str} {vs : Vars} {K : K2} {D : FnDef}
theorem gA {o : Option AV} (h : o = some a) (q : Q a H) : giveA o H Q := oP_of h q
theorem gT {o : Option Bool} {b : Bool} (h : o = some b) (q : Q (.b b) H) : giveB o H Q := oP_of h q
theorem gO {o : Option (AV × AH)} (h : o = some (a, H')) (q : Q a H') : giveO o Q := oP_of h q
theorem cT {b : Bool} {A B : Prop} (h : b = true) (q : A) : cond b A B := by subst h; exact q
theorem cF {b : Bool} {A B : Prop} (h : b = false) (q : B) : cond b A B := by subst h; exact q
noncomputable def argsOf (D : FnDef) (as : List AV) : Option Vars := gB (Nat.ble as.length D.np && Nat.ble D.np (as.length + D.dfl.length)) (some ((fullArgs D as).map some ++ List.replicate (D.nm.length - D.np) none))
theorem body_of {Γ : Gam} (h : argsOf D as = some vs) (q : eSs Γ D.body vs H (outK Q)) : bodySpec Γ D as H Q := gB_k h fun h1 h2 => bP_of h1 (Option.some.inj h2 ▸ q)
theorem fn_do (D : FnDef) (vs : Vars) (h : argsOf D as = some vs) (hD : tl.txt.fnD f = D) (q : eSs (den tl.txt frz n) D.body vs H (outK Q)) : (den tl.txt frz (n + 1)).fn f as H Q := .go (hD ▸ body_of h q)
theorem fn_in (D : FnDef) (vs : Vars) (h : argsOf D as = some vs) (hD : tl.txt.fnD f = D) (hs : stills as = true) (q : eSs (den tl.txt frz n) D.body vs [] (outK (pureK 0 H Q))) : (den tl.txt frz (n + 1)).fn f as H Q := .pu ⟨hs, hD ▸ body_of h q⟩
theorem me_do (D : FnDef) (vs : Vars) (h : argsOf D as = some vs) (hD : tl.txt.meD c x = D) (q : eSs (den tl.txt frz n) D.body vs H (outK Q)) : (den tl.txt frz (n + 1)).me c x as H Q := .go (hD ▸ body_of h q)
theorem me_in (D : FnDef) (vs : Vars) (h : argsOf D as = some vs) (hD : tl.txt.meD c x = D) (hs : stills as = true) (q : eSs (den tl.txt frz n) D.body vs [] (outK (pureK 0 H Q))) : (den tl.txt frz (n + 1)).me c x as H Q := .pu ⟨hs, hD ▸ body_of h q⟩
theorem ret_py {m : Nat} {d : PyData} (q : Q (.py d) H) : pureK m H Q (.py d) H' := .inl ⟨rfl, q⟩
theorem ret_list {m j : Nat} (hm : m ≤ j) (h : H'[j]? = some (.list xs)) (hs : stills xs = true) (q : Q (.ref H.length) (H ++ [.list xs])) : pureK m H Q (.ref j) H' := .inr ⟨j, xs, rfl, hm, h, hs, q⟩
theorem at_fro {Γ : Gam} {p : Addr × Addr} {fs : List (PySem.Str × AV)} (h : Γ.frz p = some (.inst c fs)) (e : gB (Γ.attrs c x) (fs.lookup x) = some a) : attrA Γ (.fro p) x H = some a := (congrArg (fun o => Option.bind o fun ob => (oI ob).bind fun p => gB (Γ.attrs p.1 x) (p.2.lookup x)) (show getO Γ.frz H (.fro p) = _ from h)).trans e
theorem at_ref {Γ : Gam} {j : Nat} {fs : List (PySem.Str × AV)} (h : H[j]? = some (.inst c fs)) (e : gB (Γ.attrs c x) (fs.lookup x) = some a) : attrA Γ (.ref j) x H = some a := (congrArg (fun o => Option.bind o fun ob => (oI ob).bind fun p => gB (Γ.attrs p.1 x) (p.2.lookup x)) (show getO Γ.frz H (.ref j) = _ from h)).trans e
theorem kd_fro {Γ : Gam} {p : Addr × Addr} {fs : List (PySem.Str × AV)} (h : Γ.frz p = some (.inst c fs)) (e : (Γ.meths c x && (fs.lookup x).isNone) = true) : kindM Γ (.fro p) x H = some (.user (Γ.me c x)) := (congrArg (fun o => Option.bind o fun ob => (oI ob).bind (instM Γ x)) h).trans (gB_of e)
theorem kd_ref {Γ : Gam} {j : Nat} {fs : List (PySem.Str × AV)} (h : H[j]? = some (.inst c fs)) (e : (Γ.meths c x && (fs.lookup x).isNone) = true) : kindM Γ (.ref j) x H = some (.user (Γ.me c x)) := (congrArg (fun o => Option.bind o (kindO Γ x)) h).trans (gB_of e)
theorem gl {X Y : AH} {i : Nat} (h : i < X.length) : (X ++ Y)[i]? = X[i]? := List.getElem?_append_left h
theorem lt_get {X : AH} {i : Nat} {o : AO} (h : X[i]? = some o) : i < X.length := (List.getElem?_eq_some_iff.mp h).1
theorem glast {X : AH} {o : AO} : (X ++ [o])[X.length]? = some o := List.getElem?_concat_length
theorem hlast {X : AH} {l : List AV} : hL (X ++ [.list l]) X.length = some l := hL_of glast
theorem setl {X : AH} {o o' : AO} : (X ++ [o]).set X.length o' = X ++ [o'] := by rw [List.set_append_right _ _ (Nat.le_refl _), Nat.sub_self]; rfl
theorem app_last {X : AH} {l : List AV} {v : AV} (h : Nat.ble l.length room = true) : appendAt X.length v (X ++ [.list l]) = some (X ++ [.list (l ++ [v])]) := by
  unfold appendAt; rw [hlast]; exact (gB_of h).trans (congrArg some setl)
theorem q_ref {i j : Nat} {xs ys : List AV} {b : Bool} (h1 : hL H i = some xs) (h2 : hL H j = some ys) (e : eqL xs ys = some b) : eqA (.ref i) (.ref j) H = some b := by
  show Option.bind (hL H i) _ = _
  rw [h1]; exact (congrArg (Option.bind · _) h2).trans e
theorem hpre {X Y : AH} {i : Nat} {l : List AV} (h : hL X i = some l) : hL (X ++ Y) i = some l := have z := hL_k h; hL_of ((gl (lt_get z)).trans z)
theorem q_new {X : AH} {xs ys : List AV} {b : Bool} (e : eqL xs ys = some b) : eqA (.ref X.length) (.ref (X ++ [AO.list xs]).length) (X ++ [.list xs] ++ [.list ys]) = some b := q_ref (hpre hlast) hlast e
noncomputable def Pre (H H' : AH) : Prop := ∀ (i : Nat) (o : AO), H[i]? = some o → H'[i]? = some o
theorem Pre.refl : Pre H H := fun _ _ h => h
theorem Pre.trans {H1 H2 H3 : AH} (x : Pre H1 H2) (y : Pre H2 H3) : Pre H1 H3 := fun i o h => y i o (x i o h)
theorem Pre.app {X : AH} (x : Pre H H') : Pre H (H' ++ X) := fun i o h => have z := x i o h; (List.getElem?_append_left (lt_get z)).trans z

noncomputable def lf (k : Nat) (d : PyData) : Bool := leafy d && Nat.ble d.depth k
noncomputable def lfs (k : Nat) (ds : List PyData) : Bool := leafyAll ds && Nat.ble (PyData.depthAll ds) k
theorem lf_up {k j : Nat} {d : PyData} (h : lf k d = true) (hk : Nat.ble k j = true) : lf j d = true := band_k h fun h1 h2 => Bool.and_eq_true_iff.mpr ⟨h1, Nat.ble_eq_true_of_le (Nat.le_trans (Nat.le_of_ble_eq_true h2) (Nat.le_of_ble_eq_true hk))⟩
theorem lfs_cons {k : Nat} {d : PyData} {ds : List PyData} (h : lf k d = true) (hs : lfs k ds = true) : lfs k (d :: ds) = true := band_k h fun h1 h2 => band_k hs fun h3 h4 => Bool.and_eq_true_iff.mpr ⟨Bool.and_eq_true_iff.mpr ⟨h1, h3⟩, Nat.ble_eq_true_of_le (Nat.max_le.mpr ⟨Nat.le_of_ble_eq_true h2, Nat.le_of_ble_eq_true h4⟩)⟩
theorem lf_tup {k : Nat} {ds : List PyData} (h : lfs k ds = true) : lf (k + 1) (.tuple ds) = true := band_k h fun h1 h2 => Bool.and_eq_true_iff.mpr ⟨h1, Nat.ble_eq_true_of_le (Nat.succ_le_succ (Nat.le_of_ble_eq_true h2))⟩
theorem lfs_of {k : Nat} : ∀ {ds : List PyData}, (∀ d ∈ ds, lf k d = true) → lfs k ds = true
  | [], _ => rfl
  | d :: r, h => lfs_cons (h d List.mem_cons_self) (lfs_of fun e he => h e (List.mem_cons_of_mem _ he))
theorem leafy_lay (d : PyData) : leafy d = true → lay d = true :=
  leafy_ind (P := fun d => lay d = true) (Q := fun ds => layAll ds = true) rfl (fun _ e => e) (fun _ _ e => e) rfl (fun _ _ _ _ a b => Bool.and_eq_true_iff.mpr ⟨a, b⟩) d
theorem lf_shp {k : Nat} {d : PyData} (h : lf k d = true) (hk : Nat.ble k 64 = true) : shp d = true := band_k (lf_up h hk) fun h1 h2 => Bool.and_eq_true_iff.mpr ⟨leafy_lay d h1, h2⟩
theorem lfs_shp {k : Nat} {ds : List PyData} (h : lfs k ds = true) (hk : Nat.ble k 60 = true) : shp (.list ds) = true := lf_shp (k := k + 1) (d := .tuple ds) (lf_tup h) (Nat.ble_eq_true_of_le (Nat.le_trans (Nat.succ_le_succ (Nat.le_of_ble_eq_true hk)) (by decide)))
theorem lf_tkey {k : Nat} {ds : List PyData} (h : lf k (.tuple ds) = true) (hk : Nat.ble k 8 = true) : tkey (.tuple ds) = true := lf_up h hk
open Classical in
theorem eqv_lf {k j : Nat} {a b : PyData} (ha : lf k a = true) (hb : lf j b = true) : PyData.eqv a b = decide (a = b) := by
  have := leafy_eqv a (bd1 ha) b (bd1 hb)
  by_cases e : a = b
  · rw [this.mpr e, decide_eq_true e]
  · rw [decide_eq_false e]
    exact Bool.eq_false_iff.mpr fun q => e (this.mp q)
open Classical in
theorem eqA_lf {k j : Nat} {a b : PyData} (ha : lf k a = true) (hb : lf j b = true) (hk : Nat.ble k 64 = true) (hj : Nat.ble j 64 = true) : eqA (.py a) (.py b) [] = some (decide (a = b)) :=
  (gB_of (Bool.and_eq_true_iff.mpr ⟨lf_shp ha hk, lf_shp hb hj⟩)).trans (congrArg some (eqv_lf ha hb))
open Classical in
theorem eqA_no {k j : Nat} {a b : PyData} (ha : lf k a = true) (hb : lf j b = true) (hk : Nat.ble k 64 = true) (hj : Nat.ble j 64 = true) (h : a ≠ b) : eqA (.py a) (.py b) [] = some false := (eqA_lf ha hb hk hj).trans (congrArg some (decide_eq_false h))
open Classical in
theorem eqA_yes {k : Nat} {a : PyData} (ha : lf k a = true) (hk : Nat.ble k 64 = true) : eqA (.py a) (.py a) [] = some true := (eqA_lf ha ha hk hk).trans (congrArg some (decide_eq_true rfl))
noncomputable def botD : PyData := .tuple [.str "bottom"]
theorem nm_all2 {p : Nm → Nm → Bool} (h : (allNm.all fun x => allNm.all (p x)) = true) (x y : Nm) : p x y = true := nm_all (nm_all h x) y
theorem lf_nm (x : Nm) : lf 2 (nmD x) = true := nm_all (p := fun x => lf 2 (nmD x)) (by decide +kernel) x
theorem lf_nmS (x : Nm) : lf 0 (.str (nmS x)) = true := nm_all (p := fun x => lf 0 (.str (nmS x))) (by decide +kernel) x
theorem lf_mem (m : Mem) : lf 4 (memD m) = true := by
  cases m with
  | n x => exact lf_up (lf_nm x) rfl
  | t1 x => exact nm_all (p := fun x => lf 4 (memD (.t1 x))) (by decide +kernel) x
  | t2 x y => exact nm_all2 (p := fun x y => lf 4 (memD (.t2 x y))) (by decide +kernel) x y
  | r x => exact nm_all (p := fun x => lf 4 (memD (.r x))) (by decide +kernel) x
theorem nmS_inj {x y : Nm} (h : nmS x = nmS y) : x = y := by
  have := nm_all2 (p := fun x y => !(decide (nmS x = nmS y)) || decide (x = y)) (by decide +kernel) x y
  rw [decide_eq_true h] at this
  exact of_decide_eq_true this
theorem nmD_inj {x y : Nm} (h : nmD x = nmD y) : x = y := nmS_inj (by injection h with h; injection h with _ h; injection h with h; injection h)
theorem tin {x y : PySem.Str} {a b c d : PyData} (h : PyData.tuple [.str x, a, b] = .tuple [.str y, c, d]) : x = y ∧ a = c ∧ b = d := by
  injection h with h; injection h with h1 h; injection h with h2 h; injection h with h3 _; injection h1 with h1; exact ⟨h1, h2, h3⟩
theorem nt : ("name" : PySem.Str) ≠ "tuple" := by decide
theorem tuh {x y : PyData} {r s : List PyData} (h : PyData.tuple (x :: r) = .tuple (y :: s)) : x = y ∧ r = s := by
  injection h with h; injection h with h1 h2; exact ⟨h1, h2⟩
theorem memD_inj : ∀ {a b : Mem}, memD a = memD b → a = b
  | .n _, .n _, h => congrArg Mem.n (nmD_inj h)
  | .n _, .t1 _, h => absurd (tin h).1 nt
  | .n _, .t2 _ _, h => absurd (tin h).1 nt
  | .n _, .r _, h => absurd (tin h).1 nt
  | .t1 _, .n _, h => absurd (tin h).1.symm nt
  | .t1 _, .t1 _, h => congrArg Mem.t1 (nmD_inj (tuh (tin h).2.1).1)
  | .t1 _, .t2 _ _, h => (nomatch (tuh (tin h).2.1).2)
  | .t1 _, .r _, h => (nomatch (tin h).2.2)
  | .t2 _ _, .n _, h => absurd (tin h).1.symm nt
  | .t2 _ _, .t1 _, h => (nomatch (tuh (tin h).2.1).2)
  | .t2 _ _, .t2 _ _, h => have z := tuh (tin h).2.1; congr (congrArg Mem.t2 (nmD_inj z.1)) (nmD_inj (by injection z.2))
  | .t2 _ _, .r _, h => (nomatch (tin h).2.2)
  | .r _, .n _, h => absurd (tin h).1.symm nt
  | .r _, .t1 _, h => (nomatch (tin h).2.2)
  | .r _, .t2 _ _, h => (nomatch (tin h).2.2)
  | .r _, .r _, h => congrArg Mem.r (nmD_inj (tin h).2.2)
theorem q_mem (a b : Mem) : eqA (.py (memD a)) (.py (memD b)) [] = some (decide (a = b)) := by
  rw [eqA_lf (lf_mem a) (lf_mem b) rfl rfl]; congr 2; exact propext ⟨memD_inj, congrArg memD⟩
theorem q_nmS (a b : Nm) : eqA (.py (.str (nmS a))) (.py (.str (nmS b))) [] = some (decide (a = b)) := by
  rw [eqA_lf (lf_nmS a) (lf_nmS b) rfl rfl]; congr 2; exact propext ⟨fun h => nmS_inj (by injection h), fun h => h ▸ rfl⟩
theorem q_nm (a b : Nm) : eqA (.py (nmD a)) (.py (nmD b)) [] = some (decide (a = b)) := (q_mem (.n a) (.n b)).trans (congrArg some (by congr 1; exact propext ⟨fun h => by injection h, congrArg Mem.n⟩))
theorem q_bot (a : Mem) : eqA (.py (memD a)) (.py botD) [] = some false := by cases a <;> exact eqA_no (lf_mem _) (show lf 1 botD = true by decide) rfl rfl (fun e => nomatch (List.cons.inj (PyData.tuple.inj e)).2)
theorem ne_of {F : Frz} {x y : PyData} {b : Bool} (h : eqA (.py x) (.py y) [] = some b) : cmpA F .ne (.py x) (.py y) H = some (!b) := congrArg (Option.map (!·)) h
theorem q_nmN {a b : Nm} (h : a ≠ b) : eqA (.py (nmD a)) (.py (nmD b)) [] = some false := (q_nm a b).trans (congrArg some (decide_eq_false h))
theorem q_nmY (a : Nm) : eqA (.py (nmD a)) (.py (nmD a)) [] = some true := (q_nm a a).trans (congrArg some (decide_eq_true rfl))
theorem q_nmSN {a b : Nm} (h : a ≠ b) : eqA (.py (.str (nmS a))) (.py (.str (nmS b))) [] = some false := (q_nmS a b).trans (congrArg some (decide_eq_false h))
theorem q_nmSY (a : Nm) : eqA (.py (.str (nmS a))) (.py (.str (nmS a))) [] = some true := (q_nmS a a).trans (congrArg some (decide_eq_true rfl))
theorem q_memN {a b : Mem} (h : a ≠ b) : eqA (.py (memD a)) (.py (memD b)) [] = some false := (q_mem a b).trans (congrArg some (decide_eq_false h))
theorem q_memY (a : Mem) : eqA (.py (memD a)) (.py (memD a)) [] = some true := (q_mem a a).trans (congrArg some (decide_eq_true rfl))
theorem sub_w (F : Frz) (a : Mem) : subA F (.py (memD a)) (.py (.int 0)) H = some (.py (.str (wM a))) := by cases a <;> rfl
theorem w_union (a : Mem) : eqA (.py (.str (wM a))) (.py (.str "union")) [] = some false := by cases a <;> rfl
theorem w_all (a : Mem) : eqA (.py (.str (wM a))) (.py (.str "all")) [] = some false := by cases a <;> rfl
theorem w_var (a : Mem) : eqA (.py (.str (wM a))) (.py (.str "var")) [] = some false := by cases a <;> rfl
theorem w_fn (a : Mem) : eqA (.py (.str (wM a))) (.py (.str "fn")) [] = some false := by cases a <;> rfl
theorem w_typeof (a : Mem) : eqA (.py (.str (wM a))) (.py (.str "typeof")) [] = some false := by cases a <;> rfl
theorem w_const (a : Mem) : eqA (.py (.str (wM a))) (.py (.str "const")) [] = some false := by cases a <;> rfl
end
section
variable {frz : Frz} {n m f : Nat} {as xs : List AV} {a : AV} {H H' : AH} {Q : K1} {p pd : Addr × Addr} {es : List (PyData × AV)}
structure DA (frz : Frz) (es : List (PyData × AV)) (x : Nm) (q : Addr × Addr) (fs : List (PySem.Str × AV)) (l : Addr × Addr) : Prop where
  g : dget es (.str (nmS x)) = some (.fro q)
  q : frz q = some (.inst 2 fs)
  s : List.lookup ("super" : PySem.Str) fs = some (.py (nmD (sup x)))
  p : List.lookup ("params" : PySem.Str) fs = some (.fro l)
  t : List.lookup ("table_for" : PySem.Str) fs = none
  l : frz l = some (.list [])
structure KA (frz : Frz) (p : Addr × Addr) (pd : Addr × Addr) (es : List (PyData × AV)) : Prop where
  k : frz p = some (.inst 3 [("decls", .fro pd)])
  d : frz pd = some (.dict es)
  s : (es.all fun e => isStrD e.1) = true
  x : ∀ x : Nm, x ≠ .An → ∃ q fs l, DA frz es x q fs l
theorem KA.decls (K : KA frz p pd es) : attrA (den tl.txt frz n) (.fro p) "decls" H = some (.fro pd) := at_fro K.k (by kernel_rfl)
theorem KA.me (K : KA frz p pd es) {x : PySem.Str} (e : (tl.txt.meths 3 x && (List.lookup x [(("decls" : PySem.Str), AV.fro pd)]).isNone) = true) : kindM (den tl.txt frz n) (.fro p) x H = some (.user ((den tl.txt frz n).me 3 x)) := kd_fro K.k e
theorem KA.o (K : KA frz p pd es) : getO frz H (.fro pd) = some (.dict es) := K.d
theorem KA.key (K : KA frz p pd es) (x : PySem.Str) : keyOk es (.str x) = true := by
  unfold keyOk; rw [K.s]; rfl
theorem KA.inn (K : KA frz p pd es) {x : Nm} {a : AV} (h : dget es (.str (nmS x)) = some a) : inA frz (.py (.str (nmS x))) (.fro pd) H = some true :=
  (congrArg (Option.bind · _) (K.o (H := H))).trans ((gB_of (K.key _)).trans (by rw [h]; rfl))
theorem KA.sub (K : KA frz p pd es) {x : Nm} {a : AV} (h : dget es (.str (nmS x)) = some a) : subA frz (.fro pd) (.py (.str (nmS x))) H = some a :=
  (congrArg (Option.bind · _) (K.o (H := H))).trans ((gB_of (K.key _)).trans h)
theorem c_isdecl (K : KA frz p pd es) {x : Nm} (hx : x ≠ .An) (q : Q (.b true) H) : (den tl.txt frz (n + 1)).me 3 "is_declared" [.fro p, .py (.str (nmS x))] H Q :=
  (K.x x hx).elim fun _ z => z.elim fun _ z => z.elim fun _ z => me_in D_Kinds_is_declared [some (.fro p), some (.py (.str (nmS x)))] rfl (by kernel_rfl) rfl (gA K.decls (gT (K.inn z.g) (ret_py q)))
theorem c_decl (K : KA frz p pd es) {x : Nm} {r : Addr × Addr} (h : dget es (.str (nmS x)) = some (.fro r)) (q : Q (.fro r) H) : (den tl.txt frz (n + 1)).me 3 "decl" [.fro p, .py (.str (nmS x))] H Q :=
  me_in D_Kinds_decl [some (.fro p), some (.py (.str (nmS x)))] rfl (by kernel_rfl) rfl (gA K.decls (gT (b := false) (show Option.map _ (inA frz _ _ _) = _ by rw [K.inn h]; rfl) (gA K.decls (gA (K.sub h) (.inl ⟨rfl, q⟩)))))
theorem c_table {x : Nm} {r l : Addr × Addr} {fs : List (PySem.Str × AV)} (h : DA frz es x r fs l) (q : Q (.ref (H ++ [AO.list []]).length) (H ++ [.list []] ++ [.dict []])) : (den tl.txt frz (n + 1)).me 2 "table_for" [.fro r, .py (.tuple [])] H Q := by
  refine me_do D_Decl_table_for [some (.fro r), some (.py (.tuple []))] rfl (by kernel_rfl) ?_
  refine gA (at_fro h.q ((gB_of (by kernel_rfl)).trans h.p)) ?_
  refine oP_of (show itemsA frz _ _ = _ from congrArg (Option.bind · oL) h.l) ?_
  refine oP_of (show itemsA frz _ _ = some [] from rfl) ?_
  refine ⟨trivial, ?_⟩
  exact oP_of (show callBA frz .dict _ _ = _ from congrArg (Option.bind · (dictO _)) (show getO frz _ _ = some (.list []) from glast)) q
noncomputable def nmTab (frz : Frz) (x : Nm) : Bool := okPy (cev frz 12 33 [.py (nmD x)]) (.b false) && okL (cev frz 12 4 [.py (nmD x)]) []
theorem nmTab_ok (frz : Frz) (x : Nm) : nmTab frz x = true := nm_all (p := nmTab frz) (by kernel_rfl) x
theorem c_large {x : Nm} (hn : 12 < n) (q : Q (.b false) H) : (den tl.txt frz n).fn 33 [.py (nmD x)] H Q := fn_py hn rfl (bd1 (nmTab_ok frz x)) q
theorem c_parts {x : Nm} (hn : 12 < n) (q : Q (.ref H.length) (H ++ [.list []])) : (den tl.txt frz n).fn 4 [.py (nmD x)] H Q := fn_list hn rfl (bd2 (nmTab_ok frz x)) q
theorem c_subst {x : Nm} {j : Nat} (hn : 12 < n) (q : Q (.py (nmD x)) (H ++ [.list []] ++ [.list []])) : (den tl.txt frz (n + 1)).fn 5 [.py (nmD x), .ref j] H Q := by
  refine fn_do D_substituted [some (.py (nmD x)), some (.ref j), none] rfl rfl ?_
  refine c_parts hn ?_
  exact gT (q_new rfl) q
theorem c_super (K : KA frz p pd es) {x : Nm} (hx : x ≠ .An) (hn : 12 < n) (q : Q (.py (nmD (sup x))) H) : (den tl.txt frz (n + 2)).me 3 "super_of" [.fro p, .py (nmD x)] H Q := by
  refine (K.x x hx).elim fun r z => z.elim fun fs z => z.elim fun l z => me_in D_Kinds_super_of [some (.fro p), some (.py (nmD x)), none, none] rfl (by kernel_rfl) rfl ?_
  refine gT (q_nmN hx) ?_
  refine oP_of (K.me (x := "is_declared") (by kernel_rfl)) ?_
  refine c_isdecl K hx ?_
  refine oP_of (K.me (x := "decl") (by kernel_rfl)) ?_
  refine c_decl K z.g ?_
  refine gA (at_fro z.q ((gB_of (by kernel_rfl)).trans z.s)) ?_
  refine oP_of (kd_fro z.q (Bool.and_eq_true_iff.mpr ⟨by kernel_rfl, by rw [z.t]; rfl⟩)) ?_
  refine c_table z ?_
  refine c_subst hn ?_
  exact c_large (Nat.lt_succ_of_lt hn) (ret_py q)
end
section
variable {frz : Frz} {n m f : Nat} {as xs : List AV} {a : AV} {H H' : AH} {Q : K1} {p pd : Addr × Addr} {es : List (PyData × AV)}
noncomputable def hdS : CSs → CS
  | .cons c _ => c
  | .nil => .bad
noncomputable def tlS : CSs → CSs
  | .cons _ r => r
  | .nil => .nil
noncomputable def loopS : CS → CSs
  | .forS _ _ b => b
  | .whileS _ _ b => b
  | _ => .nil
noncomputable def thenS : CS → CSs
  | .ifS _ b _ => b
  | _ => .nil
noncomputable def condS : CS → CE
  | .whileS _ c _ => c
  | .ifS c _ _ => c
  | _ => .bad
theorem sub_ref {F : Frz} {j : Nat} {o : AO} {k : PyData} (h : H[j]? = some o) : subA F (.ref j) (.py k) H = subO k o := congrArg (Option.bind · (subO k)) (show getO F H (.ref j) = _ from h)
theorem ix_last {v : AV} : ixL (xs ++ [v]) (.int (-1)) = some v := by
  have e : seqIndex? (-1) (xs ++ [v]).length = some xs.length := by
    rw [seqIndex_neg (k := -1) (by decide) (by rw [List.length_append, List.length_singleton]; omega)]
    congr 1; rw [List.length_append, List.length_singleton]; omega
  show Option.bind (seqIndex? (-1) (xs ++ [v]).length) _ = _
  rw [e]; exact List.getElem?_concat_length
noncomputable def nms (l : List Nm) : List AV := l.map fun x => .py (nmD x)
theorem nms_snoc (l : List Nm) (y : Nm) : nms l ++ [.py (nmD y)] = nms (l ++ [y]) := (List.map_append (f := fun x => AV.py (nmD x)) (l₁ := l) (l₂ := [y])).symm
theorem still_nms : ∀ l, stills (nms l) = true
  | [] => rfl
  | _ :: r => still_nms r
noncomputable def supW (n : Nat) (frz : Frz) : Nat → Vars → AH → K2 → Prop := whileL (eE (den tl.txt frz n) (condS (hdS (tlS D_Kinds_supers.body)))) (eSs (den tl.txt frz n) (loopS (hdS (tlS D_Kinds_supers.body))))
noncomputable def supGoal (n : Nat) (frz : Frz) (p : Addr × Addr) (k : Nat) (a : AV) (pre l : List Nm) (y : Nm) : Prop := ∀ K : K2, K .next [some (.fro p), some a, some (.ref 0)] [.list (nms (pre ++ l))] → supW n frz k [some (.fro p), some a, some (.ref 0)] [.list (nms pre ++ [.py (nmD y)])] K
theorem sup_end {k : Nat} {pre : List Nm} : supGoal n frz p (k + 1) a pre [.An] .An := fun K q => by
  rw [← nms_snoc] at q
  refine gA ix_last ?_
  exact q
theorem sup_step (K : KA frz p pd es) {k : Nat} {pre l : List Nm} {y : Nm} (hy : y ≠ .An) (hp : pre.length ≤ 10) (hn : 12 < n) (ih : supGoal (n + 2) frz p k a (pre ++ [y]) l (sup y)) : supGoal (n + 2) frz p (k + 1) a pre (y :: l) y := by
  intro K' q
  refine gA ix_last ?_
  refine gT (ne_of (q_nmN hy)) ?_
  refine oP_of (K.me (x := "super_of") (by kernel_rfl)) ?_
  refine gA ix_last ?_
  refine c_super K hy hn ?_
  refine gO (gB_of (Nat.ble_eq_true_of_le ?_)) ?_
  · rw [List.length_append]; unfold nms; rw [List.length_map]; exact Nat.le_trans (Nat.add_le_add_right hp 1) (by decide)
  · refine (nms_snoc pre y).symm ▸ ih K' ?_
    rw [List.append_assoc]; exact q
theorem sup_all (K : KA frz p pd es) (hn : 12 < n) (x : Nm) : supGoal (n + 2) frz p 2000 a [] (supsL x) x := by
  have An : ∀ pre k, supGoal (n + 2) frz p (k + 1) a pre [.An] .An := fun _ _ => sup_end
  have st : ∀ {k : Nat} {pre l : List Nm} {y : Nm}, y ≠ .An → pre.length ≤ 10 → supGoal (n + 2) frz p k a (pre ++ [y]) l (sup y) → supGoal (n + 2) frz p (k + 1) a pre (y :: l) y := fun hy hp ih => sup_step K hy hp hn ih
  have nu : ∀ pre k, pre.length ≤ 6 → supGoal (n + 2) frz p (k + 2) a pre [.Nu, .An] .Nu := fun pre k h => st (nomatch ·) (Nat.le_trans h (by decide)) (An _ _)
  have re : ∀ pre k, pre.length ≤ 5 → supGoal (n + 2) frz p (k + 3) a pre [.Re, .Nu, .An] .Re := fun pre k h => st (nomatch ·) (Nat.le_trans h (by decide)) (nu _ _ (by rw [List.length_append]; exact Nat.succ_le_succ h))
  have inn : ∀ pre k, pre.length ≤ 4 → supGoal (n + 2) frz p (k + 4) a pre [.In, .Re, .Nu, .An] .In := fun pre k h => st (nomatch ·) (Nat.le_trans h (by decide)) (re _ _ (by rw [List.length_append]; exact Nat.succ_le_succ h))
  have si : ∀ pre k, pre.length ≤ 3 → supGoal (n + 2) frz p (k + 5) a pre [.Si, .In, .Re, .Nu, .An] .Si := fun pre k h => st (nomatch ·) (Nat.le_trans h (by decide)) (inn _ _ (by rw [List.length_append]; exact Nat.succ_le_succ h))
  cases x with
  | An => exact An _ _
  | Nu => exact nu _ _ (by decide)
  | Re => exact re _ _ (by decide)
  | In => exact inn _ _ (by decide)
  | Si => exact si _ _ (by decide)
  | I8 => exact st (nomatch ·) (by decide) (si _ _ (by decide))
  | I64 => exact st (nomatch ·) (by decide) (si _ _ (by decide))
  | AC => exact st (nomatch ·) (by decide) (An _ _)
  | AS => exact st (nomatch ·) (by decide) (An _ _)
  | Ch => exact st (nomatch ·) (by decide) (st (nomatch ·) (by decide) (An _ _))
  | St => exact st (nomatch ·) (by decide) (st (nomatch ·) (by decide) (An _ _))
theorem c_supers (K : KA frz p pd es) {x : Nm} (hn : 14 < n) (q : Q (.ref H.length) (H ++ [.list (nms (supsL x))])) : (den tl.txt frz (n + 1)).me 3 "supers" [.fro p, .py (nmD x)] H Q := by
  obtain ⟨k, rfl⟩ : ∃ k, n = k + 2 := ⟨n - 2, (Nat.sub_add_cancel (Nat.le_trans (by decide) hn)).symm⟩
  refine me_in D_Kinds_supers [some (.fro p), some (.py (nmD x)), none] rfl (by kernel_rfl) rfl ?_
  exact sup_all (n := k) K (Nat.lt_of_succ_lt_succ (Nat.lt_of_succ_lt_succ hn)) x _ (ret_list (Nat.zero_le _) rfl (still_nms _) q)
end
section
variable {frz : Frz} {n m f : Nat} {as xs : List AV} {a : AV} {H H' : AH} {Q : K1} {p pd : Addr × Addr} {es : List (PyData × AV)} {Γ : Gam} {vs : Vars} {K : K2}
noncomputable abbrev srch (p : Addr × Addr) (f : Int) (kd : Nat) : AO := .inst 0 [("kinds", .fro p), ("fuel", .py (.int f)), ("known", .ref kd)]
noncomputable abbrev sid (rd : Nat) : AO := .inst 1 [("rows", .ref rd), ("many", .py (.int 0))]
theorem sm {x : PySem.Str} {i kd : Nat} {f : Int} (h : H[i]? = some (srch p f kd)) (e : (tl.txt.meths 0 x && (List.lookup x [(("kinds" : PySem.Str), AV.fro p), ("fuel", .py (.int f)), ("known", .ref kd)]).isNone) = true := by kernel_rfl) : kindM (den tl.txt frz n) (.ref i) x H = some (.user ((den tl.txt frz n).me 0 x)) := kd_ref h e
theorem dm {x : PySem.Str} {i rd : Nat} (h : H[i]? = some (sid rd)) (e : (tl.txt.meths 1 x && (List.lookup x [(("rows" : PySem.Str), AV.ref rd), ("many", .py (.int 0))]).isNone) = true := by kernel_rfl) : kindM (den tl.txt frz n) (.ref i) x H = some (.user ((den tl.txt frz n).me 1 x)) := kd_ref h e
theorem sa_kinds {i kd : Nat} {f : Int} (h : H[i]? = some (srch p f kd)) : attrA (den tl.txt frz n) (.ref i) "kinds" H = some (.fro p) := at_ref h (by kernel_rfl)
theorem sa_fuel {i kd : Nat} {f : Int} (h : H[i]? = some (srch p f kd)) : attrA (den tl.txt frz n) (.ref i) "fuel" H = some (.py (.int f)) := at_ref h (by kernel_rfl)
theorem sa_known {i kd : Nat} {f : Int} (h : H[i]? = some (srch p f kd)) : attrA (den tl.txt frz n) (.ref i) "known" H = some (.ref kd) := at_ref h (by kernel_rfl)
theorem da_rows {i rd : Nat} (h : H[i]? = some (sid rd)) : attrA (den tl.txt frz n) (.ref i) "rows" H = some (.ref rd) := at_ref h (by kernel_rfl)

noncomputable def Ways (B : Nat) (H' : AH) (w : Nat) : Option (List PyData) → Prop
  | none => H'[w]? = some (.list [])
  | some gs => ∃ u, H'[w]? = some (.list [.ref u]) ∧ H'[u]? = some (.list (gs.map .py)) ∧ B ≤ u
theorem Ways.le {B B' w : Nat} {r : Option (List PyData)} (h : Ways B H w r) (hb : B' ≤ B) : Ways B' H w r := by
  cases r with
  | none => exact h
  | some gs => exact h.imp fun u h => ⟨h.1, h.2.1, Nat.le_trans hb h.2.2⟩
theorem ways1 {X : AH} {gs : List PyData} (h : H.length ≤ X.length) : Ways H.length (X ++ [.list (gs.map .py)] ++ [.list [.ref X.length]]) (X ++ [AO.list (gs.map .py)]).length (some gs) := ⟨X.length, glast, (Pre.refl.app _ _ glast), h⟩
theorem le_app {X Y : AH} : X.length ≤ (X ++ Y).length := by rw [List.length_append]; exact Nat.le_add_right _ _
theorem c_isasked {sd : Nat} {d : PyData} {w : PySem.Str} (hs : subA frz (.py d) (.py (.int 0)) H = some (.py (.str w))) (hw : eqA (.py (.str w)) (.py (.str "var")) [] = some false) (q : Q (.py (.bool false)) H) : (den tl.txt frz (n + 1)).me 1 "is_asked" [.ref sd, .py d] H Q := by
  refine me_do D_Sides_is_asked [some (.ref sd), some (.py d)] rfl (by kernel_rfl) ?_
  refine gA hs ?_
  refine gT hw ?_
  exact q
noncomputable def nomBody : CSs := loopS (hdS D_Search_nominal.body)
theorem nom_loop {y : Nm} {s1 s2 : AV} {chk : AH → Prop} (hc : chk H) : ∀ (l : List Nm) (u : Option AV)
    (_ : l.contains y = true → ∀ u', K (.ret (.ref (H ++ [AO.list []]).length)) [some s1, some s2, some (.py (nmD y)), u'] (H ++ [.list []] ++ [.list [.ref H.length]]))
    (_ : l.contains y = false → ∀ u', K .next [some s1, some s2, some (.py (nmD y)), u'] H), forL chk (forStep (eSs (den tl.txt frz n) nomBody) (.one 3)) (nms l) [some s1, some s2, some (.py (nmD y)), u] H K
  | [], u, _, qf => ⟨hc, qf rfl u⟩
  | x :: r, u, qt, qf => by
    refine ⟨hc, ?_⟩
    by_cases e : x = y
    · subst e
      refine gT (q_nmSY x) ?_
      refine ⟨trivial, ?_⟩
      exact qt (by rw [List.contains_cons, beq_self_eq_true]; rfl) _
    · refine gT (q_nmSN e) ?_
      have z : (y == x) = false := beq_eq_false_iff_ne.mpr fun z => e z.symm
      exact nom_loop hc r _ (fun h => qt (by rw [List.contains_cons, h, Bool.or_true])) fun h => qf (by rw [List.contains_cons, h, z]; rfl)
theorem c_nominal (K : KA frz p pd es) {i kd : Nat} {f : Int} {x y : Nm} (hn : 14 < n) (h : H[i]? = some (srch p f kd)) (q : ∀ H' w, Pre H H' → Ways H.length H' w (cond (leN x y) (some []) none) → Q (.ref w) H') :
    (den tl.txt frz (n + 2)).me 0 "nominal" [.ref i, .py (nmD x), .py (nmD y)] H Q := by
  refine me_do D_Search_nominal [some (.ref i), some (.py (nmD x)), some (.py (nmD y)), none] rfl (by kernel_rfl) ?_
  refine gA (sa_kinds h) ?_
  refine oP_of (K.me (x := "supers") (by kernel_rfl)) ?_
  refine c_supers K hn ?_
  refine oP_of (show itemsA frz _ _ = _ from hlast) ?_
  refine nom_loop glast (supsL x) none (fun e u' => ?_) fun e u' => ?_
  · have z : leN x y = true := e
    exact q _ _ Pre.refl.app.app.app (z.symm ▸ ways1 (gs := []) le_app)
  · have z : leN x y = false := e
    exact q _ _ Pre.refl.app.app (z.symm ▸ glast)
end
section
variable {frz : Frz} {n m f : Nat} {as xs ys : List AV} {a : AV} {H H' : AH} {Q : K1} {p pd : Addr × Addr} {es : List (PyData × AV)} {Γ : Gam} {vs : Vars} {K : K2}
theorem add_to {i j : Nat} {zs : List AV} (h1 : hL H i = some xs) (h2 : hL H j = some ys) (hr : Nat.ble (xs.length + ys.length) room = true) (hz : xs ++ ys = zs) : binA .add (.ref i) (.ref j) H = some (.ref H.length, H ++ [.list zs]) := by
  show Option.bind (hL H i) _ = _
  rw [h1]; show Option.bind (hL H j) _ = _
  rw [h2, ← hz]; exact gB_of hr
theorem add_ref {i j : Nat} (h1 : hL H i = some xs) (h2 : hL H j = some ys) (hr : Nat.ble (xs.length + ys.length) room = true) : binA .add (.ref i) (.ref j) H = some (.ref H.length, H ++ [.list (xs ++ ys)]) := add_to h1 h2 hr rfl
theorem c_tail {k : Mem} (hk : okM k = true) (ht : isTup k = true) (hn : 12 < n) (q : Q (.py (tailD k)) H) : (den tl.txt frz n).fn 15 [.py (memD k)] H Q :=
  fn_py hn rfl ((Bool.or_eq_true_iff.mp (bd2 (bd2 (bd2 (bd2 (bd2 (bd2 (bd2 (bd2 (bd2 (bd2 (memTab_ok hk)))))))))))).elim (fun z => bf ((not_k z).symm.trans ht)) id) q
noncomputable def goalD (x y : PyData) : PyData := .tuple [.str "sub", x, y]
noncomputable def tw : Mem → Mem → Option (List PyData)
  | .t1 x, .t1 y => some [goalD (nmD x) (nmD y)]
  | .t1 x, .r y => some [goalD (nmD x) (nmD y)]
  | .t2 x y, .t2 a b => some [goalD (nmD x) (nmD a), goalD (nmD y) (nmD b)]
  | .t2 x y, .r a => some [goalD (nmD x) (nmD a), goalD (nmD y) (nmD a)]
  | .r x, .r y => some [goalD (nmD x) (nmD y)]
  | _, _ => none
theorem sub_p {F : Frz} {k : Mem} (ht : isTup k = true) : subA F (.py (memD k)) (.py (.int 1)) H = some (.py (.tuple (partsD k))) := by
  cases k with
  | n x => exact bf ht
  | _ => rfl
theorem tw_end {g : List PyData} {l : List AV} (q : ∀ H' w, Pre H H' → Ways H.length H' w (some g) → Q (.ref w) H') (hl : (l ++ [] : List AV) = g.map .py) :
    Q (.ref (H ++ [AO.list l] ++ [AO.list []] ++ [AO.list (l ++ [])]).length) (H ++ [.list l] ++ [.list []] ++ [.list (l ++ [])] ++ [.list [.ref (H ++ [AO.list l] ++ [AO.list []]).length]]) := by
  rw [hl]
  exact q _ _ Pre.refl.app.app.app.app (ways1 (H := H) (Nat.le_trans le_app le_app))
theorem c_tw {k j : Mem} (hk : okM k = true) (hj : okM j = true) (tk : isTup k = true) (tj : isTup j = true) (hn : 12 < n) (q : ∀ H' w, Pre H H' → Ways H.length H' w (tw k j) → Q (.ref w) H') :
    (den tl.txt frz (n + 1)).fn 17 [.py (memD k), .py (memD j)] H Q := by
  refine fn_do D_tuple_ways [some (.py (memD k)), some (.py (memD j)), none, none, none, none, none] rfl rfl ?_
  refine gA (sub_p tk) ?_
  refine c_tail hk tk hn ?_
  refine gA (sub_p tj) ?_
  refine c_tail hj tj hn ?_
  cases k with
  | n x => exact bf tk
  | t1 x =>
    cases j with
    | n x => exact bf tj
    | t1 y =>
      refine ⟨trivial, oP_of (app_last rfl) ⟨trivial, ?_⟩⟩
      refine gO (add_ref (xs := [.py (goalD (nmD x) (nmD y))]) (hpre hlast) hlast rfl) ?_
      exact tw_end (l := [.py (goalD (nmD x) (nmD y))]) q rfl
    | t2 y z => exact q _ _ Pre.refl.app glast
    | r y =>
      refine ⟨trivial, oP_of (app_last rfl) ⟨trivial, ?_⟩⟩
      refine gO (add_ref (xs := [.py (goalD (nmD x) (nmD y))]) (hpre hlast) hlast rfl) ?_
      exact tw_end (l := [.py (goalD (nmD x) (nmD y))]) q rfl
  | t2 x x' =>
    cases j with
    | n x => exact bf tj
    | t1 y => exact q _ _ Pre.refl.app glast
    | t2 y z =>
      refine ⟨trivial, oP_of (app_last rfl) ⟨trivial, oP_of (app_last rfl) ⟨trivial, ?_⟩⟩⟩
      refine gO (add_ref (xs := [.py (goalD (nmD x) (nmD y)), .py (goalD (nmD x') (nmD z))]) (hpre hlast) hlast rfl) ?_
      exact tw_end (l := [.py (goalD (nmD x) (nmD y)), .py (goalD (nmD x') (nmD z))]) q rfl
    | r y =>
      refine ⟨trivial, oP_of (app_last rfl) ⟨trivial, oP_of (app_last rfl) ⟨trivial, ?_⟩⟩⟩
      refine gO (add_ref (xs := [.py (goalD (nmD x) (nmD y)), .py (goalD (nmD x') (nmD y))]) (hpre hlast) hlast rfl) ?_
      exact tw_end (l := [.py (goalD (nmD x) (nmD y)), .py (goalD (nmD x') (nmD y))]) q rfl
  | r x =>
    cases j with
    | n x => exact bf tj
    | t1 y => exact q _ _ Pre.refl.app glast
    | t2 y z => exact q _ _ Pre.refl.app glast
    | r y =>
      refine ⟨trivial, ?_⟩
      refine gO (add_ref (xs := []) (ys := [.py (goalD (nmD x) (nmD y))]) (hpre hlast) hlast rfl) ?_
      exact q _ _ Pre.refl.app.app.app.app (ways1 (H := H) (gs := [goalD (nmD x) (nmD y)]) (Nat.le_trans le_app le_app))
noncomputable def waysT : Mem → Mem → Option (List PyData)
  | .n x, .n y => cond (leN x y) (some []) none
  | k, j => tw k j
noncomputable def waysM (k j : Mem) : Option (List PyData) := if k = j ∨ j = .n .An then some [] else waysT k j
theorem wM_t {k : Mem} (h : isTup k = true) : wM k = "tuple" := by
  cases k with
  | n x => exact bf h
  | _ => rfl
theorem wM_n {k : Mem} (h : isTup k = false) : wM k = "name" := by
  cases k with
  | n x => rfl
  | _ => exact bf h.symm
theorem c_plain (K : KA frz p pd es) {i kd : Nat} {f : Int} {k j : Mem} (hk : okM k = true) (hj : okM j = true) (hn : 14 < n) (h : H[i]? = some (srch p f kd)) (hne : ¬ (k = j ∨ j = .n .An)) (q : ∀ H' w, Pre H H' → Ways H.length H' w (waysM k j) → Q (.ref w) H') :
    (den tl.txt frz (n + 3)).me 0 "plain" [.ref i, .py (memD k), .py (memD j)] H Q := by
  have sw : ∀ {k : Mem} {w : PySem.Str}, wM k = w → subA frz (.py (memD k)) (.py (.int 0)) H = some (.py (.str w)) := fun e => e ▸ sub_w frz _
  have e : waysM k j = waysT k j := if_neg hne
  rw [e] at q
  refine me_do D_Search_plain [some (.ref i), some (.py (memD k)), some (.py (memD j)), none] rfl (by kernel_rfl) ?_
  cases tk : isTup k with
  | false =>
    refine gA (sw (wM_n tk)) ?_
    cases tj : isTup j with
    | false =>
      refine gA (sw (wM_n tj)) ?_
      refine oP_of (sm (x := "nominal") h) ?_
      cases k with
      | n x =>
        cases j with
        | n y => exact c_nominal K hn h q
        | _ => exact bf tj.symm
      | _ => exact bf tk.symm
    | true =>
      refine gA (sw (wM_t tj)) ?_
      refine gA (sw (wM_n tk)) ?_
      refine gA (sw (wM_n tk)) ?_
      refine q _ _ Pre.refl.app ?_
      cases k with
      | n x => cases j <;> first | exact bf tj | exact glast
      | _ => exact bf tk.symm
  | true =>
    refine gA (sw (wM_t tk)) ?_
    cases tj : isTup j with
    | false =>
      refine gA (sw (wM_n tj)) ?_
      refine gA (sw (wM_t tk)) ?_
      refine gA (sw (wM_t tk)) ?_
      refine q _ _ Pre.refl.app ?_
      cases j with
      | n x => cases k <;> first | exact bf tk | exact glast
      | _ => exact bf tj.symm
    | true =>
      refine gA (sw (wM_t tj)) ?_
      refine c_tw hk hj tk tj (Nat.lt_succ_of_lt (Nat.lt_of_le_of_lt (by decide) hn)) fun H' w h1 h2 => q H' w h1 ?_
      cases k <;> first | exact bf tk | exact h2
end
section
variable {frz : Frz} {n m f : Nat} {as xs : List AV} {a : AV} {H H' : AH} {Q : K1} {p pd : Addr × Addr} {es : List (PyData × AV)} {Γ : Gam} {vs : Vars} {K : K2}
theorem eqL_one {k j : Nat} {x y : PyData} {b : Bool} (hx : lf k x = true) (hy : lf j y = true) (hk : Nat.ble k 60 = true) (hj : Nat.ble j 60 = true) (e : PyData.eqv x y = b) : eqL [.py x] [.py y] = some b :=
  (gB_of (Bool.and_eq_true_iff.mpr ⟨lfs_shp (lfs_cons hx rfl) hk, lfs_shp (lfs_cons hy rfl) hj⟩)).trans (congrArg some (show (PyData.eqv x y && true) = b by rw [e, Bool.and_true]))
theorem eqv_refl {k : Nat} {x : PyData} (h : lf k x = true) : PyData.eqv x x = true := by classical rw [eqv_lf h h]; exact decide_eq_true rfl
theorem ne_ref {F : Frz} {i j : Nat} {b : Bool} (h : eqA (.ref i) (.ref j) H = some b) : cmpA F .ne (.ref i) (.ref j) H = some (!b) := congrArg (Option.map (!·)) h
theorem in_ta {F : Frz} (k : Mem) : cmpA F .inn (.py (.str (wM k))) (.py (.tuple [.str "tuple", .str "all"])) H = some (isTup k) := by cases k <;> rfl
theorem in_ua {F : Frz} (k : Mem) : cmpA F .inn (.py (.str (wM k))) (.py (.tuple [.str "union", .str "all"])) H = some false := by cases k <;> rfl
theorem in_n {F : Frz} (k j : Mem) : cmpA F .inn (.py (.str "n")) (.py (.tuple [.str (wM k), .str (wM j)])) H = some false := by cases k <;> cases j <;> rfl
theorem c_form (K : KA frz p pd es) {i kd sd : Nat} {f : Int} {k j : Mem} (hk : okM k = true) (hj : okM j = true) (hn : 14 < n) (h : H[i]? = some (srch p f kd)) (hne : ¬ (k = j ∨ j = .n .An)) (q : ∀ H' w, Pre H H' → Ways H.length H' w (waysM k j) → Q (.ref w) H') :
    (den tl.txt frz (n + 4)).me 0 "by_form" [.ref i, .py (memD k), .py (memD j), .ref sd] H Q := by
  refine me_do D_Search_by_form [some (.ref i), some (.py (memD k)), some (.py (memD j)), some (.ref sd), none, none, none, none, none] rfl (by kernel_rfl) ?_
  have h2 : (H ++ [AO.list [.py (memD k)]] ++ [AO.list [.py (memD k)]])[i]? = some (srch p f kd) := Pre.refl.app.app _ _ h
  have sw : ∀ (k : Mem) {H}, subA frz (.py (memD k)) (.py (.int 0)) H = some (.py (.str (wM k))) := fun k => sub_w frz k
  have nx := ne_ref (F := frz) (q_new (X := H) (eqL_one (lf_mem k) (lf_mem k) rfl rfl (eqv_refl (lf_mem k))))
  refine gA (sw k) ?_
  refine gT (w_union k) ?_
  refine gA (sw k) ?_
  cases tk : isTup k with
  | false =>
    refine gT ((in_ta k).trans (congrArg some tk)) ?_
    refine gT nx ?_
    refine gA (sw k) ?_
    refine gT (w_all k) ?_
    refine gA (sw j) ?_
    refine gT (w_union j) ?_
    refine gA (sw j) ?_
    refine gT (w_all j) ?_
    refine gA (sw k) ?_
    refine gT (w_var k) ?_
    refine gA (sw j) ?_
    refine gT (w_var j) ?_
    refine oP_of (sm (x := "plain") h2) ?_
    exact c_plain K hk hj hn h2 hne fun H' w a b => q H' w (Pre.refl.app.app.trans a) (b.le (Nat.le_trans le_app le_app))
  | true =>
    refine gT ((in_ta k).trans (congrArg some tk)) ?_
    refine gA (sw j) ?_
    refine gT (in_ua j) ?_
    refine gT nx ?_
    refine gA (sw k) ?_
    refine gT (w_all k) ?_
    refine gA (sw j) ?_
    refine gT (w_union j) ?_
    refine gA (sw j) ?_
    refine gT (w_all j) ?_
    refine gA (sw k) ?_
    refine gT (w_var k) ?_
    refine gA (sw j) ?_
    refine gT (w_var j) ?_
    refine oP_of (sm (x := "plain") h2) ?_
    exact c_plain K hk hj hn h2 hne fun H' w a b => q H' w (Pre.refl.app.app.trans a) (b.le (Nat.le_trans le_app le_app))
theorem c_empty {k : Mem} (hk : okM k = true) (hn : 12 < n) (q : Q (.b false) H) : (den tl.txt frz n).fn 14 [.py (memD k)] H Q := fn_py hn rfl (bd1 (bd2 (bd2 (bd2 (memTab_ok hk))))) q
theorem c_step (K : KA frz p pd es) {i kd sd rd : Nat} {f : Int} {k j : Mem} (hk : okM k = true) (hj : okM j = true) (hn : 14 < n) (h : H[i]? = some (srch p f kd)) (hs : H[sd]? = some (sid rd)) (q : ∀ H' w, Pre H H' → Ways H.length H' w (waysM k j) → Q (.ref w) H') :
    (den tl.txt frz (n + 5)).me 0 "step" [.ref i, .py (goalD (memD k) (memD j)), .ref sd] H Q := by
  refine me_do D_Search_step [some (.ref i), some (.py (goalD (memD k) (memD j))), some (.ref sd), none, none, none] rfl (by kernel_rfl) ?_
  have sw : ∀ (k : Mem) {H}, subA frz (.py (memD k)) (.py (.int 0)) H = some (.py (.str (wM k))) := fun k => sub_w frz k
  by_cases e : k = j
  · refine gT ((q_mem k j).trans (congrArg some (decide_eq_true e))) ?_
    exact q _ _ Pre.refl.app.app (by unfold waysM; rw [if_pos (.inl e)]; exact ways1 (gs := []) (Nat.le_refl _))
  · refine gT (q_memN e) ?_
    refine gA (sw k) ?_
    refine gA (sw j) ?_
    refine gT (in_n k j) ?_
    refine c_empty hk (Nat.lt_of_le_of_lt (by decide) (Nat.lt_of_lt_of_le hn (Nat.le_add_right n 4))) ?_
    by_cases e2 : j = .n .An
    · subst e2
      exact q _ _ Pre.refl.app.app (by unfold waysM; rw [if_pos (.inr rfl)]; exact ways1 (gs := []) (Nat.le_refl _))
    · refine gT (q_memN (b := .n .An) e2) ?_
      refine oP_of (dm (x := "is_asked") hs) ?_
      refine c_isasked (sw k) (w_var k) ?_
      refine oP_of (dm (x := "is_asked") hs) ?_
      refine c_isasked (sw j) (w_var j) ?_
      refine oP_of (sm (x := "by_form") h) ?_
      exact c_form K hk hj hn h (fun z => z.elim e e2) q
end
section
variable {frz : Frz} {n m f : Nat} {as xs : List AV} {a : AV} {H H' : AH} {Q : K1} {p pd : Addr × Addr} {es : List (PyData × AV)} {Γ : Gam} {vs : Vars} {K : K2}
noncomputable def Keep (ex : List Nat) (H H' : AH) : Prop := ∀ (j : Nat) (o : AO), j ∉ ex → H[j]? = some o → H'[j]? = some o
theorem Keep.refl {ex : List Nat} : Keep ex H H := fun _ _ _ h => h
theorem Keep.trans {ex : List Nat} {H1 H2 H3 : AH} (x : Keep ex H1 H2) (y : Keep ex H2 H3) : Keep ex H1 H3 := fun j o hj h => y j o hj (x j o hj h)
theorem Keep.app {ex : List Nat} {X : AH} (x : Keep ex H H') : Keep ex H (H' ++ X) := fun j o hj h => Pre.refl.app _ _ (x j o hj h)
theorem Keep.set {ex : List Nat} {i : Nat} {o : AO} (x : Keep ex H H') (hi : i ∈ ex) : Keep ex H (H'.set i o) := fun j o' hj h => (List.getElem?_set_ne (fun (e : i = j) => hj (e ▸ hi))).trans (x j o' hj h)
theorem Keep.le {ex ex' : List Nat} (x : Keep ex H H') (h : ∀ j ∈ ex, j ∈ ex') : Keep ex' H H' := fun j o hj e => x j o (fun z => hj (h j z)) e
theorem Pre.keep {ex : List Nat} (x : Pre H H') : Keep ex H H' := fun j o _ h => x j o h
theorem Keep.fresh {ex : List Nat} {X : AH} {l : Nat} (x : Keep (l :: ex) X H') (h : Pre H X) (hl : H.length ≤ l) : Keep ex H H' := fun j o hj e =>
  x j o (fun z => (List.mem_cons.mp z).elim (fun z => Nat.lt_irrefl _ (Nat.lt_of_lt_of_le (lt_get e) (z ▸ hl))) hj) (h j o e)
theorem set_self {i : Nat} {o o' : AO} (h : H[i]? = some o) : (H.set i o')[i]? = some o' := List.getElem?_set_self (lt_get h)
theorem set_ne {i j : Nat} {o o' : AO} (hn : i ≠ j) (h : H[j]? = some o) : (H.set i o')[j]? = some o := (List.getElem?_set_ne hn).trans h
theorem ne_get {i j : Nat} {o o' : AO} (h1 : H[i]? = some o) (h2 : H[j]? = some o') (h : o ≠ o') : i ≠ j := fun e => h (Option.some.inj (h1.symm.trans (e ▸ h2)))
noncomputable def exh (h : Bool) (i kd : Nat) : List Nat := cond h [i, kd] [i]
theorem exh_i {h : Bool} {i kd : Nat} : i ∈ exh h i kd := by cases h <;> exact List.mem_cons_self
theorem exh_no {h : Bool} {i kd j : Nat} (h1 : j ≠ i) (h2 : h = true → j ≠ kd) : j ∉ exh h i kd := fun z => by
  cases h with
  | false => exact h1 (List.mem_singleton.mp z)
  | true => exact (List.mem_cons.mp z).elim h1 fun z => h2 rfl (List.mem_singleton.mp z)
theorem exh_no2 {h : Bool} {i kd j l : Nat} (h0 : j ≠ l) (h1 : j ≠ i) (h2 : h = true → j ≠ kd) : j ∉ l :: exh h i kd := fun z => (List.mem_cons.mp z).elim h0 (exh_no h1 h2)
theorem exh_or {h h' : Bool} {l i kd : Nat} : (∀ j ∈ l :: exh h i kd, j ∈ l :: exh (h || h') i kd) ∧ ∀ j ∈ l :: exh h' i kd, j ∈ l :: exh (h || h') i kd := by
  have e : ∀ j ∈ l :: exh false i kd, j ∈ l :: exh true i kd := fun j z => (List.mem_cons.mp z).elim (fun e => e ▸ List.mem_cons_self) fun z => List.mem_cons_of_mem _ (List.mem_singleton.mp z ▸ List.mem_cons_self)
  cases h with
  | false =>
    cases h' with
    | false => exact ⟨fun _ h => h, fun _ h => h⟩
    | true => exact ⟨e, fun _ h => h⟩
  | true =>
    cases h' with
    | false => exact ⟨fun _ h => h, e⟩
    | true => exact ⟨fun _ h => h, fun _ h => h⟩
structure St (p : Addr × Addr) (i kd sd rd : Nat) (f : Int) (h : Bool) (H : AH) : Prop where
  s : H[i]? = some (srch p f kd)
  d : H[sd]? = some (sid rd)
  r : H[rd]? = some (.dict [])
  k : h = true → H[kd]? = some (.dict [])
theorem St.ne1 {i kd sd rd : Nat} {f : Int} {h : Bool} (x : St p i kd sd rd f h H) : sd ≠ i := ne_get x.d x.s (nomatch ·)
theorem St.ne2 {i kd sd rd : Nat} {f : Int} {h : Bool} (x : St p i kd sd rd f h H) : rd ≠ i := ne_get x.r x.s (nomatch ·)
theorem St.ne3 {i kd sd rd : Nat} {f : Int} (x : St p i kd sd rd f true H) : kd ≠ i := ne_get (x.k rfl) x.s (nomatch ·)
theorem St.ne4 {i kd sd rd : Nat} {f : Int} (x : St p i kd sd rd f true H) : kd ≠ sd := ne_get (x.k rfl) x.d (nomatch ·)
theorem St.pre {i kd sd rd : Nat} {f : Int} {h : Bool} (x : St p i kd sd rd f h H) (P : Pre H H') : St p i kd sd rd f h H' := ⟨P _ _ x.s, P _ _ x.d, P _ _ x.r, fun z => P _ _ (x.k z)⟩
noncomputable def setBody : CSs := loopS (hdS D_Search_settled.body)
noncomputable def st2 : CS := hdS (tlS (tlS setBody))
noncomputable def st3 : CS := hdS (tlS (tlS (tlS setBody)))
noncomputable def rest4 : CSs := tlS (tlS (tlS (tlS setBody)))
noncomputable def GI (n : Nat) (frz : Frz) (p : Addr × Addr) (h : Bool) (g : PyData) (c : Int) (r : Option (List PyData)) : Prop :=
  ∀ (H : AH) (i kd sd rd : Nat) (f : Int) (l wt : AV) (u5 u6 : Option AV) (rest : CSs) (K : K2), St p i kd sd rd f h H → (h = true → kd ≠ rd) → 0 ≤ f → c ≤ f →
    (∀ (H' : AH) (w : Nat) (f' : Int), f - c ≤ f' → Keep (exh h i kd) H H' → H'[i]? = some (srch p f' kd) → Ways H.length H' w r → eSs (den tl.txt frz n) rest [some (.ref i), some l, some (.ref sd), some wt, some (.py g), some (.ref w), u6] H' K) →
    eSs (den tl.txt frz n) (.cons st2 (.cons st3 rest)) [some (.ref i), some l, some (.ref sd), some wt, some (.py g), u5, u6] H K
noncomputable def G0 (n : Nat) (frz : Frz) (p : Addr × Addr) (g : PyData) (r : Option (List PyData)) : Prop := ∀ (H : AH) (i kd sd rd : Nat) (f : Int) (Q : K1), H[i]? = some (srch p f kd) → H[sd]? = some (sid rd) →
  (∀ H' w, Pre H H' → Ways H.length H' w r → Q (.ref w) H') → (den tl.txt frz n).me 0 "step" [.ref i, .py g, .ref sd] H Q
theorem len_of {F : Frz} {j : Nat} {ys : List AV} (h : H[j]? = some (.list ys)) (hr : Nat.ble ys.length room = true) : callBA F .len [.ref j] H = some (.i ys.length, H) := by
  show Option.bind (Option.bind (H[j]?) lenO) _ = _
  rw [h]; exact gB_of hr
theorem gi_of {g : PyData} {r : Option (List PyData)} (x : G0 n frz p g r) : GI n frz p false g 0 r := by
  intro H i kd sd rd f l wt u5 u6 rest K hS _ hf _ q
  refine gA (sa_fuel hS.s) ?_
  refine cT (decide_eq_true hf) ?_
  refine oP_of (sm (x := "step") hS.s) ?_
  refine x H i kd sd rd f _ hS.s hS.d fun H' w h1 h2 => ?_
  have hq := q H' w f (Int.le_of_eq (Int.sub_zero f)) h1.keep (h1 _ _ hS.s) h2
  cases r with
  | none => refine gO (len_of (ys := []) h2 rfl) ?_; exact hq
  | some gs => exact h2.elim fun u z => by refine gO (len_of (ys := [.ref u]) z.1 rfl) ?_; exact hq
inductive Run (n : Nat) (frz : Frz) (p : Addr × Addr) : List PyData → Int → Bool → Nat → Bool → Prop
  | done : Run n frz p [] 0 false 0 true
  | fail {pre : List PyData} {g : PyData} {c : Int} {h : Bool} : GI n frz p h g c none → 0 ≤ c → pre.length ≤ 100 → Run n frz p (pre ++ [g]) (c + 1) h 1 false
  | step {pre ws : List PyData} {g : PyData} {c c' : Int} {h h' b : Bool} {k : Nat} : GI n frz p h g c (some ws) → 0 ≤ c → pre.length ≤ 100 → ws.length ≤ 100 → Run n frz p (pre ++ ws) c' h' k b → (h && h') = false → Run n frz p (pre ++ [g]) (c + c' + 1) (h || h') (k + 1) b
theorem Run.pos {gs : List PyData} {c : Int} {h b : Bool} {k : Nat} (x : Run n frz p gs c h k b) : 0 ≤ c := by
  induction x with
  | done => exact Int.le_refl _
  | fail _ h _ => exact Int.add_nonneg h (by decide)
  | step _ h _ _ _ _ ih => exact Int.add_nonneg (Int.add_nonneg h ih) (by decide)
theorem eqL_nil (ys : List AV) : eqL ys [] = some (none0 ys) := by cases ys <;> rfl
theorem test_ne {F : Frz} {l : Nat} {ys : List AV} (h : H[l]? = some (.list ys)) : cmpA F .ne (.ref l) (.ref H.length) (H ++ [.list []]) = some (!(none0 ys)) := ne_ref (q_ref (hpre (hL_of h)) hlast (eqL_nil ys))
theorem test_eq {F : Frz} {l : Nat} {ys : List AV} (h : H[l]? = some (.list ys)) : cmpA F .eq (.ref l) (.ref H.length) (H ++ [.list []]) = some (none0 ys) := q_ref (hpre (hL_of h)) hlast (eqL_nil ys)
theorem none0_snoc {ys : List AV} {v : AV} : none0 (ys ++ [v]) = false := by cases ys <;> rfl
theorem map_snoc (l : List PyData) (g : PyData) : (l ++ [g]).map AV.py = l.map .py ++ [.py g] := List.map_append
theorem kd_list {x : PySem.Str} {j : Nat} {ys : List AV} {m : MKd} (h : H[j]? = some (.list ys)) (e : listM x = some m) : kindM Γ (.ref j) x H = some m := (congrArg (Option.bind · (kindO Γ x)) h).trans e
theorem pop_of {j : Nat} {ys : List AV} {v : AV} (h : H[j]? = some (.list (ys ++ [v]))) (hr : Nat.ble (ys ++ [v]).length room = true) : popA (.ref j) [] H = some (v, H.set j (.list ys)) := by
  show Option.bind (hL H j) _ = _
  rw [hL_of h]; refine (gB_of hr).trans ?_
  rw [List.getLast?_concat, List.dropLast_concat]; rfl
theorem ext_of {F : Frz} {j k : Nat} {xs ys : List AV} (h : H[j]? = some (.list xs)) (h2 : H[k]? = some (.list ys)) (hr : Nat.ble (xs.length + ys.length) room = true) (hn : k ≠ j) : extA F (.ref j) [.ref k] H = some (.py .none, H.set j (.list (xs ++ ys))) := by
  show Option.bind (hL H j) _ = _
  rw [hL_of h]; show Option.bind (hL H k) _ = _
  rw [hL_of h2]; exact gB_of (Bool.and_eq_true_iff.mpr ⟨hr, bne_iff_ne.mpr hn⟩)
theorem set_fuel {i kd : Nat} {f : Int} {v : AV} (h : H[i]? = some (srch p f kd)) : setAttrA (den tl.txt frz n) (.ref i) "fuel" v H = some (H.set i (.inst 0 [("kinds", .fro p), ("fuel", v), ("known", .ref kd)])) := by
  show Option.bind (H[i]?) _ = _
  rw [h]; kernel_rfl
theorem room_le {k m : Nat} (h : k ≤ m) (e : Nat.ble m room = true) : Nat.ble k room = true := Nat.ble_eq_true_of_le (Nat.le_trans h (Nat.le_of_ble_eq_true e))
theorem iter {g : PyData} {c : Int} {h : Bool} {r : Option (List PyData)} (x : GI n frz p h g c r) {pre : List PyData} {i kd sd rd : Nat} {f : Int} {l : Nat} {wt : AV} {u4 u5 u6 : Option AV} (hS : St p i kd sd rd f h H) (hr : h = true → kd ≠ rd) (hl : H[l]? = some (.list ((pre ++ [g]).map .py))) (hp : pre.length ≤ 100) (hc : 0 ≤ c) (hf : c + 1 ≤ f)
    (q : ∀ (H' : AH) (w : Nat) (f' : Int), f - 1 - c ≤ f' → Keep (l :: exh h i kd) H H' → H'[i]? = some (srch p f' kd) → H'[l]? = some (.list (pre.map .py)) → Ways H.length H' w r → eSs (den tl.txt frz n) rest4 [some (.ref i), some (.ref l), some (.ref sd), some wt, some (.py g), some (.ref w), u6] H' K) :
    eSs (den tl.txt frz n) setBody [some (.ref i), some (.ref l), some (.ref sd), some wt, u4, u5, u6] H K := by
  have li : l ≠ i := ne_get hl hS.s (nomatch ·)
  have ls : l ≠ sd := ne_get hl hS.d (nomatch ·)
  have lr : l ≠ rd := ne_get hl hS.r (nomatch ·)
  have lk : h = true → l ≠ kd := fun z => ne_get hl (hS.k z) (nomatch ·)
  rw [map_snoc] at hl
  have h1 : (H.set i (srch p (f - 1) kd))[l]? = some (.list (pre.map AV.py ++ [.py g])) := set_ne li.symm hl
  refine gA (sa_fuel hS.s) ?_
  refine oP_of (set_fuel hS.s) ?_
  refine oP_of (kd_list (x := "pop") h1 rfl) ?_
  refine gO (pop_of h1 (room_le (m := 101) (by rw [List.length_append, List.length_map]; exact Nat.succ_le_succ hp) rfl)) ?_
  have k0 : Keep (l :: exh h i kd) H ((H.set i (srch p (f - 1) kd)).set l (.list (pre.map .py))) := (Keep.refl.set (List.mem_cons_of_mem _ exh_i)).set List.mem_cons_self
  have hf1 : c ≤ f - 1 := Int.le_sub_right_of_add_le hf
  refine x _ i kd sd rd (f - 1) (.ref l) wt u5 u6 rest4 K ⟨set_ne li (set_self hS.s), set_ne ls (set_ne hS.ne1.symm hS.d), set_ne lr (set_ne hS.ne2.symm hS.r), fun z => ?_⟩ hr (Int.le_trans hc hf1) hf1 fun H' w f' a1 a2 a3 a4 => ?_
  · subst z; exact set_ne (lk rfl) (set_ne hS.ne3.symm (hS.k rfl))
  · exact q H' w f' a1 (k0.trans (a2.le fun j hj => List.mem_cons_of_mem _ hj)) a3 (a2 l _ (exh_no li lk) (set_self h1)) (a4.le (by rw [List.length_set, List.length_set]; exact Nat.le_refl _))
theorem sub_l0 {F : Frz} {w : Nat} {v : AV} {r : List AV} (h : H[w]? = some (.list (v :: r))) : subA F (.ref w) (.py (.int 0)) H = some v := (sub_ref h).trans (by
  have : seqIndex? 0 (v :: r).length = some 0 := by unfold seqIndex?; simp only [List.length_cons]; simp
  show Option.bind (seqIndex? 0 (v :: r).length) _ = _
  rw [this]; rfl)
noncomputable def outB : Bool → Out
  | true => .next
  | false => .ret (.py .none)
noncomputable def setW (n : Nat) (frz : Frz) : Nat → Vars → AH → K2 → Prop := whileL (eE (den tl.txt frz n) (condS (hdS D_Search_settled.body))) (eSs (den tl.txt frz n) setBody)
theorem wpos {N k : Nat} (h : k < N) {P : Nat → Prop} (q : ∀ M, k ≤ M → P (M + 1)) : P N := by
  cases N with
  | zero => exact absurd h (Nat.not_lt_zero _)
  | succ M => exact q M (Nat.le_of_lt_succ h)
theorem sli_one {w : Nat} {u : AV} (h : H[w]? = some (.list [u])) : sliceA (.ref w) .rtl H = some (.ref H.length, H ++ [.list []]) := by
  show Option.bind (hL H w) _ = _
  rw [hL_of h]; rfl
theorem set_loop {gs : List PyData} {c : Int} {h b : Bool} {k : Nat} (x : Run n frz p gs c h k b) : ∀ (N : Nat) (_ : k < N) (H : AH) (i kd sd rd : Nat) (f : Int) (l : Nat) (wt : AV) (u4 u5 u6 : Option AV) (K : K2), St p i kd sd rd f h H → (h = true → kd ≠ rd) → H[l]? = some (.list (gs.map .py)) → c ≤ f →
    (∀ (H' : AH) (f' : Int) (v4 v5 v6 : Option AV), f - c ≤ f' → Keep (l :: exh h i kd) H H' → H'[i]? = some (srch p f' kd) → K (outB b) [some (.ref i), some (.ref l), some (.ref sd), some wt, v4, v5, v6] H') →
    setW n frz N [some (.ref i), some (.ref l), some (.ref sd), some wt, u4, u5, u6] H K := by
  induction x with
  | done =>
    intro N hN H i kd sd rd f l wt u4 u5 u6 K hS hr hl hf q
    refine wpos hN (P := fun N => setW n frz N _ H K) fun N hN => ?_
    refine gT (test_ne hl) ?_
    exact q _ f _ _ _ (Int.le_of_eq (Int.sub_zero f)) Keep.refl.app (Pre.refl.app _ _ hS.s)
  | @fail pre g c h x hc hp =>
    intro N hN H i kd sd rd f l wt u4 u5 u6 K hS hr hl hf q
    refine wpos hN (P := fun N => setW n frz N _ H K) fun N hN => ?_
    have e1 : none0 ((pre ++ [g]).map AV.py) = false := by rw [map_snoc]; exact none0_snoc
    refine gT ((test_ne hl).trans (congrArg (some ∘ not) e1)) ?_
    have P : Pre H (H ++ [AO.list []]) := Pre.refl.app
    refine iter x (hS.pre P) hr (P _ _ hl) hp hc hf fun H' w f' a1 a2 a3 a4 a5 => ?_
    refine gT (test_eq (ys := []) a5) ?_
    exact q _ f' _ _ _ (by omega) (P.keep.trans a2).app (Pre.refl.app _ _ a3)
  | @step pre ws g c c' h h' b k x hc hp hw r hh ih =>
    intro N hN H i kd sd rd f l wt u4 u5 u6 K hS hr hl hf q
    refine wpos hN (P := fun N => setW n frz N _ H K) fun N hN => ?_
    have e1 : none0 ((pre ++ [g]).map AV.py) = false := by rw [map_snoc]; exact none0_snoc
    have li : l ≠ i := ne_get hl hS.s (nomatch ·)
    have hpos := r.pos
    refine gT ((test_ne hl).trans (congrArg (some ∘ not) e1)) ?_
    have P : Pre H (H ++ [AO.list []]) := Pre.refl.app
    have hS' : St p i kd sd rd f h H := ⟨hS.s, hS.d, hS.r, fun z => hS.k (by rw [z]; rfl)⟩
    refine iter x (hS'.pre P) (fun z => hr (by rw [z]; rfl)) (P _ _ hl) hp hc (by omega) fun H' w f' a1 a2 a3 a4 a5 => a5.elim fun u a5 => ?_
    have hu : u ≠ l := Nat.ne_of_gt (Nat.lt_of_lt_of_le (lt_get (P _ _ hl)) a5.2.2)
    have p1 : Pre H' (H' ++ [AO.list []]) := Pre.refl.app
    have p2 : Pre H' (H' ++ [AO.list []] ++ [AO.list []]) := Pre.refl.app.app
    refine gT (test_eq (ys := [.ref u]) a5.1) ?_
    refine gO (sli_one (p1 _ _ a5.1)) ?_
    refine oP_of (show itemsA frz _ _ = some [] from hlast) ?_
    refine ⟨glast, ?_⟩
    refine oP_of (kd_list (x := "extend") (p2 _ _ a4) rfl) ?_
    refine gA (sub_l0 (p2 _ _ a5.1)) ?_
    refine gO (ext_of (p2 _ _ a4) (p2 _ _ a5.2.1) (room_le (m := 200) (by rw [List.length_map, List.length_map]; exact Nat.add_le_add hp hw) rfl) hu) ?_
    have k1 : Keep (l :: exh h i kd) H ((H' ++ [AO.list []] ++ [AO.list []]).set l (.list (pre.map AV.py ++ ws.map AV.py))) := ((P.keep.trans a2).app.app).set List.mem_cons_self
    have sl : sd ≠ l := ne_get hS.d hl (nomatch ·)
    have rl : rd ≠ l := ne_get hS.r hl (nomatch ·)
    refine ih N (Nat.lt_of_lt_of_le (Nat.lt_succ_self _) hN) _ i kd sd rd f' l wt _ _ _ K ⟨set_ne li (p2 _ _ a3), k1 _ _ (exh_no2 sl hS.ne1 fun z => ?_) hS.d, k1 _ _ (exh_no2 rl hS.ne2 fun z => (hr (by rw [z]; rfl)).symm) hS.r, fun z => ?_⟩ (fun z => hr (by rw [z]; exact Bool.or_true _)) ((set_self (p2 _ _ a4)).trans (by rw [List.map_append])) (by omega) fun H2 f2' v4 v5 v6 b1 b2 b3 => q H2 f2' v4 v5 v6 (by omega) ((k1.le exh_or.1).trans (b2.le exh_or.2)) b3
    · subst z; exact hS.ne4.symm
    · subst z
      cases h with
      | true => exact bf hh.symm
      | false =>
        have hk := hS.k rfl
        exact k1 _ _ (exh_no2 (ne_get hk hl (nomatch ·)) (ne_get hk hS.s (nomatch ·)) (nomatch ·)) hk
theorem c_concrete {i sd rd : Nat} (h1 : H[sd]? = some (sid rd)) (h2 : H[rd]? = some (.dict [])) (q : Q (.py (.bool true)) (H ++ [.list []])) : (den tl.txt frz (n + 1)).me 0 "are_concrete" [.ref i, .ref sd] H Q := by
  refine me_do D_Search_are_concrete [some (.ref i), some (.ref sd), none, none] rfl (by kernel_rfl) ?_
  refine gA (da_rows h1) ?_
  refine gO (show callBA frz .sorted _ _ = some (.ref H.length, H ++ [.list []]) from congrArg (Option.bind · (sortO H)) h2) ?_
  refine oP_of (show itemsA frz _ _ = some [] from hlast) ?_
  exact ⟨glast, q⟩
noncomputable def retB (b : Bool) (sd : Nat) : AV := cond b (.ref sd) (.py .none)
theorem c_settled {gs : List PyData} {c : Int} {h b : Bool} {k : Nat} (x : Run n frz p gs c h k b) {i kd sd rd : Nat} {f : Int} {l : Nat} {wt : AV} (hk : k < 2000) (hn : 0 < n) (hS : St p i kd sd rd f h H) (hr : h = true → kd ≠ rd) (hl : H[l]? = some (.list (gs.map .py))) (hf : c ≤ f)
    (q : ∀ (H' : AH) (f' : Int), f - c ≤ f' → Keep (l :: exh h i kd) H H' → H'[i]? = some (srch p f' kd) → Q (retB b sd) H') : (den tl.txt frz (n + 1)).me 0 "settled" [.ref i, .ref l, .ref sd, wt] H Q := by
  have ls : l ≠ sd := ne_get hl hS.d (nomatch ·)
  have lr : l ≠ rd := ne_get hl hS.r (nomatch ·)
  refine wpos hn (P := fun n => Run n frz p gs c h k b → (den tl.txt frz (n + 1)).me 0 "settled" [.ref i, .ref l, .ref sd, wt] H Q) (fun n _ x => ?_) x
  refine me_do D_Search_settled [some (.ref i), some (.ref l), some (.ref sd), some wt, none, none, none] rfl (by kernel_rfl) ?_
  refine set_loop x 2000 hk H i kd sd rd f l wt none none none _ hS hr hl hf fun H' f' v4 v5 v6 a1 a2 a3 => ?_
  have d1 : H'[sd]? = some (sid rd) := a2 _ _ (exh_no2 ls.symm hS.ne1 fun z => by subst z; exact hS.ne4.symm) hS.d
  have d2 : H'[rd]? = some (.dict []) := a2 _ _ (exh_no2 lr.symm hS.ne2 fun z => (hr z).symm) hS.r
  cases b with
  | true =>
    refine oP_of (sm (x := "are_concrete") a3) ?_
    refine c_concrete d1 d2 ?_
    exact q _ f' a1 a2.app (Pre.refl.app _ _ a3)
  | false => exact q _ f' a1 a2 a3
theorem c_run {gs : List PyData} {c : Int} {h b : Bool} {k : Nat} (x : Run n frz p gs c h k b) {i kd sd rd : Nat} {f : Int} {l : Nat} (hk : k < 2000) (hn : 0 < n) (hg : gs.length ≤ 100) (hS : St p i kd sd rd f h H) (hr : h = true → kd ≠ rd) (hl : H[l]? = some (.list (gs.map .py))) (hf : c ≤ f) (h0 : 0 < f)
    (q : ∀ (H' : AH) (f' : Int), f - c ≤ f' → Keep (exh h i kd) H H' → H'[i]? = some (srch p f' kd) → Q (retB b sd) H') : (den tl.txt frz (n + 2)).me 0 "run" [.ref i, .ref l, .ref sd] H Q := by
  refine me_do D_Search_run [some (.ref i), some (.ref l), some (.ref sd), none, none, none, none] rfl (by kernel_rfl) ?_
  refine gO (show callBA frz .list _ _ = some (.ref H.length, H ++ [.list (gs.map .py)]) from (congrArg (Option.bind · _) (show itemsA frz (.ref l) H = _ from hL_of hl)).trans (gB_of (room_le (m := 100) ((List.length_map _).symm ▸ hg) rfl))) ?_
  generalize hG : (H ++ [AO.list (gs.map .py)]) = G
  have gG : G[H.length]? = some (.list (gs.map .py)) := hG ▸ glast
  have pG : Pre H G := hG ▸ Pre.refl.app
  have lG : G.length = H.length + 1 := by rw [← hG, List.length_append]; rfl
  clear hG
  refine gT (test_ne (l := G.length) (ys := [.mix [.ref H.length, .ref sd]]) glast) ?_
  have p3 : Pre G (G ++ [AO.list [AV.mix [AV.ref H.length, AV.ref sd]]] ++ [AO.list []]) := Pre.refl.app.app
  refine gA (sa_fuel (p3 _ _ (pG _ _ hS.s))) ?_
  refine cT (decide_eq_true h0) ?_
  have w2 : (G ++ [AO.list [AV.mix [AV.ref H.length, AV.ref sd]]] ++ [AO.list []])[G.length]? = some (.list ([] ++ [.mix [.ref H.length, .ref sd]])) := Pre.refl.app _ _ glast
  refine oP_of (kd_list (x := "pop") w2 rfl) ?_
  refine gO (pop_of w2 rfl) ?_
  generalize hX : (G ++ [AO.list [mkTup [AV.ref H.length, AV.ref sd]]] ++ [AO.list []]).set G.length (.list []) = X
  have gX : Pre G X := fun j o e => hX ▸ set_ne (Nat.ne_of_gt (lt_get e)) (p3 _ _ e)
  have kp : Pre H X := pG.trans gX
  have x2 : X[G.length]? = some (.list []) := hX ▸ set_self w2
  clear hX
  refine oP_of (sm (x := "settled") (kp _ _ hS.s)) ?_
  refine c_settled x hk hn (hS.pre kp) hr (gX _ _ gG) hf fun H' f' a1 a2 a3 => ?_
  have k2 : Keep (exh h i kd) H H' := a2.fresh kp (Nat.le_refl _)
  cases b with
  | true => exact q H' f' a1 k2 a3
  | false =>
    have up : ∀ {j : Nat} {o : AO}, H[j]? = some o → G.length ≠ j := fun e => Nat.ne_of_gt (Nat.lt_trans (lt_get e) (lG ▸ Nat.lt_succ_self _))
    have x3 : H'[G.length]? = some (.list []) := a2 _ _ (exh_no2 (lG ▸ Nat.succ_ne_self _) (up hS.s) fun z => up (hS.k z)) x2
    refine gT (test_ne (ys := []) x3) ?_
    exact q _ f' a1 k2.app (Pre.refl.app _ _ a3)
end
section
variable {frz : Frz} {n m f : Nat} {as xs : List AV} {a : AV} {H H' : AH} {Q : K1} {p pd : Addr × Addr} {es : List (PyData × AV)} {Γ : Gam} {vs : Vars} {K : K2}
noncomputable def leM : Mem → Mem → Bool
  | .n x, .n y => leN x y
  | _, .n .An => true
  | .t1 x, .t1 y => leN x y
  | .t1 x, .r y => leN x y
  | .t2 x y, .t2 a b => leN x a && leN y b
  | .t2 x y, .r a => leN x a && leN y a
  | .r x, .r y => leN x y
  | _, _ => false
theorem leN_An (x : Nm) : leN x .An = true := nm_all (p := fun x => leN x .An) (by decide) x
theorem leM_refl (k : Mem) : leM k k = true := by
  cases k with
  | n x => exact leN_refl x
  | t1 x => exact leN_refl x
  | t2 x y => exact Bool.and_eq_true_iff.mpr ⟨leN_refl x, leN_refl y⟩
  | r x => exact leN_refl x
theorem leM_An (k : Mem) : leM k (.n .An) = true := by
  cases k with
  | n x => exact leN_An x
  | _ => rfl
theorem leN_An_inv {y : Nm} (h : leN .An y = true) : y = .An := by
  have := nm_all (p := fun y => !(leN .An y) || decide (y = .An)) (by decide) y
  rw [h] at this
  exact of_decide_eq_true this
theorem leT_An {a : Mem} {y : Nm} (ht : isTup a = true) (h : leM a (.n y) = true) : y = .An := by
  have := nm_all (p := fun y => !(match y with | .An => true | _ => false) || decide (y = .An)) (by decide) y
  cases y with
  | An => rfl
  | _ => cases a <;> first | exact bf ht | exact bf h
theorem leM_trans {a b c : Mem} (h1 : leM a b = true) (h2 : leM b c = true) : leM a c = true := by
  cases c with
  | n z =>
    cases b with
    | n y =>
      cases a with
      | n x => exact leN_trans h1 h2
      | _ => cases leT_An rfl h1; cases leN_An_inv h2; rfl
    | _ =>
      cases leT_An rfl h2
      exact leM_An a
  | t1 z =>
    cases b with
    | t1 y => cases a <;> first | exact bf h1 | exact leN_trans h1 h2
    | _ => exact bf h2
  | t2 z z' =>
    cases b with
    | t2 y y' => cases a <;> first | exact bf h1 | exact band_k h1 fun g1 g2 => band_k h2 fun g3 g4 => Bool.and_eq_true_iff.mpr ⟨leN_trans g1 g3, leN_trans g2 g4⟩
    | _ => exact bf h2
  | r z =>
    cases b with
    | n y => exact bf h2
    | t1 y => cases a <;> first | exact bf h1 | exact leN_trans h1 h2
    | t2 y y' => cases a <;> first | exact bf h1 | exact band_k h1 fun g1 g2 => band_k h2 fun g3 g4 => Bool.and_eq_true_iff.mpr ⟨leN_trans g1 g3, leN_trans g2 g4⟩
    | r y => cases a <;> first | exact bf h1 | exact leN_trans h1 h2 | exact band_k h1 fun g1 g2 => Bool.and_eq_true_iff.mpr ⟨leN_trans g1 h2, leN_trans g2 h2⟩
theorem g0_mem (K : KA frz p pd es) {k j : Mem} (hk : okM k = true) (hj : okM j = true) (hn : 19 < n) : G0 n frz p (goalD (memD k) (memD j)) (waysM k j) := by
  obtain ⟨n, rfl⟩ : ∃ m, n = m + 5 := ⟨n - 5, by omega⟩
  intro H i kd sd rd f Q h1 h2 q
  exact c_step K hk hj (by omega) h1 h2 q
theorem ways_nm (x y : Nm) : waysM (.n x) (.n y) = cond (leN x y) (some []) none := by
  unfold waysM
  by_cases h : (Mem.n x = .n y ∨ Mem.n y = .n .An)
  · rw [if_pos h, show leN x y = true from h.elim (fun h => by cases h; exact leN_refl x) fun h => by cases h; exact leN_An x]; rfl
  · exact if_neg h
noncomputable def RunE (n : Nat) (frz : Frz) (p : Addr × Addr) (gs : List PyData) (h : Bool) (b : Bool) : Prop := ∃ c k, c ≤ 1000 ∧ k ≤ 1000 ∧ Run n frz p gs c h k b
theorem run_pre (K : KA frz p pd es) (hn : 19 < n) {x y : Nm} {pre : List PyData} {b : Bool} {c : Int} {k : Nat} (hp : pre.length ≤ 100) (ih : Run n frz p pre c false k b) : ∃ c' k', c' ≤ c + 1 ∧ k' ≤ k + 1 ∧ Run n frz p (pre ++ [goalD (nmD x) (nmD y)]) c' false k' (leN x y && b) := by
  have g := gi_of (g0_mem K (k := .n x) (j := .n y) rfl rfl hn)
  rw [ways_nm] at g
  cases e : leN x y with
  | true =>
    rw [e] at g
    refine ⟨_, _, ?_, ?_, Run.step (pre := pre) (ws := []) g (by omega) hp (by simp) (by rw [List.append_nil]; exact ih) rfl⟩
    · omega
    · omega
  | false =>
    rw [e] at g
    have := ih.pos
    refine ⟨_, _, ?_, ?_, Run.fail (pre := pre) g (by omega) hp⟩
    · omega
    · omega
theorem run_one (K : KA frz p pd es) (hn : 19 < n) (x y : Nm) : ∃ c' k', c' ≤ 1 ∧ k' ≤ 1 ∧ Run n frz p [goalD (nmD x) (nmD y)] c' false k' (leN x y) := by
  obtain ⟨c, k, h1, h2, h3⟩ := run_pre K hn (x := x) (y := y) (pre := []) (by simp) .done
  exact ⟨c, k, by omega, by omega, by simpa using h3⟩
theorem run_two (K : KA frz p pd es) (hn : 19 < n) (x y a b : Nm) : ∃ c' k', c' ≤ 2 ∧ k' ≤ 2 ∧ Run n frz p [goalD (nmD x) (nmD a), goalD (nmD y) (nmD b)] c' false k' (leN x a && leN y b) := by
  obtain ⟨c, k, h1, h2, h3⟩ := run_one K hn x a
  obtain ⟨c', k', h4, h5, h6⟩ := run_pre K hn (x := y) (y := b) (pre := [goalD (nmD x) (nmD a)]) (by simp) h3
  exact ⟨c', k', by omega, by omega, by rw [Bool.and_comm]; exact h6⟩
theorem run_mem (K : KA frz p pd es) (hn : 19 < n) {k j : Mem} (hk : okM k = true) (hj : okM j = true) : ∃ c' k', c' ≤ 10 ∧ k' ≤ 10 ∧ Run n frz p [goalD (memD k) (memD j)] c' false k' (leM k j) := by
  have g := gi_of (g0_mem K hk hj hn)
  have ok : ∀ {ws : List PyData} {c : Int} {m : Nat} {b : Bool}, waysM k j = some ws → ws.length ≤ 2 → c ≤ 2 → m ≤ 2 → Run n frz p ws c false m b → ∃ c' k', c' ≤ 10 ∧ k' ≤ 10 ∧ Run n frz p [goalD (memD k) (memD j)] c' false k' b := fun e hw hc hm r => by
    rw [e] at g
    exact ⟨_, _, by omega, by omega, Run.step (pre := []) g (by omega) (by simp) (by omega) r rfl⟩
  have no : waysM k j = none → ∃ c' k', c' ≤ 10 ∧ k' ≤ 10 ∧ Run n frz p [goalD (memD k) (memD j)] c' false k' false := fun e => by
    rw [e] at g
    exact ⟨_, _, by omega, by omega, Run.fail (pre := []) g (by omega) (by simp)⟩
  by_cases e : k = j ∨ j = .n .An
  · have : leM k j = true := by
      rcases e with e | e
      · rw [e]; exact leM_refl j
      · rw [e]; exact leM_An k
    rw [this]
    exact ok (ws := []) (by unfold waysM; rw [if_pos e]) (by simp) (by omega) (by omega) .done
  · have w : ∀ r, waysT k j = r → waysM k j = r := fun r h => by unfold waysM; rw [if_neg e]; exact h
    have hA : ∀ y, j = .n y → y ≠ .An := fun y h z => e (.inr (z ▸ h))
    cases k with
    | n x =>
      cases j with
      | n y =>
        have w1 := ways_nm x y
        show ∃ c' k', c' ≤ 10 ∧ k' ≤ 10 ∧ Run n frz p [goalD (memD (.n x)) (memD (.n y))] c' false k' (leN x y)
        cases e2 : leN x y with
        | true => rw [e2] at w1; exact ok w1 (by simp) (by omega) (by omega) .done
        | false => rw [e2] at w1; exact no w1
      | _ => exact no (w _ rfl)
    | t1 x =>
      cases j with
      | n y =>
        have : leM (.t1 x) (.n y) = false := by have := hA y rfl; cases y <;> first | rfl | exact absurd rfl this
        rw [this]; exact no (w _ rfl)
      | t1 y => obtain ⟨c, m, h1, h2, h3⟩ := run_one K hn x y; exact ok (w _ rfl) (by simp) (by omega) (by omega) h3
      | t2 _ _ => exact no (w _ rfl)
      | r y => obtain ⟨c, m, h1, h2, h3⟩ := run_one K hn x y; exact ok (w _ rfl) (by simp) (by omega) (by omega) h3
    | t2 x x' =>
      cases j with
      | n y =>
        have : leM (.t2 x x') (.n y) = false := by have := hA y rfl; cases y <;> first | rfl | exact absurd rfl this
        rw [this]; exact no (w _ rfl)
      | t1 y => exact no (w _ rfl)
      | t2 y y' => obtain ⟨c, m, h1, h2, h3⟩ := run_two K hn x x' y y'; exact ok (w _ rfl) (by simp) (by omega) (by omega) h3
      | r y => obtain ⟨c, m, h1, h2, h3⟩ := run_two K hn x x' y y; exact ok (w _ rfl) (by simp) (by omega) (by omega) h3
    | r x =>
      cases j with
      | n y =>
        have : leM (.r x) (.n y) = false := by have := hA y rfl; cases y <;> first | rfl | exact absurd rfl this
        rw [this]; exact no (w _ rfl)
      | t1 y => exact no (w _ rfl)
      | t2 _ _ => exact no (w _ rfl)
      | r y => obtain ⟨c, m, h1, h2, h3⟩ := run_one K hn x y; exact ok (w _ rfl) (by simp) (by omega) (by omega) h3
end
section
variable {frz : Frz} {n m f : Nat} {as xs : List AV} {a : AV} {H H' : AH} {Q : K1} {p pd : Addr × Addr} {es : List (PyData × AV)} {Γ : Gam} {vs : Vars} {K : K2}
noncomputable def unD (l : List Mem) : PyData := .tuple [.str "union", .tuple (l.map memD)]
noncomputable def partsM : Mem → List Nm
  | .n _ => []
  | .t1 x => [x]
  | .t2 x y => [x, y]
  | .r x => [x]
noncomputable def partTab (frz : Frz) (m : Mem) : Bool := okL (cev frz 12 4 [.py (memD m)]) (nms (partsM m))
theorem partTab_all (frz : Frz) : ((allNm.map .n).all (partTab frz) && ((nm7.map .t1).all (partTab frz) && ((nm7.map .r).all (partTab frz) && nm7.all fun x => (nm7.map (.t2 x)).all (partTab frz)))) = true := by kernel_rfl
theorem c_partsM {k : Mem} (hk : okM k = true) (hn : 12 < n) (q : Q (.ref H.length) (H ++ [.list (nms (partsM k))])) : (den tl.txt frz n).fn 4 [.py (memD k)] H Q := fn_list hn rfl (mem_all (partTab_all frz) hk) q
noncomputable def mds (l : List Mem) : List AV := l.map fun x => .py (memD x)
theorem stills_py : ∀ l : List PyData, stills (l.map .py) = true
  | [] => rfl
  | _ :: r => stills_py r
theorem mds_eq (l : List Mem) : (l.map memD).map AV.py = mds l := List.map_map
theorem mds_app (l l' : List Mem) : mds (l ++ l') = mds l ++ mds l' := List.map_append
theorem mds_len (l : List Mem) : (mds l).length = l.length := List.length_map _
theorem stills_mds (l : List Mem) : stills (mds l) = true := by rw [← mds_eq]; exact stills_py _
theorem room100 {l : List AV} (h : l.length ≤ 100) : Nat.ble l.length room = true := room_le h rfl
theorem c_partsU {l : List Mem} (hl : l.length ≤ 100) (q : Q (.ref H.length) (H ++ [.list (mds l)])) : (den tl.txt frz (n + 1)).fn 4 [.py (unD l)] H Q := by
  refine fn_in D_parts_of_kind [some (.py (unD l)), none] rfl rfl rfl ?_
  refine gO (show callBA frz .list [.py (.tuple (l.map memD))] [] = some (.ref 0, [.list (mds l)]) from mds_eq l ▸ gB_of (room100 (show ((l.map memD).map AV.py).length ≤ 100 by rw [mds_eq, mds_len]; exact hl))) ?_
  exact ret_list (Nat.zero_le _) rfl (stills_mds l) q
noncomputable def szN : Mem → Nat
  | .n _ => 1
  | .t1 _ => 2
  | .t2 _ _ => 3
  | .r _ => 2
noncomputable def wgt (l : List Mem) : Nat := (l.map szN).sum
theorem wgt_app (l l' : List Mem) : wgt (l ++ l') = wgt l + wgt l' := by unfold wgt; rw [List.map_append, List.sum_append]
theorem len_wgt : ∀ l : List Mem, l.length ≤ wgt l
  | [] => Nat.le_refl _
  | k :: r => Nat.le_trans (Nat.le_of_eq (Nat.add_comm _ _)) (Nat.add_le_add (by cases k <;> exact Nat.le_of_ble_eq_true rfl) (len_wgt r))
theorem wgt_parts (k : Mem) : wgt ((partsM k).map .n) + 1 = wgt [k] := by cases k <;> rfl
theorem ok_parts (k : Mem) : ((partsM k).map Mem.n).all okM = true := by cases k <;> rfl
theorem nms_mds (l : List Nm) : nms l = mds (l.map .n) := (List.map_map (g := fun x => AV.py (memD x)) (f := Mem.n)).symm
theorem parts_len (k : Mem) : (nms (partsM k)).length ≤ 2 := by cases k <;> exact Nat.le_of_ble_eq_true rfl
noncomputable def sizW (n : Nat) (frz : Frz) : Nat → Vars → AH → K2 → Prop := whileL (eE (den tl.txt frz n) (condS (hdS (tlS D_size_of_kind.body)))) (eSs (den tl.txt frz n) (loopS (hdS (tlS D_size_of_kind.body))))
theorem siz_loop (hn : 12 < n) : ∀ (N : Nat) (ks : List Mem) (H : AH) (many : Int) (d : AV) (b : Nat) (K : K2), wgt ks < N → N ≤ 2000 → (ks.all okM) = true → 0 ≤ many → H[b]? = some (.list (mds ks)) →
    (∀ H' many', 0 ≤ many' → many' ≤ many + wgt ks → K .next [some d, some (.py (.int many')), some (.ref b)] H') →
    sizW n frz N [some d, some (.py (.int many)), some (.ref b)] H K
  | 0, _, _, _, _, _, _, h, _, _, _, _, _ => absurd h (Nat.not_lt_zero _)
  | N + 1, ks, H, many, d, b, K, hw, hN, hok, hm, hb, q => by
    rcases List.eq_nil_or_concat ks with rfl | ⟨pre, k, rfl⟩
    · refine gT (test_ne (ys := []) hb) ?_
      exact q _ _ hm (Int.le_add_of_nonneg_right (Int.natCast_nonneg _))
    · rw [List.concat_eq_append] at *
      rw [mds_app] at hb
      have hk : okM k = true := List.all_eq_true.mp hok k (List.mem_append_right _ List.mem_cons_self)
      have hlp : pre.length + 1 ≤ 2000 := by have := len_wgt (pre ++ [k]); rw [List.length_append] at this; exact Nat.le_trans this (Nat.le_trans (Nat.le_of_lt hw) hN)
      have hb' : (H ++ [AO.list []])[b]? = some (.list (mds pre ++ [.py (memD k)])) := Pre.refl.app _ _ hb
      refine gT ((test_ne hb).trans (congrArg (some ∘ not) none0_snoc)) ?_
      refine oP_of (kd_list (x := "extend") hb' rfl) ?_
      refine oP_of (kd_list (x := "pop") hb' rfl) ?_
      refine gO (pop_of hb' (room_le (m := 2000) (by rw [List.length_append, mds_len]; exact hlp) rfl)) ?_
      refine c_partsM hk hn ?_
      have b1 : ((H ++ [AO.list []]).set b (.list (mds pre)))[b]? = some (.list (mds pre)) := set_self hb'
      refine gO (ext_of (Pre.refl.app _ _ b1) glast (room_le (m := 2002) (by rw [mds_len]; exact Nat.add_le_add (Nat.le_of_succ_le hlp) (parts_len k)) rfl) (Nat.ne_of_gt (lt_get b1))) ?_
      have hw3 : wgt (pre ++ (partsM k).map .n) + 1 = wgt (pre ++ [k]) := by rw [wgt_app, wgt_app, ← wgt_parts]; rfl
      have hwi : (wgt (pre ++ (partsM k).map .n) : Int) + 1 = wgt (pre ++ [k]) := by rw [← hw3]; rfl
      refine siz_loop hn N (pre ++ (partsM k).map .n) _ _ d b K (Nat.lt_of_succ_lt_succ (hw3 ▸ hw)) (Nat.le_of_succ_le hN) ?_ (Int.add_nonneg hm (by decide)) ((set_self (Pre.refl.app _ _ b1)).trans (by rw [mds_app, nms_mds])) fun H' m' q1 q2 => q H' m' q1 (by omega)
      rw [List.all_append, ok_parts, Bool.and_true]
      rw [List.all_append] at hok
      exact bd1 hok
end
section
variable {frz : Frz} {n m f : Nat} {as xs : List AV} {a : AV} {H H' : AH} {Q : K1} {p pd : Addr × Addr} {es : List (PyData × AV)} {Γ : Gam} {vs : Vars} {K : K2}
theorem wgt_le : ∀ l : List Mem, wgt l ≤ 3 * l.length
  | [] => Nat.le_refl _
  | k :: r => by
    have h := wgt_le r
    have hk : szN k ≤ 3 := by cases k <;> exact Nat.le_of_ble_eq_true rfl
    show szN k + wgt r ≤ 3 * (r.length + 1)
    omega
theorem c_sizeU {l : List Mem} (hl : l.all okM = true) (hl2 : l.length ≤ 100) (hn : 13 < n) (q : ∀ m : Int, 0 ≤ m → m ≤ 1000 → Q (.py (.int m)) H) : (den tl.txt frz (n + 1)).fn 11 [.py (unD l)] H Q := by
  obtain ⟨n, rfl⟩ : ∃ j, n = j + 1 := ⟨n - 1, by omega⟩
  have hw := wgt_le l
  refine fn_in D_size_of_kind [some (.py (unD l)), none, none] rfl rfl rfl ?_
  refine c_partsU hl2 ?_
  refine gO (ext_of (j := 0) (k := 2) (xs := []) (ys := mds l) rfl rfl (room_le (m := 100) (by rw [mds_len, List.length_nil, Nat.zero_add]; exact hl2) rfl) (by decide)) ?_
  refine siz_loop (n := n + 1) (Nat.le_of_succ_le hn) 1999 l _ _ _ 0 _ (by omega) (by decide) hl (by decide) rfl fun H' m hm hm2 => ?_
  exact ret_py (q m hm (by omega))
theorem forL_build {α : Type} (it out : α → AV) {chk : AH → Prop} {step : AV → Vars → AH → K2 → Prop} {X : AH} {P : Vars → Prop} (hc : ∀ ys, chk (X ++ [.list ys])) (hs : ∀ x ys vs K, P vs → Nat.ble ys.length room = true → (∀ vs', P vs' → K .next vs' (X ++ [.list (ys ++ [out x])])) → step (it x) vs (X ++ [.list ys]) K) :
    ∀ (l : List α) (ys : List AV) (vs : Vars) (K : K2), P vs → ys.length + l.length ≤ 1000 → (∀ vs', P vs' → K .next vs' (X ++ [.list (ys ++ l.map out)])) → forL chk step (l.map it) vs (X ++ [.list ys]) K
  | [], ys, vs, K, hp, _, q => ⟨hc ys, by have := q vs hp; rwa [List.map_nil, List.append_nil] at this⟩
  | x :: r, ys, vs, K, hp, hl, q => ⟨hc ys, hs x ys vs _ hp (room_le (m := 1000) (Nat.le_trans (Nat.le_add_right _ _) hl) rfl) fun vs' hp' => by
    refine forL_build it out hc hs r (ys ++ [out x]) vs' K hp' (by rw [List.length_append, Nat.add_assoc, Nat.add_comm [out x].length]; exact hl) fun vs2 h2 => ?_
    rw [List.append_assoc]; exact q vs2 h2⟩
noncomputable def dds (l : List (Mem × Int)) : List AV := l.map fun e => .py (.tuple [memD e.1, .int e.2])
noncomputable def wgd (l : List (Mem × Int)) : Nat := wgt (l.map (·.1))
theorem wgd_app (l l' : List (Mem × Int)) : wgd (l ++ l') = wgd l + wgd l' := by unfold wgd; rw [List.map_append, wgt_app]
theorem len_wgd (l : List (Mem × Int)) : l.length ≤ wgd l := by have := len_wgt (l.map (·.1)); rwa [List.length_map] at this
theorem dds_app (l l' : List (Mem × Int)) : dds (l ++ l') = dds l ++ dds l' := List.map_append
noncomputable def depW (n : Nat) (frz : Frz) : Nat → Vars → AH → K2 → Prop := whileL (eE (den tl.txt frz n) (condS (hdS (tlS D_depth_of_kind.body)))) (eSs (den tl.txt frz n) (loopS (hdS (tlS D_depth_of_kind.body))))
theorem wgd_parts (k : Mem) (d : Int) : wgd ((partsM k).map fun x => (Mem.n x, d)) + 1 = wgt [k] := by cases k <;> rfl
theorem dep_parts (k : Mem) : ∀ x ∈ partsM k, depM k = 2 := fun x hx => by
  cases k with
  | n y => exact absurd hx (List.not_mem_nil)
  | _ => rfl
theorem dep_loop (hn : 12 < n) : ∀ (N : Nat) (ks : List (Mem × Int)) (H : AH) (m : Int) (d : AV) (b : Nat) (u3 u4 : Option AV) (K : K2), wgd ks < N → N ≤ 2000 → (∀ e ∈ ks, okM e.1 = true ∧ e.2 + depM e.1 ≤ 6) → m ≤ 10 → H[b]? = some (.list (dds ks)) →
    (∀ H' m' v3 v4, m' ≤ 10 → K .next [some d, some (.py (.int m')), some (.ref b), v3, v4] H') →
    depW n frz N [some d, some (.py (.int m)), some (.ref b), u3, u4] H K
  | 0, _, _, _, _, _, _, _, _, h, _, _, _, _, _ => absurd h (Nat.not_lt_zero _)
  | N + 1, ks, H, m, d, b, u3, u4, K, hw, hN, hok, hm, hb, q => by
    rcases List.eq_nil_or_concat ks with rfl | ⟨pre, e, rfl⟩
    · refine gT (test_ne (ys := []) hb) ?_
      exact q _ _ _ _ hm
    · obtain ⟨k, kd⟩ := e
      rw [List.concat_eq_append] at *
      rw [dds_app] at hb
      have hkd := hok (k, kd) (List.mem_append_right _ List.mem_cons_self)
      have hlp : pre.length + 1 ≤ 2000 := by have := len_wgd (pre ++ [(k, kd)]); rw [List.length_append] at this; exact Nat.le_trans this (Nat.le_trans (Nat.le_of_lt hw) hN)
      have hdl : (dds pre).length = pre.length := List.length_map _
      have hb' : (H ++ [AO.list []])[b]? = some (.list (dds pre ++ [.py (.tuple [memD k, .int kd])])) := Pre.refl.app _ _ hb
      refine gT ((test_ne hb).trans (congrArg (some ∘ not) none0_snoc)) ?_
      refine oP_of (kd_list (x := "pop") hb' rfl) ?_
      refine gO (pop_of hb' (room_le (m := 2000) (by rw [List.length_append, hdl]; exact hlp) rfl)) ?_
      have b1 : ((H ++ [AO.list []]).set b (.list (dds pre)))[b]? = some (.list (dds pre)) := set_self hb'
      refine oP_of (kd_list (x := "extend") b1 rfl) ?_
      refine c_partsM hkd.1 hn ?_
      refine oP_of (show itemsA frz _ _ = some (nms (partsM k)) from hlast) ?_
      refine forL_build (α := Nm) (fun x => .py (nmD x)) (fun x => .py (.tuple [nmD x, .int (kd + 1)])) (P := fun vs => ∃ u, vs = [some (.py (.int kd)), u]) (fun ys => Pre.refl.app _ _ glast) (fun x ys vs K hv hy q => hv.elim fun u hv => ?_) (partsM k) [] _ _ ⟨none, rfl⟩ (Nat.le_trans (Nat.le_of_eq (Nat.zero_add _)) (Nat.le_trans (by have := parts_len k; unfold nms at this; rwa [List.length_map] at this) (by decide))) fun vs hv => ?_
      · subst hv
        refine oP_of (app_last hy) ?_
        exact q _ ⟨_, rfl⟩
      · have b2 : ∀ X : AO, (((H ++ [AO.list []]).set b (.list (dds pre))) ++ [AO.list (nms (partsM k))] ++ [X])[b]? = some (.list (dds pre)) := fun _ => Pre.refl.app.app _ _ b1
        have e : ((partsM k).map fun x => AV.py (.tuple [nmD x, .int (kd + 1)])) = dds ((partsM k).map fun x => (Mem.n x, kd + 1)) := (List.map_map (g := fun e : Mem × Int => AV.py (.tuple [memD e.1, .int e.2])) (f := fun x => (Mem.n x, kd + 1))).symm
        rw [List.nil_append, e]
        refine gO (ext_of (b2 _) glast (room_le (m := 2002) (by rw [hdl, ← e, List.length_map]; have := parts_len k; unfold nms at this; rw [List.length_map] at this; omega) rfl) (Nat.ne_of_gt (Nat.lt_of_lt_of_le (lt_get b1) le_app))) ?_
        rw [← dds_app]
        have hw2 : wgd (pre ++ [(k, kd)]) = wgd pre + wgt [k] := wgd_app _ _
        have hw3 := wgd_parts k (kd + 1)
        have hd : kd + depM k ≤ 6 := hkd.2
        have hm2 : (if kd > m then kd else m) ≤ 10 := by
          have : 1 ≤ depM k := by cases k <;> exact Int.le_of_sub_nonneg (Int.ofNat_nonneg _)
          split <;> omega
        refine dep_loop hn N _ _ _ d b _ _ K (by rw [wgd_app]; omega) (Nat.le_of_succ_le hN) (fun e he => (List.mem_append.mp he).elim (fun he => hok e (List.mem_append_left _ he)) fun he => ?_) hm2 (set_self (b2 _)) q
        obtain ⟨x, hx, rfl⟩ := List.mem_map.mp he
        have := dep_parts k x hx
        exact ⟨rfl, (by omega : kd + 1 + 1 ≤ 6)⟩
end
section
variable {frz : Frz} {n m f : Nat} {as xs : List AV} {a : AV} {H H' : AH} {Q : K1} {p pd : Addr × Addr} {es : List (PyData × AV)} {Γ : Gam} {vs : Vars} {K : K2}
theorem mds_map (l : List Mem) {β : Type} (g : Mem → β) (f : β → AV) (h : ∀ x, f (g x) = .py (memD x)) : (l.map g).map f = mds l := List.map_map.trans (List.map_congr_left fun x _ => h x)
theorem c_depthU {l : List Mem} (hl : l.all okM = true) (hl2 : l.length ≤ 100) (hn : 13 < n) (q : ∀ m : Int, m ≤ 10 → Q (.py (.int m)) H) : (den tl.txt frz (n + 1)).fn 10 [.py (unD l)] H Q := by
  obtain ⟨n, rfl⟩ : ∃ j, n = j + 1 := ⟨n - 1, by omega⟩
  have hw := wgt_le l
  refine fn_in D_depth_of_kind [some (.py (unD l)), none, none, none, none] rfl rfl rfl ?_
  refine c_partsU hl2 ?_
  refine forL_build (α := Mem) (fun x => .py (memD x)) (fun x => .py (.tuple [memD x, .int 2])) (P := fun vs => ∃ u, vs = [some (.py (.int 1)), u]) (fun ys => rfl) (fun x ys vs K hv hy q => hv.elim fun u hv => ?_) l [] _ _ ⟨none, rfl⟩ (Nat.le_trans (Nat.le_of_eq (Nat.zero_add _)) (Nat.le_trans hl2 (by decide))) fun vs hv => ?_
  · subst hv
    refine oP_of (app_last (X := [_, _, _]) hy) ?_
    exact q _ ⟨_, rfl⟩
  · have e : (l.map fun x => AV.py (.tuple [memD x, .int 2])) = dds (l.map fun x => (x, 2)) := (List.map_map (g := fun e : Mem × Int => AV.py (.tuple [memD e.1, .int e.2])) (f := fun x => (x, 2))).symm
    rw [List.nil_append, e]
    have e2 : wgd (l.map fun x => (x, (2 : Int))) = wgt l := by unfold wgd; rw [List.map_map]; exact congrArg wgt (List.map_id' l)
    refine gO (ext_of (j := 0) (k := 3) (xs := []) rfl rfl (room_le (m := 100) (by rw [← e, List.length_nil, Nat.zero_add, List.nil_append, List.length_map]; exact hl2) rfl) (by decide)) ?_
    refine dep_loop (n := n + 1) (Nat.le_of_succ_le hn) 1999 _ _ _ _ 0 _ _ _ (by omega) (by decide) (fun x hx => ?_) (by decide) rfl fun H' m' v3 v4 hm => ?_
    · obtain ⟨k, hk, rfl⟩ := List.mem_map.mp hx
      exact ⟨List.all_eq_true.mp hl k hk, by show 2 + depM k ≤ 6; cases k <;> exact Int.le_of_sub_nonneg (Int.ofNat_nonneg _)⟩
    · exact ret_py (q m' hm)
noncomputable def fds (l : List Mem) : List AV := l.map fun k => .py (.tuple [memD k, .tuple []])
theorem fds_app (l l' : List Mem) : fds (l ++ l') = fds l ++ fds l' := List.map_append
theorem fds_len (l : List Mem) : (fds l).length = l.length := List.length_map _
theorem sli_rev {j : Nat} {xs : List AV} (h : H[j]? = some (.list xs)) (hr : Nat.ble xs.length room = true) : sliceA (.ref j) .rev H = some (.ref H.length, H ++ [.list xs.reverse]) := by
  show Option.bind (hL H j) _ = _
  rw [hL_of h]; exact gB_of hr
noncomputable def freW (n : Nat) (frz : Frz) : Nat → Vars → AH → K2 → Prop := whileL (eE (den tl.txt frz n) (condS (hdS (tlS D_free_vars.body)))) (eSs (den tl.txt frz n) (loopS (hdS (tlS D_free_vars.body))))
theorem free_loop (hn : 12 < n) : ∀ (N : Nat) (ks : List Mem) (H : AH) (d : AV) (b c : Nat) (u3 u4 : Option AV) (K : K2), wgt ks < N → N ≤ 2000 → ks.all okM = true → c ≠ b → H[c]? = some (.list []) → H[b]? = some (.list (fds ks)) →
    (∀ H' v3 v4, H'[c]? = some (.list []) → K .next [some d, some (.ref c), some (.ref b), v3, v4] H') →
    freW n frz N [some d, some (.ref c), some (.ref b), u3, u4] H K
  | 0, _, _, _, _, _, _, _, _, h, _, _, _, _, _, _ => absurd h (Nat.not_lt_zero _)
  | N + 1, ks, H, d, b, c, u3, u4, K, hw, hN, hok, hcb, hc, hb, q => by
    rcases List.eq_nil_or_concat ks with rfl | ⟨pre, k, rfl⟩
    · refine gT (test_ne (ys := []) hb) ?_
      exact q _ _ _ (Pre.refl.app _ _ hc)
    · rw [List.concat_eq_append] at *
      rw [fds_app] at hb
      have hk : okM k = true := List.all_eq_true.mp hok k (List.mem_append_right _ List.mem_cons_self)
      have hlp : pre.length + 1 ≤ 2000 := by have := len_wgt (pre ++ [k]); rw [List.length_append] at this; exact Nat.le_trans this (Nat.le_trans (Nat.le_of_lt hw) hN)
      have hb' : (H ++ [AO.list []])[b]? = some (.list (fds pre ++ [.py (.tuple [memD k, .tuple []])])) := Pre.refl.app _ _ hb
      have pl : (partsM k).reverse.length ≤ 2 := by have := parts_len k; unfold nms at this; rw [List.length_map] at this; rwa [List.length_reverse]
      refine gT ((test_ne hb).trans (congrArg (some ∘ not) none0_snoc)) ?_
      refine oP_of (kd_list (x := "pop") hb' rfl) ?_
      refine gO (pop_of hb' (room_le (m := 2000) (by rw [List.length_append, fds_len]; exact hlp) rfl)) ?_
      have b1 : ((H ++ [AO.list []]).set b (.list (fds pre)))[b]? = some (.list (fds pre)) := set_self hb'
      have c1 : ((H ++ [AO.list []]).set b (.list (fds pre)))[c]? = some (.list []) := set_ne hcb.symm (Pre.refl.app _ _ hc)
      refine gA (sub_w frz k) ?_
      refine gT (w_var k) ?_
      refine gA (sub_w frz k) ?_
      refine gT (w_all k) ?_
      refine oP_of (kd_list (x := "extend") b1 rfl) ?_
      refine c_partsM hk hn ?_
      refine gO (sli_rev glast (room_le (parts_len k) rfl)) ?_
      refine oP_of (show itemsA frz _ _ = some (nms (partsM k).reverse) from hlast.trans (congrArg some List.map_reverse.symm)) ?_
      refine forL_build (α := Nm) (fun x => .py (nmD x)) (fun x => .py (.tuple [nmD x, .tuple []])) (P := fun vs => ∃ u, vs = [some (.py (.tuple [])), u]) (fun ys => (Pre.refl.app _ _ glast).trans (congrArg (some ∘ AO.list) List.map_reverse.symm)) (fun x ys vs K hv hy q => hv.elim fun u hv => ?_) (partsM k).reverse [] _ _ ⟨none, rfl⟩ (Nat.le_trans (Nat.le_of_eq (Nat.zero_add _)) (Nat.le_trans pl (by decide))) fun vs hv => ?_
      · subst hv
        refine oP_of (app_last hy) ?_
        exact q _ ⟨_, rfl⟩
      · have b2 : ∀ X Y : AO, (((H ++ [AO.list []]).set b (.list (fds pre))) ++ [AO.list (nms (partsM k))] ++ [X] ++ [Y])[b]? = some (.list (fds pre)) := fun _ _ => Pre.refl.app.app.app _ _ b1
        have e : ((partsM k).reverse.map fun x => AV.py (.tuple [nmD x, .tuple []])) = fds ((partsM k).reverse.map Mem.n) := (List.map_map (g := fun k => AV.py (.tuple [memD k, .tuple []])) (f := Mem.n)).symm
        rw [List.nil_append, e]
        refine gO (ext_of (b2 _ _) glast (room_le (m := 2002) (by rw [fds_len, fds_len, List.length_map]; exact Nat.add_le_add (Nat.le_of_succ_le hlp) pl) rfl) (Nat.ne_of_gt (Nat.lt_of_lt_of_le (lt_get b1) (Nat.le_trans le_app le_app)))) ?_
        rw [← fds_app]
        have hw2 : wgt (pre ++ [k]) = wgt pre + wgt [k] := wgt_app _ _
        have hw3 : wgt ((partsM k).reverse.map Mem.n) + 1 = wgt [k] := by cases k <;> rfl
        refine free_loop hn N _ _ d b c _ _ K (by rw [wgt_app]; omega) (Nat.le_of_succ_le hN) ?_ hcb (set_ne hcb.symm (Pre.refl.app.app.app _ _ c1)) (set_self (b2 _ _)) q
        rw [List.all_append] at hok ⊢
        exact Bool.and_eq_true_iff.mpr ⟨bd1 hok, by cases k <;> rfl⟩
theorem c_freeU {l : List Mem} (hl : l.all okM = true) (hl2 : l.length ≤ 100) (hn : 13 < n) (q : Q (.ref H.length) (H ++ [.list []])) : (den tl.txt frz (n + 1)).fn 6 [.py (unD l)] H Q := by
  obtain ⟨n, rfl⟩ : ∃ j, n = j + 1 := ⟨n - 1, by omega⟩
  have hw := wgt_le l.reverse
  have hl3 := List.length_reverse (as := l)
  refine fn_in D_free_vars [some (.py (unD l)), none, none, none, none] rfl rfl rfl ?_
  refine c_partsU hl2 ?_
  refine gO (sli_rev (xs := mds l) rfl (room100 ((mds_len l).symm ▸ hl2))) ?_
  rw [show (mds l).reverse = mds l.reverse from List.map_reverse.symm]
  refine forL_build (α := Mem) (fun x => .py (memD x)) (fun x => .py (.tuple [memD x, .tuple []])) (P := fun vs => ∃ u, vs = [some (.py (.tuple [])), u]) (fun ys => rfl) (fun x ys vs K hv hy q => hv.elim fun u hv => ?_) l.reverse [] _ _ ⟨none, rfl⟩ (Nat.le_trans (Nat.le_of_eq (Nat.zero_add _)) (Nat.le_trans (hl3 ▸ hl2) (by decide))) fun vs hv => ?_
  · subst hv
    refine oP_of (app_last (X := [_, _, _, _, _]) hy) ?_
    exact q _ ⟨_, rfl⟩
  · rw [List.nil_append]
    refine gO (ext_of (j := 1) (k := 5) (xs := []) (ys := fds l.reverse) rfl rfl (room_le (m := 100) (by rw [fds_len, List.length_nil, Nat.zero_add, hl3]; exact hl2) rfl) (by decide)) ?_
    refine free_loop (n := n + 1) (Nat.le_of_succ_le hn) 1999 l.reverse _ _ 1 0 _ _ _ (by omega) (by decide) (by rw [List.all_reverse]; exact hl) (by decide) rfl rfl fun H' v3 v4 hm => ?_
    exact ret_list (Nat.zero_le _) hm rfl q
end
section
variable {frz : Frz} {n m f : Nat} {as xs : List AV} {a : AV} {H H' : AH} {Q : K1} {p pd : Addr × Addr} {es : List (PyData × AV)} {Γ : Gam} {vs : Vars} {K : K2}
noncomputable def NoFree (n : Nat) (frz : Frz) (A : PyData) : Prop := ∀ (H : AH) (Q : K1), Q (.ref H.length) (H ++ [.list []]) → (den tl.txt frz n).fn 6 [.py A] H Q
theorem nf_mem {k : Mem} (hk : okM k = true) (hn : 12 < n) : NoFree n frz (memD k) := fun _ _ q => fn_list hn rfl (bd1 (bd2 (bd2 (bd2 (bd2 (memTab_ok hk)))))) q
theorem nf_un {l : List Mem} (hl : l.all okM = true) (hl2 : l.length ≤ 100) (hn : 14 < n) : NoFree n frz (unD l) := fun H Q q => wpos (k := 14) hn (P := fun n => (den tl.txt frz n).fn 6 [.py (unD l)] H Q) fun _ hn => c_freeU hl hl2 hn q
theorem it_last {F : Frz} {X : AH} {l : List AV} : itemsA F (.ref X.length) (X ++ [.list l]) = some l := hlast
theorem c_asked {A B : PyData} {sd : Nat} (ha : NoFree n frz A) (hb : NoFree n frz B) (q : ∀ H', Pre H H' → Q (.py (.bool false)) H') : (den tl.txt frz (n + 1)).me 1 "has_asked" [.ref sd, .py (.tuple [A, B])] H Q := by
  refine me_do D_Sides_has_asked [some (.ref sd), some (.py (.tuple [A, B])), none, none, none, none] rfl (by kernel_rfl) ?_
  refine ⟨trivial, ?_⟩
  refine ha _ _ ?_
  refine oP_of it_last ⟨glast, trivial, ?_⟩
  refine hb _ _ ?_
  refine oP_of it_last ⟨glast, trivial, ?_⟩
  refine gT (test_ne (l := H.length) (ys := []) ((Pre.refl.app.app.app : Pre (H ++ [AO.list []]) _) _ _ glast)) ?_
  exact q _ Pre.refl.app.app.app.app.app
theorem c_sides {j : Nat} (h : H[j]? = some (.inst 1 [])) (q : ∀ H' rd, Keep [j] H H' → H'[j]? = some (sid rd) → H'[rd]? = some (.dict []) → H.length ≤ rd → Q (.py .none) H') : (den tl.txt frz (n + 1)).me 1 "__init__" [.ref j] H Q := by
  refine me_do D_Sides_init [some (.ref j), some (.py .none), some (.py (.int 0))] rfl (by kernel_rfl) ?_
  have h1 : (H ++ [AO.dict []])[j]? = some (.inst 1 []) := Pre.refl.app _ _ h
  have h2 : ((H ++ [AO.dict []]).set j (.inst 1 [("rows", .ref H.length)]))[j]? = some (.inst 1 [("rows", .ref H.length)]) := set_self h1
  have hj : j ≠ H.length := Nat.ne_of_lt (lt_get h)
  refine oP_of (show setAttrA _ (.ref j) "rows" (.ref H.length) (H ++ [AO.dict []]) = some ((H ++ [AO.dict []]).set j (.inst 1 [("rows", .ref H.length)])) from by show Option.bind ((H ++ [AO.dict []])[j]?) _ = _; rw [h1]; kernel_rfl) ?_
  refine oP_of (show setAttrA _ (.ref j) "many" (.py (.int 0)) _ = some (((H ++ [AO.dict []]).set j (.inst 1 [("rows", .ref H.length)])).set j (sid H.length)) from by show Option.bind (List.set _ _ _)[j]? _ = _; rw [h2]; kernel_rfl) ?_
  exact q _ H.length ((Keep.refl.app.set List.mem_cons_self).set List.mem_cons_self) (set_self h2) (set_ne hj (set_ne hj glast)) (Nat.le_refl _)
noncomputable def WU (H : AH) : List Nat → List PyData → Prop
  | [], [] => True
  | u :: us, g :: gs => H[u]? = some (.list [.py g]) ∧ WU H us gs
  | _, _ => False
theorem WU.up (k : ∀ (u : Nat) (g : PyData), H[u]? = some (AO.list [.py g]) → H'[u]? = some (AO.list [.py g])) : ∀ {us : List Nat} {gs : List PyData}, WU H us gs → WU H' us gs
  | [], [], _ => trivial
  | _ :: _, _ :: _, h => ⟨k _ _ h.1, WU.up k h.2⟩
  | [], _ :: _, h => h.elim
  | _ :: _, [], h => h.elim
theorem WU.keep {i : Nat} {c : Nat} {fs : List (PySem.Str × AV)} (hi : H[i]? = some (.inst c fs)) (k : Keep [i] H H') {us : List Nat} {gs : List PyData} (h : WU H us gs) : WU H' us gs := h.up fun u g e => k _ _ (fun z => ne_get e hi (nomatch ·) (List.mem_singleton.mp z)) e
theorem WU.pre (k : Pre H H') {us : List Nat} {gs : List PyData} (h : WU H us gs) : WU H' us gs := h.up fun _ _ e => k _ _ e
noncomputable def RunB (n : Nat) (frz : Frz) (p : Addr × Addr) (g : PyData × Bool) : Prop := ∃ c k, c ≤ 10 ∧ k ≤ 10 ∧ Run n frz p [g.1] c false k g.2
noncomputable def holdBody : CSs := loopS (hdS (tlS (tlS D_Search_holds.body)))
theorem holds_loop (hn : 0 < n) {i kd w : Nat} {wl : List AV} {s1 s3 : AV} : ∀ (gb : List (PyData × Bool)) (us : List Nat) (H : AH) (f : Int) (found : Bool) (u6 : Option AV) (K : K2), (∀ g ∈ gb, RunB n frz p g) → WU H us (gb.map (·.1)) → H[i]? = some (srch p f kd) → H[kd]? = some (.dict []) → H[w]? = some (.list wl) → 10 * (gb.length : Int) < f →
    (∀ H' f' v6, f - 10 * (gb.length : Int) ≤ f' → Keep [i] H H' → H'[i]? = some (srch p f' kd) → K .next [some (.ref i), some s1, some (.ref w), some s3, some (.py (.bool true)), some (.py (.bool (found || gb.any (·.2)))), v6] H') →
    forL (chkA (.ref w) wl) (forStep (eSs (den tl.txt frz (n + 2)) holdBody) (.one 6)) (us.map .ref) [some (.ref i), some s1, some (.ref w), some s3, some (.py (.bool true)), some (.py (.bool found)), u6] H K
  | [], [], H, f, found, u6, K, _, _, hi, hk, hw, hf, q => ⟨hw, by have := q H f u6 (Int.le_of_eq (Int.sub_zero f)) Keep.refl hi; rwa [List.any_nil, Bool.or_false] at this⟩
  | (g, b) :: gb, u :: us, H, f, found, u6, K, hr, hu, hi, hk, hw, hf, q => by
    refine ⟨hw, ?_⟩
    have hl : ((((g, b) :: gb).length : Nat) : Int) = gb.length + 1 := rfl
    have hr' : ∀ g ∈ gb, RunB n frz p g := fun g hg => hr g (List.mem_cons_of_mem _ hg)
    cases found with
    | true => exact holds_loop hn gb us H f true _ K hr' hu.2 hi hk hw (by omega) fun H' f' v6 h1 h2 h3 => q H' f' v6 (by omega) h2 h3
    | false =>
      refine oP_of (sm (x := "run") hi) ?_
      refine c_sides (n := n + 1) glast fun H1 rd a1 a2 a3 a4 => ?_
      have kp : ∀ (j : Nat) (o : AO), H[j]? = some o → H1[j]? = some o := fun j o e => (Keep.fresh (ex := []) (l := H.length) a1 Pre.refl.app (Nat.le_refl _)) j o (nomatch ·) e
      obtain ⟨c, k, hc, hk2, hrun⟩ := hr (g, b) List.mem_cons_self
      refine c_run (n := n) hrun (by omega) hn (Nat.le_of_ble_eq_true rfl) ⟨kp _ _ hi, a2, a3, fun z => bf z⟩ (fun z => bf z) (kp _ _ hu.1) (by omega) (by omega) fun H2 f2 b1 b2 b3 => ?_
      have b2 : Keep [i] H H2 := fun j o hj e => b2 j o hj (kp j o e)
      have hki : kd ∉ [i] := fun z => ne_get hk hi (nomatch ·) (List.mem_singleton.mp z)
      have hwi : w ∉ [i] := fun z => ne_get hw hi (nomatch ·) (List.mem_singleton.mp z)
      have fin : ∀ v6, forL (chkA (.ref w) wl) (forStep (eSs (den tl.txt frz (n + 2)) holdBody) (.one 6)) (us.map .ref) [some (.ref i), some s1, some (.ref w), some s3, some (.py (.bool true)), some (.py (.bool b)), v6] H2 K := fun v6 =>
        holds_loop hn gb us H2 f2 b _ K hr' (hu.2.keep hi b2) b3 (b2 _ _ hki hk) (b2 _ _ hwi hw) (by omega) fun H' f' v6 h1 h2 h3 => q H' f' v6 (by omega) (b2.trans h2) h3
      cases b with
      | true => exact fin _
      | false => exact fin _
  | [], _ :: _, _, _, _, _, _, _, h, _, _, _, _, _ => h.elim
  | _ :: _, [], _, _, _, _, _, _, h, _, _, _, _, _ => h.elim
end
section
variable {frz : Frz} {n m f : Nat} {as xs : List AV} {a : AV} {H H' : AH} {Q : K1} {p pd : Addr × Addr} {es : List (PyData × AV)} {Γ : Gam} {vs : Vars} {K : K2}
theorem keep_len {i : Nat} {o : AO} (k : Keep [i] H H') (h : H'[i]? = some o) : H.length ≤ H'.length := by
  have hi := lt_get h
  rcases Nat.eq_zero_or_pos H.length with e | e
  · omega
  · by_cases z : H.length - 1 = i
    · omega
    · have := lt_get (k (H.length - 1) H[H.length - 1] (fun q => z (List.mem_singleton.mp q)) (List.getElem?_eq_getElem (by omega)))
      omega
theorem len0 {α β : Type} {l : List β} {k : Nat} (h : l.length ≤ k) : ([] : List α).length + l.length ≤ k := by rw [List.length_nil, Nat.zero_add]; exact h
theorem forL_eq {chk : AH → Prop} {step : AV → Vars → AH → K2 → Prop} {xs ys : List AV} (h : xs = ys) (q : forL chk step ys vs H K) : forL chk step xs vs H K := h ▸ q
theorem lt_app {X : AH} {o : AO} : X.length < (X ++ [o]).length := by rw [List.length_append]; exact Nat.lt_succ_self _
theorem c_holds (hn : 0 < n) {A B : PyData} {gb : List (PyData × Bool)} {us : List Nat} {i kd w : Nat} {f : Int} {sd : AV} (ha : NoFree (n + 2) frz A) (hb : NoFree (n + 2) frz B) (ht : tkey (goalD A B) = true) (hr : ∀ g ∈ gb, RunB n frz p g) (hu : WU H us (gb.map (·.1))) (hi : H[i]? = some (srch p f kd)) (hk : H[kd]? = some (.dict [])) (hw : H[w]? = some (.list (us.map .ref))) (hf : 10 * (gb.length : Int) < f)
    (q : ∀ H' f', f - 10 * (gb.length : Int) ≤ f' → Keep [i, kd] H H' → H'[i]? = some (srch p f' kd) → H.length ≤ H'.length → Q (.py (.bool (gb.any (·.2)))) H') : (den tl.txt frz (n + 3)).me 0 "holds" [.ref i, .py (goalD A B), .ref w, sd] H Q := by
  refine me_do D_Search_holds [some (.ref i), some (.py (goalD A B)), some (.ref w), some sd, none, none, none] rfl (by kernel_rfl) ?_
  have hkd : kd ≠ i := ne_get hk hi (nomatch ·)
  have ko : keyOk [] (goalD A B) = true := by unfold keyOk; rw [ht]; exact Bool.or_true _
  refine gA (sa_known hi) ?_
  refine gT (show cmpA frz .inn (.py (goalD A B)) (.ref kd) H = some false from (congrArg (Option.bind · (inO (goalD A B))) hk).trans (gB_of ko)) ?_
  refine ha _ _ ?_
  refine gT (test_eq glast) ?_
  refine hb _ _ ?_
  refine gT (test_eq glast) ?_
  have kY : Pre H (H ++ [AO.list []] ++ [AO.list []] ++ [AO.list []] ++ [AO.list []]) := Pre.refl.app.app.app.app
  refine oP_of (show itemsA frz (.ref w) (H ++ [AO.list []] ++ [AO.list []] ++ [AO.list []] ++ [AO.list []]) = _ from hL_of (kY _ _ hw)) ?_
  refine holds_loop hn gb us _ f false _ _ hr (WU.keep hi kY.keep hu) (kY _ _ hi) (kY _ _ hk) (kY _ _ hw) hf fun H' f' v6 h1 h2 h3 => ?_
  have k1 : H'[kd]? = some (.dict []) := h2 _ _ (fun z => hkd (List.mem_singleton.mp z)) (kY _ _ hk)
  refine gA (sa_known h3) ?_
  refine oP_of (show setItemA (.ref kd) (.py (goalD A B)) (.py (.bool (gb.any (·.2)))) H' = some (H'.set kd (.dict [(goalD A B, .py (.bool (gb.any (·.2))))])) from (congrArg (Option.bind · (setO H' kd (goalD A B) _)) k1).trans (gB_of (Bool.and_eq_true_iff.mpr ⟨ko, rfl⟩))) ?_
  exact q _ f' h1 (((kY.keep.trans h2).le fun j hj => List.mem_singleton.mp hj ▸ List.mem_cons_self).set (List.mem_cons_of_mem _ List.mem_cons_self)) (set_ne hkd h3) (by rw [List.length_set]; exact keep_len (kY.keep.trans h2) h3)
theorem forL_skip {α : Type} (it : α → AV) {chk : AH → Prop} {step : AV → Vars → AH → K2 → Prop} {X : AH} {P : Vars → Prop} (hc : chk X) (hs : ∀ x vs K, P vs → (∀ vs', P vs' → K .next vs' X) → step (it x) vs X K) :
    ∀ (l : List α) (vs : Vars) (K : K2), P vs → (∀ vs', P vs' → K .next vs' X) → forL chk step (l.map it) vs X K
  | [], vs, K, hp, q => ⟨hc, q vs hp⟩
  | x :: r, vs, K, hp, q => ⟨hc, hs x vs _ hp fun vs' hp' => forL_skip it hc hs r vs' K hp' q⟩
noncomputable def wayElt : CE := .lst (.cons (.tup (.cons (.const (.str "sub")) (.cons (.var 0) (.cons (.var 1) .nil)))) .nil)
theorem app_ref {j : Nat} {l : List AV} {v : AV} (h : H[j]? = some (.list l)) (hr : Nat.ble l.length room = true) : appendAt j v H = some (H.set j (.list (l ++ [v]))) := by unfold appendAt; rw [hL_of h]; exact gB_of hr
theorem ways_loop {A : PyData} {j jj : Nat} (hj : jj ≠ j) {wl : List AV} : ∀ (l : List Mem) (us : List Nat) (H : AH) (u : Option AV) (K : K2), us.length + l.length ≤ 1000 → H[jj]? = some (.list wl) → H[j]? = some (.list (us.map .ref)) →
    (∀ H' v us', Keep [j] H H' → H'[j]? = some (.list ((us ++ us').map .ref)) → WU H' us' (l.map fun m => goalD A (memD m)) → us'.length = l.length → K .next [some (.py A), v] H') →
    forL (chkA (.ref jj) wl) (forStep (compStep (eTests (den tl.txt frz n) .nil) (eE (den tl.txt frz n) wayElt) j) (.one 1)) (mds l) [some (.py A), u] H K
  | [], us, H, u, K, _, hw, hl, q => ⟨hw, q H u [] Keep.refl (by rw [List.append_nil]; exact hl) trivial rfl⟩
  | m :: l, us, H, u, K, hlen, hw, hl, q => by
    refine ⟨hw, ?_⟩
    have hlen : us.length + (l.length + 1) ≤ 1000 := hlen
    have hjj : ¬ jj ∈ [j] := fun z => hj (List.mem_singleton.mp z)
    have h1 : (H ++ [AO.list [.py (.tuple [.str "sub", A, memD m])]])[j]? = some (.list (us.map .ref)) := Pre.refl.app _ _ hl
    have hjl : j ≠ H.length := Nat.ne_of_lt (lt_get hl)
    have k1 : Keep [j] H ((H ++ [AO.list [.py (.tuple [.str "sub", A, memD m])]]).set j (.list (us.map .ref ++ [.ref H.length]))) := Keep.refl.app.set List.mem_cons_self
    have g1 : ((H ++ [AO.list [.py (.tuple [.str "sub", A, memD m])]]).set j (.list (us.map .ref ++ [.ref H.length])))[H.length]? = some (.list [.py (goalD A (memD m))]) := set_ne hjl glast
    refine oP_of (app_ref h1 (room_le (m := 1000) (by rw [List.length_map]; omega) rfl)) ?_
    refine ways_loop hj l (us ++ [H.length]) _ _ K (by rw [List.length_append]; exact (Nat.add_assoc ..).symm ▸ (Nat.add_comm l.length 1) ▸ hlen) (k1 _ _ hjj hw) ((set_self h1).trans (by rw [List.map_append]; rfl)) fun H' v us' a1 a2 a3 a4 => ?_
    exact q H' v (H.length :: us') (k1.trans a1) (by rw [List.append_assoc] at a2; exact a2) ⟨a1 _ _ (fun z => hjl.symm (List.mem_singleton.mp z)) g1, a3⟩ (congrArg (· + 1) a4)
theorem c_left {k : Mem} (hk : okM k = true) (hn : 12 < n) (q : Q (.ref H.length) (H ++ [.list [.py (memD k)]])) : (den tl.txt frz n).fn 12 [.py (memD k)] H Q := fn_list hn rfl (bd1 (bd2 (bd2 (memTab_ok hk)))) q
theorem c_formU {k0 : Mem} (hk : okM k0 = true) {l : List Mem} (hl2 : l.length ≤ 100) (hn : 14 < n) {i kd sd rd : Nat} {f : Int} (h : H[i]? = some (srch p f kd)) (hs : H[sd]? = some (sid rd)) (q : ∀ H' w us, Pre H H' → H'[w]? = some (.list (us.map .ref)) → WU H' us (l.map fun m => goalD (memD k0) (memD m)) → us.length = l.length → Q (.ref w) H') :
    (den tl.txt frz (n + 4)).me 0 "by_form" [.ref i, .py (memD k0), .py (unD l), .ref sd] H Q := by
  refine me_do D_Search_by_form [some (.ref i), some (.py (memD k0)), some (.py (unD l)), some (.ref sd), none, none, none, none, none] rfl (by kernel_rfl) ?_
  have sw : ∀ (k : Mem) {H}, subA frz (.py (memD k)) (.py (.int 0)) H = some (.py (.str (wM k))) := fun k => sub_w frz k
  have nx := ne_ref (F := frz) (q_new (X := H) (eqL_one (lf_mem k0) (lf_mem k0) rfl rfl (eqv_refl (lf_mem k0))))
  have hl3 : l.length ≤ 1000 := Nat.le_trans hl2 (by decide)
  have key : ∀ X, Pre H X → eSs (den tl.txt frz (n + 3)) (tlS (tlS (tlS (tlS D_Search_by_form.body)))) [some (.ref i), some (.py (memD k0)), some (.py (unD l)), some (.ref sd), some (.ref H.length), none, none, none, none] X (outK Q) := fun X kX => by
    have hsX := kX _ _ hs
    refine forL_eq (mds_eq l) ?_
    refine forL_build (α := Mem) (fun x => .py (memD x)) (fun x => .py (memD x)) (P := fun vs => ∃ u, vs = [some (.ref sd), u]) (fun ys => trivial) (fun x ys vs K hv hy q => hv.elim fun u hv => ?_) l [] _ _ ⟨none, rfl⟩ (len0 hl3) fun vs hv => ?_
    · subst hv
      refine oP_of (dm (x := "is_asked") (Pre.refl.app _ _ hsX)) ?_
      refine c_isasked (sw x) (w_var x) ?_
      refine oP_of (app_last hy) ?_
      exact q _ ⟨_, rfl⟩
    · refine forL_eq (mds_eq l) ?_
      refine forL_skip (α := Mem) (fun x => .py (memD x)) (P := fun vs => ∃ u, vs = [some (.ref sd), u]) trivial (fun x vs K hv q => hv.elim fun u hv => ?_) l _ _ ⟨none, rfl⟩ fun vs hv => ?_
      · subst hv
        refine oP_of (dm (x := "is_asked") (Pre.refl.app.app _ _ hsX)) ?_
        refine c_isasked (sw x) (w_var x) ?_
        exact q _ ⟨_, rfl⟩
      · refine gO (add_to (xs := mds l) (hpre hlast) hlast (room_le (m := 100) (by rw [mds_len]; exact hl2) rfl) (List.append_nil _)) ?_
        refine oP_of it_last ?_
        refine ways_loop (A := memD k0) (Nat.ne_of_lt lt_app) l [] _ none _ (len0 hl3) (Pre.refl.app _ _ glast) glast fun H' v us' a1 a2 a3 a4 => ?_
        refine gA (sw k0) ?_
        refine gT (w_var k0) ?_
        refine gO (add_to (hpre (hL_of a2)) hlast (room_le (m := 100) (by rw [List.length_map]; exact a4.symm ▸ hl2) rfl) (List.append_nil _)) ?_
        have kk : Keep [] X H' := Keep.fresh (ex := []) a1 Pre.refl.app.app.app.app (Nat.le_trans le_app (Nat.le_trans le_app le_app))
        have kk : Pre H (H' ++ [AO.list []]) := fun j o e => (Pre.refl.app : Pre H' (H' ++ [AO.list []])) _ _ (kk j o (nomatch ·) (kX _ _ e))
        exact q _ _ us' kk.app glast (a3.pre Pre.refl.app.app) a4
  refine gA (sw k0) ?_
  refine gT (w_union k0) ?_
  refine gA (sw k0) ?_
  cases tk : isTup k0 with
  | false =>
    refine gT ((in_ta k0).trans (congrArg some tk)) ?_
    refine gT nx ?_
    refine gA (sw k0) ?_
    refine gT (w_all k0) ?_
    exact key _ Pre.refl.app.app
  | true =>
    refine gT ((in_ta k0).trans (congrArg some tk)) ?_
    refine c_left hk (Nat.lt_of_le_of_lt (by decide) (Nat.lt_of_lt_of_le hn (Nat.le_add_right n 3))) ?_
    refine gT nx ?_
    refine gA (sw k0) ?_
    refine gT (w_all k0) ?_
    exact key _ Pre.refl.app.app
theorem lf_un (l : List Mem) : lf 6 (unD l) = true := lf_tup (lfs_cons (show lf 5 (.str "union") = true by decide) (lfs_cons (lf_tup (lfs_of fun d hd => (List.mem_map.mp hd).elim fun m hm => hm.2 ▸ lf_mem m)) rfl))
theorem mem_ne_un {k : Mem} {l : List Mem} : memD k ≠ unD l := fun h => by
  cases k <;> exact nomatch (List.cons.inj (List.cons.inj (PyData.tuple.inj h)).2).2
theorem q_mem_un (k : Mem) (l : List Mem) : eqA (.py (memD k)) (.py (unD l)) [] = some false := eqA_no (lf_mem k) (lf_un l) rfl rfl mem_ne_un
theorem q_un_mem (k : Mem) (l : List Mem) : eqA (.py (unD l)) (.py (memD k)) [] = some false := eqA_no (lf_un l) (lf_mem k) rfl rfl mem_ne_un.symm
theorem in_nu {F : Frz} (k : Mem) : cmpA F .inn (.py (.str "n")) (.py (.tuple [.str (wM k), .str "union"])) H = some false := by cases k <;> rfl
theorem c_stepU {k : Mem} (hk : okM k = true) {l : List Mem} (hl2 : l.length ≤ 100) (hn : 14 < n) {i kd sd rd : Nat} {f : Int} (h : H[i]? = some (srch p f kd)) (hs : H[sd]? = some (sid rd)) (q : ∀ H' w us, Pre H H' → H'[w]? = some (.list (us.map .ref)) → WU H' us (l.map fun m => goalD (memD k) (memD m)) → us.length = l.length → Q (.ref w) H') :
    (den tl.txt frz (n + 5)).me 0 "step" [.ref i, .py (goalD (memD k) (unD l)), .ref sd] H Q := by
  refine me_do D_Search_step [some (.ref i), some (.py (goalD (memD k) (unD l))), some (.ref sd), none, none, none] rfl (by kernel_rfl) ?_
  refine gT (q_mem_un k l) ?_
  refine gA (sub_w frz k) ?_
  refine gT (in_nu k) ?_
  refine c_empty hk (Nat.lt_of_le_of_lt (by decide) (Nat.lt_of_lt_of_le hn (Nat.le_add_right n 4))) ?_
  refine gT (q_un_mem (.n .An) l) ?_
  refine oP_of (dm (x := "is_asked") hs) ?_
  refine c_isasked (sub_w frz k) (w_var k) ?_
  refine oP_of (dm (x := "is_asked") hs) ?_
  refine c_isasked (w := "union") rfl rfl ?_
  refine oP_of (sm (x := "by_form") h) ?_
  exact c_formU hk hl2 hn h hs q
theorem gi_un {k : Mem} (hk : okM k = true) {l : List Mem} {bs : List Bool} (hb : bs.length = l.length) (hl : l.all okM = true) (h2 : 2 ≤ l.length) (hl2 : l.length ≤ 100) (hn : 19 < n) (hr : ∀ g ∈ (l.map fun m => goalD (memD k) (memD m)).zip bs, RunB n frz p g) :
    GI (n + 3) frz p true (goalD (memD k) (unD l)) (10 * (l.length : Int) + 1) (cond (bs.any id) (some []) none) := by
  intro H i kd sd rd f lw wt u5 u6 rest K hS hkr hf hc q
  obtain ⟨m, rfl⟩ : ∃ m, n = m + 5 := ⟨n - 5, by omega⟩
  refine gA (sa_fuel hS.s) ?_
  refine cT (decide_eq_true hf) ?_
  refine oP_of (sm (x := "step") hS.s) ?_
  refine c_stepU (n := m + 3) hk hl2 (by omega) hS.s hS.d fun H1 w us a1 a2 a3 a4 => ?_
  refine gO (len_of a2 (room100 (by rw [List.length_map]; omega))) ?_
  refine cT (decide_eq_true (show (1 : Int) < ((us.map AV.ref).length : Nat) by rw [List.length_map]; omega)) ?_
  refine oP_of (dm (x := "has_asked") (a1 _ _ hS.d)) ?_
  have hun : NoFree (m + 5 + 2) frz (unD l) := nf_un hl hl2 (by omega)
  refine c_asked (n := m + 5 + 2) (nf_mem hk (by omega)) hun fun H2 b1 => ?_
  have k2 := a1.trans b1
  refine oP_of (sm (x := "holds") (k2 _ _ hS.s)) ?_
  have hz : ((l.map fun m => goalD (memD k) (memD m)).zip bs).map (·.1) = l.map fun m => goalD (memD k) (memD m) := List.map_fst_zip (by rw [List.length_map]; omega)
  have hz2 : ((l.map fun m => goalD (memD k) (memD m)).zip bs).map (·.2) = bs := List.map_snd_zip (by rw [List.length_map]; omega)
  have hzl : ((l.map fun m => goalD (memD k) (memD m)).zip bs).length = l.length := by rw [List.length_zip, List.length_map]; omega
  have hany : (((l.map fun m => goalD (memD k) (memD m)).zip bs).any (·.2)) = bs.any id := by
    conv => rhs; rw [← hz2]
    rw [List.any_map]; rfl
  refine c_holds (n := m + 5) (Nat.succ_pos _) (gb := (l.map fun m => goalD (memD k) (memD m)).zip bs) (us := us) (nf_mem hk (by omega)) hun ?_ hr (by rw [hz]; exact a3.pre b1) (k2 _ _ hS.s) (k2 _ _ (hS.k rfl)) (b1 _ _ a2) (by rw [hzl]; omega) fun H3 f3 c1 c2 c3 c4 => ?_
  · exact lf_tkey (k := 7) (lf_tup (lfs_cons (show lf 6 (.str "sub") = true by decide) (lfs_cons (lf_up (lf_mem k) rfl) (lfs_cons (lf_un l) rfl)))) rfl
  · rw [hzl] at c1
    rw [hany]
    have k3 : Keep (exh true i kd) H H3 := k2.keep.trans c2
    cases e : bs.any id with
    | true =>
      rw [e] at q
      exact q _ _ f3 (by omega) k3.app.app (Pre.refl.app.app _ _ c3) (ways1 (gs := []) (Nat.le_trans (keep_len (i := i) k2.keep (k2 _ _ hS.s)) c4))
    | false =>
      rw [e] at q
      exact q _ _ f3 (by omega) k3.app (Pre.refl.app _ _ c3) glast
end
section
variable {frz : Frz} {n m f : Nat} {as xs : List AV} {a : AV} {H H' : AH} {Q : K1} {p pd : Addr × Addr} {es : List (PyData × AV)} {Γ : Gam} {vs : Vars} {K : K2}
noncomputable def Shal (n : Nat) (frz : Frz) (A : PyData) : Prop := ∀ (H : AH) (Q : K1), (∀ m : Int, m ≤ 10 → Q (.py (.int m)) H) → (den tl.txt frz n).fn 10 [.py A] H Q
noncomputable def Sized (n : Nat) (frz : Frz) (A : PyData) : Prop := ∀ (H : AH) (Q : K1), (∀ m : Int, 0 ≤ m → m ≤ 1000 → Q (.py (.int m)) H) → (den tl.txt frz n).fn 11 [.py A] H Q
noncomputable def Cases (n : Nat) (frz : Frz) (A : PyData) (l : List Mem) : Prop := ∀ (H : AH) (Q : K1), Q (.ref H.length) (H ++ [.list (mds l)]) → (den tl.txt frz n).fn 12 [.py A] H Q
theorem depM_le (k : Mem) : 1 ≤ depM k ∧ depM k ≤ 2 := by cases k <;> exact ⟨Int.le_of_sub_nonneg (Int.ofNat_nonneg _), Int.le_of_sub_nonneg (Int.ofNat_nonneg _)⟩
theorem sizM_le (k : Mem) : 0 ≤ sizM k ∧ sizM k ≤ 3 := by cases k <;> exact ⟨Int.le_of_sub_nonneg (Int.ofNat_nonneg _), Int.le_of_sub_nonneg (Int.ofNat_nonneg _)⟩
theorem c_depth {k : Mem} (hk : okM k = true) (hn : 12 < n) (q : Q (.i (depM k)) H) : (den tl.txt frz n).fn 10 [.py (memD k)] H Q := fn_py hn rfl (bd1 (memTab_ok hk)) q
theorem c_size {k : Mem} (hk : okM k = true) (hn : 12 < n) (q : Q (.i (sizM k)) H) : (den tl.txt frz n).fn 11 [.py (memD k)] H Q := fn_py hn rfl (bd1 (bd2 (memTab_ok hk))) q
theorem shal_mem {k : Mem} (hk : okM k = true) (hn : 12 < n) : Shal n frz (memD k) := fun _ _ q => c_depth hk hn (q _ (Int.le_trans (depM_le k).2 (by decide)))
theorem shal_un {l : List Mem} (hl : l.all okM = true) (hl2 : l.length ≤ 100) (hn : 14 < n) : Shal n frz (unD l) := fun H Q q => wpos (k := 14) hn (P := fun n => (den tl.txt frz n).fn 10 [.py (unD l)] H Q) fun _ hn => c_depthU hl hl2 hn q
theorem sized_mem {k : Mem} (hk : okM k = true) (hn : 12 < n) : Sized n frz (memD k) := fun _ _ q => c_size hk hn (q _ (sizM_le k).1 (Int.le_trans (sizM_le k).2 (by decide)))
theorem sized_un {l : List Mem} (hl : l.all okM = true) (hl2 : l.length ≤ 100) (hn : 14 < n) : Sized n frz (unD l) := fun H Q q => wpos (k := 14) hn (P := fun n => (den tl.txt frz n).fn 11 [.py (unD l)] H Q) fun _ hn => c_sizeU hl hl2 hn q
theorem cases_mem {k : Mem} (hk : okM k = true) (hn : 12 < n) : Cases n frz (memD k) [k] := fun _ _ q => c_left hk hn q
theorem left_loop (hn : 12 < n) {j : Nat} : ∀ (l acc : List Mem) (H : AH) (u v : Option AV) (K : K2), (l.all okM) = true → acc.length + l.length ≤ 1000 → H[j]? = some (.list (mds acc)) →
    (∀ H' u v, H'[j]? = some (.list (mds (acc ++ l))) → K .next [u, v] H') →
    forL (fun _ => True) (forStep (comp2Step (eIT (den tl.txt frz n) (.over (.callF 12 (.cons (.var 0) .nil)))) (eE (den tl.txt frz n) (.var 1)) (.one 1) j) (.one 0)) (mds l) [u, v] H K
  | [], acc, H, u, v, K, _, _, hj, q => ⟨trivial, q H u v (by rw [List.append_nil]; exact hj)⟩
  | k :: l, acc, H, u, v, K, hok, hlen, hj, q => by
    refine ⟨trivial, ?_⟩
    have hlen : acc.length + (l.length + 1) ≤ 1000 := hlen
    have h1 : (H ++ [AO.list [.py (memD k)]])[j]? = some (.list (mds acc)) := Pre.refl.app _ _ hj
    refine c_left (bd1 hok) hn ?_
    refine oP_of it_last ⟨glast, ?_⟩
    refine oP_of (app_ref h1 (room_le (m := 1000) (by rw [mds_len]; omega) rfl)) ?_
    refine ⟨set_ne (Nat.ne_of_lt (lt_get hj)) glast, ?_⟩
    exact left_loop hn l (acc ++ [k]) _ _ _ K (bd2 hok) (by rw [List.length_append]; exact (Nat.add_assoc ..).symm ▸ (Nat.add_comm l.length 1) ▸ hlen) ((set_self h1).trans (by rw [mds_app]; rfl)) fun H' u v h => q H' u v (by rw [List.append_assoc] at h; exact h)
theorem cases_un {l : List Mem} (hl : l.all okM = true) (hl2 : l.length ≤ 64) (hn : 13 < n) : Cases n frz (unD l) l := fun H Q q => by
  refine wpos hn (P := fun n => (den tl.txt frz n).fn 12 [.py (unD l)] H Q) fun n hn => ?_
  refine fn_in D_left_cases [some (.py (unD l)), none, none] rfl rfl rfl ?_
  refine forL_eq (mds_eq l) ?_
  refine left_loop hn l [] _ none none _ hl (len0 (Nat.le_trans hl2 (by decide))) rfl fun H' u v h => ?_
  rw [List.nil_append] at h
  refine gO (len_of h (room_le (m := 64) (by rw [mds_len]; exact hl2) rfl)) ?_
  refine cT (decide_eq_true (show ((mds l).length : Int) ≤ 64 by rw [mds_len]; omega)) ?_
  exact ret_list (Nat.zero_le _) h (stills_mds l) q
theorem c_deep {A B : PyData} (ha : Shal n frz A) (hb : Shal n frz B) (q : Q (.py (.bool false)) H) : (den tl.txt frz (n + 1)).fn 16 [.py A, .py B] H Q := by
  refine fn_in D_is_too_deep [some (.py A), some (.py B)] rfl rfl rfl ?_
  refine ha _ _ fun m hm => ?_
  refine cT (show (!(decide (m > 60))) = true by rw [decide_eq_false (by omega)]; rfl) ?_
  refine hb _ _ fun m hm => ?_
  refine ret_py (m := 0) (d := .bool (decide (m > 60))) ?_
  rw [decide_eq_false (by omega)]
  exact q
theorem sat_ref {j c : Nat} {x : PySem.Str} {v : AV} {fs : List (PySem.Str × AV)} (fs' : List (PySem.Str × AV)) (h : H[j]? = some (.inst c fs)) (e : gB (tl.txt.attrs c x && Nat.ble fs.length 100) (some (fput fs x v)) = some fs') : setAttrA (den tl.txt frz n) (.ref j) x v H = some (H.set j (.inst c fs')) := by
  show Option.bind (H[j]?) _ = _
  rw [h]; exact gB_k e fun e1 e2 => (gB_of e1).trans (congrArg (fun fs => some (H.set j (.inst c fs))) (Option.some.inj e2))
theorem c_sinit {j : Nat} {fl : Int} (h : H[j]? = some (.inst 0 [])) (q : ∀ H' kd, Keep [j] H H' → H'[j]? = some (srch p fl kd) → H'[kd]? = some (.dict []) → H.length ≤ kd → Q (.py .none) H') : (den tl.txt frz (n + 1)).me 0 "__init__" [.ref j, .fro p, .py (.int fl)] H Q := by
  refine me_do D_Search_init [some (.ref j), some (.fro p), some (.py (.int fl))] rfl (by kernel_rfl) ?_
  have h2 := set_self (o' := .inst 0 [("kinds", .fro p)]) h
  have h3 := set_self (o' := .inst 0 [("kinds", .fro p), ("fuel", .py (.int fl))]) h2
  refine oP_of (sat_ref [("kinds", .fro p)] h (by kernel_rfl)) ?_
  refine oP_of (sat_ref [("kinds", .fro p), ("fuel", .py (.int fl))] h2 (by kernel_rfl)) ?_
  generalize hX : (H.set j (AO.inst 0 [("kinds", .fro p)])).set j (.inst 0 [("kinds", .fro p), ("fuel", .py (.int fl))]) = X at h3 ⊢
  have hl : H.length = X.length := by rw [← hX, List.length_set, List.length_set]
  have kX : Keep [j] H X := hX ▸ (Keep.refl.set List.mem_cons_self).set List.mem_cons_self
  have h4 : (X ++ [AO.dict []])[j]? = some (.inst 0 [("kinds", .fro p), ("fuel", .py (.int fl))]) := Pre.refl.app _ _ h3
  refine oP_of (sat_ref [("kinds", .fro p), ("fuel", .py (.int fl)), ("known", .ref X.length)] h4 (by kernel_rfl)) ?_
  exact q _ X.length (kX.app.set List.mem_cons_self) (set_self h4) (set_ne (Nat.ne_of_lt (lt_get h3)) glast) (Nat.le_of_eq hl)
noncomputable def RunF (n : Nat) (frz : Frz) (p : Addr × Addr) (g : PyData) (b : Bool) : Prop := ∃ c k h, c ≤ 1000 ∧ k ≤ 1000 ∧ Run n frz p [g] c h k b
noncomputable def subBody : CSs := loopS (hdS (tlS (tlS D_is_subtype.body)))
theorem small_of {i : Int} (h0 : 0 ≤ i) (h : i ≤ 1000000) : smallI i = true := by
  unfold smallI; exact Nat.ble_eq_true_of_le (by omega)
theorem sub_loop (hn : 0 < n) {B : PyData} {wl : List AV} {j : Nat} {s1 : AV} (hB : Sized (n + 2) frz B) (cb : List (Mem × Bool)) : ∀ (H : AH) (u4 u5 : Option AV) (K : K2), (∀ c ∈ cb, okM c.1 = true ∧ RunF n frz p (goalD (memD c.1) B) c.2) → 12 < n → H[j]? = some (.list wl) →
    (∀ H' v4 v5, K (cond (cb.all (·.2)) .next (.ret (.py (.bool false)))) [some (.fro p), some s1, some (.py B), some (.py (.int 4000)), v4, v5] H') →
    forL (chkA (.ref j) wl) (forStep (eSs (den tl.txt frz (n + 2)) subBody) (.one 4)) (mds (cb.map (·.1))) [some (.fro p), some s1, some (.py B), some (.py (.int 4000)), u4, u5] H K := by
  induction cb with
  | nil => exact fun H u4 u5 K _ _ hj q => ⟨hj, q H u4 u5⟩
  | cons c cb ih =>
    obtain ⟨c, b⟩ := c
    intro H u4 u5 K hr hn2 hj q
    refine ⟨hj, ?_⟩
    obtain ⟨hok, cc, k, h, hcc, hk, hrun⟩ := hr (c, b) List.mem_cons_self
    refine c_size hok (Nat.lt_of_lt_of_le hn2 (Nat.le_add_right n 2)) ?_
    refine hB _ _ fun m hm hm2 => ?_
    have hs0 := sizM_le c
    conv => whnf
    refine gO (show binA .mul (.py (.int 4)) (.py (.int (sizM c + m))) _ = some (.py (.int (4 * (sizM c + m))), _) from gB_of (Bool.and_eq_true_iff.mpr ⟨rfl, small_of (by omega) (by omega)⟩)) ?_
    refine c_sinit (n := n + 1) glast fun H1 kd a1 a2 a3 a4 => ?_
    have k1 : Keep [] H H1 := Keep.fresh (ex := []) a1 Pre.refl.app (Nat.le_refl _)
    refine oP_of (sm (x := "run") a2) ?_
    refine c_sides (n := n + 1) glast fun H2 rd b1 b2 b3 b4 => ?_
    have k2 : Keep [] H1 H2 := Keep.fresh (ex := []) b1 Pre.refl.app.app le_app
    have k2' : ∀ (j : Nat) (o : AO), (H1 ++ [AO.list [.py (.tuple [.str "sub", memD c, B])]])[j]? = some o → H2[j]? = some o := fun j o e => (Keep.fresh (ex := []) b1 Pre.refl.app (Nat.le_refl _)) j o (nomatch ·) e
    have hkr : kd ≠ rd := Nat.ne_of_lt (Nat.lt_of_lt_of_le (lt_get a3) (Nat.le_trans le_app (Nat.le_trans le_app b4)))
    refine c_run (n := n) hrun (Nat.lt_of_le_of_lt hk (by decide)) hn (Nat.le_of_ble_eq_true rfl) ⟨k2 _ _ (nomatch ·) a2, b2, b3, fun _ => k2 _ _ (nomatch ·) a3⟩ (fun _ => hkr) (k2' _ _ glast) (by omega) (by omega) fun H3 f3 c1 c2 c3 => ?_
    have k3 : Keep [] H H3 := fun i o _ e => c2 i o (exh_no (Nat.ne_of_lt (lt_get e)) fun _ => Nat.ne_of_lt (Nat.lt_of_lt_of_le (lt_get e) (Nat.le_trans le_app a4))) (k2 _ _ (nomatch ·) (k1 _ _ (nomatch ·) e))
    cases b with
    | true => exact ih H3 _ _ K (fun c hc => hr c (List.mem_cons_of_mem _ hc)) hn2 (k3 _ _ (nomatch ·) hj) fun H' v4 v5 => q H' v4 v5
    | false => exact q H3 (some (.py (memD c))) (some (.ref H.length))
theorem c_sub (hn : 12 < n) {A B : PyData} {e e2 : Bool} {cb : List (Mem × Bool)} (h1 : eqA (.py A) (.py B) [] = some e) (h2 : eqA (.py B) (.py (nmD .An)) [] = some e2) (hA : Shal (n + 1) frz A) (hB : Shal (n + 1) frz B) (hs : Sized (n + 2) frz B) (hc : Cases (n + 2) frz A (cb.map (·.1)))
    (hr : ∀ c ∈ cb, okM c.1 = true ∧ RunF n frz p (goalD (memD c.1) B) c.2) (q : Q (.py (.bool (e || e2 || cb.all (·.2)))) H) : (den tl.txt frz (n + 3)).fn 18 [.fro p, .py A, .py B] H Q := by
  refine fn_in D_is_subtype [some (.fro p), some (.py A), some (.py B), some (.py (.int 4000)), none, none] rfl rfl rfl ?_
  refine gT h1 ?_
  cases e with
  | true => exact ret_py q
  | false =>
    refine gT h2 ?_
    cases e2 with
    | true => exact ret_py q
    | false =>
      refine c_deep hA hB ?_
      refine hc _ _ ?_
      refine oP_of it_last ?_
      refine sub_loop (Nat.lt_of_le_of_lt (Nat.zero_le _) hn) hs cb _ none none _ hr hn rfl fun H' v4 v5 => ?_
      cases hb : cb.all (·.2) with
      | true => rw [hb] at q; exact ret_py q
      | false => rw [hb] at q; exact ret_py q
end
section
variable {frz : Frz} {n m f : Nat} {as xs : List AV} {a : AV} {H H' : AH} {Q : K1} {p pd : Addr × Addr} {es : List (PyData × AV)}
noncomputable def kvD : List Mem → PyData
  | [m] => memD m
  | l => unD l
theorem kvD_un {l : List Mem} (h : l.length ≠ 1) : kvD l = unD l := by
  match l, h with
  | [], _ => rfl
  | [_], h => exact absurd rfl h
  | _ :: _ :: _, _ => rfl
noncomputable def leL (l l' : List Mem) : Bool := l.all fun a => l'.any fun b => leM a b
structure okK (l : List Mem) : Prop where
  ne : l ≠ []
  ok : l.all okM = true
  len : l.length ≤ 60
theorem okK.one {m : Mem} (h : okK [m]) : okM m = true := bd1 h.ok
theorem okK.len2 {l : List Mem} (h : okK l) : l.length ≤ 90 := Nat.le_trans h.len (by decide)
theorem okK.len3 {l : List Mem} (h : okK l) : l.length ≤ 100 := Nat.le_trans h.len (by decide)
theorem unD_inj {l l' : List Mem} (h : unD l = unD l') : l = l' :=
  (List.map_inj_right fun _ _ e => memD_inj e).mp (PyData.tuple.inj (List.cons.inj (List.cons.inj (PyData.tuple.inj h)).2).1)
theorem kvD_inj {l l' : List Mem} (hl : okK l) (hl' : okK l') (h : kvD l = kvD l') : l = l' := by
  match l, l' with
  | [], _ => exact absurd rfl hl.ne
  | _, [] => exact absurd rfl hl'.ne
  | [a], [b] => exact congrArg (fun z => [z]) (memD_inj h)
  | [a], b :: c :: r => exact absurd h mem_ne_un
  | a :: c :: r, [b] => exact absurd h.symm mem_ne_un
  | a :: c :: r, b :: d :: s => exact unD_inj h
theorem lf_kv (l : List Mem) : lf 6 (kvD l) = true := by
  match l with
  | [] => exact lf_un _
  | [m] => exact lf_up (lf_mem m) rfl
  | _ :: _ :: _ => exact lf_un _
theorem q_kv {l l' : List Mem} (hl : okK l) (hl' : okK l') : eqA (.py (kvD l)) (.py (kvD l')) [] = some (decide (l = l')) := by
  classical
  rw [eqA_lf (lf_kv l) (lf_kv l') rfl rfl]; congr 2
  exact propext ⟨kvD_inj hl hl', congrArg kvD⟩
theorem okK_An : okK [.n .An] := ⟨(nomatch ·), rfl, by decide⟩
theorem q_kv_any {l : List Mem} (hl : okK l) : eqA (.py (kvD l)) (.py (nmD .An)) [] = some (decide (l = [.n .An])) := q_kv (l' := [.n .An]) hl okK_An
theorem leL_refl (l : List Mem) : leL l l = true := List.all_eq_true.mpr fun a ha => List.any_eq_true.mpr ⟨a, ha, leM_refl a⟩
theorem leL_An (l : List Mem) : leL l [.n .An] = true := List.all_eq_true.mpr fun a _ => List.any_eq_true.mpr ⟨_, List.mem_cons_self, leM_An a⟩
theorem leL_trans {a b c : List Mem} (h1 : leL a b = true) (h2 : leL b c = true) : leL a c = true := List.all_eq_true.mpr fun x hx =>
  (List.any_eq_true.mp (List.all_eq_true.mp h1 x hx)).elim fun y hy => (List.any_eq_true.mp (List.all_eq_true.mp h2 y hy.1)).elim fun z hz => List.any_eq_true.mpr ⟨z, hz.1, leM_trans hy.2 hz.2⟩
theorem shal_kv {l : List Mem} (h : okK l) (hn : 14 < n) : Shal n frz (kvD l) := by
  match l, h with
  | [], h => exact absurd rfl h.ne
  | [m], h => exact shal_mem h.one (dn hn rfl)
  | _ :: _ :: _, h => exact shal_un h.ok h.len3 hn
theorem sized_kv {l : List Mem} (h : okK l) (hn : 14 < n) : Sized n frz (kvD l) := by
  match l, h with
  | [], h => exact absurd rfl h.ne
  | [m], h => exact sized_mem h.one (dn hn rfl)
  | _ :: _ :: _, h => exact sized_un h.ok h.len3 hn
theorem cases_kv {l : List Mem} (h : okK l) (hn : 14 < n) : Cases n frz (kvD l) l := by
  match l, h with
  | [], h => exact absurd rfl h.ne
  | [m], h => exact cases_mem h.one (dn hn rfl)
  | _ :: _ :: _, h => exact cases_un h.ok (Nat.le_trans h.len (by decide)) (dn hn rfl)
theorem runf_un (K : KA frz p pd es) (hn : 23 < n) {k : Mem} (hk : okM k = true) {l : List Mem} (hl : l.all okM = true) (h2 : 2 ≤ l.length) (hl2 : l.length ≤ 90) : RunF n frz p (goalD (memD k) (unD l)) (l.any fun b => leM k b) := by
  obtain ⟨n, rfl⟩ : ∃ m, n = m + 3 := ⟨n - 3, by omega⟩
  have g := gi_un (p := p) (frz := frz) hk (l := l) (bs := l.map fun b => leM k b) (List.length_map _) hl h2 (by omega) (n := n) (by omega) fun g hg => by
    rw [List.zip_map', List.mem_map] at hg
    obtain ⟨b, hb, rfl⟩ := hg
    exact run_mem K (by omega) hk (List.all_eq_true.mp hl b hb)
  have e : (l.map fun b => leM k b).any id = l.any fun b => leM k b := by rw [List.any_map]; rfl
  rw [e] at g
  cases hb : l.any fun b => leM k b with
  | true =>
    rw [hb] at g
    exact ⟨_, _, _, by omega, by omega, Run.step (pre := []) (ws := []) g (by omega) (by decide) (by decide) .done rfl⟩
  | false =>
    rw [hb] at g
    exact ⟨_, _, _, by omega, by omega, Run.fail (pre := []) g (by omega) (by decide)⟩
theorem runf_kv (K : KA frz p pd es) (hn : 23 < n) {k : Mem} (hk : okM k = true) {l : List Mem} (hl : okK l) : RunF n frz p (goalD (memD k) (kvD l)) (l.any fun b => leM k b) := by
  match l, hl with
  | [], h => exact absurd rfl h.ne
  | [m], h =>
    obtain ⟨c, j, h1, h2, h3⟩ := run_mem (n := n) K (dn hn rfl) hk h.one
    exact ⟨c, j, false, by omega, by omega, by rw [List.any_cons, List.any_nil, Bool.or_false]; exact h3⟩
  | _ :: _ :: _, h => exact runf_un K hn hk h.ok (Nat.le_add_left 2 _) h.len2
theorem c_subK (K : KA frz p pd es) {l l' : List Mem} (h : okK l) (h' : okK l') (hn : 28 < n) (q : Q (.py (.bool (leL l l'))) H) : (den tl.txt frz n).fn 18 [.fro p, .py (kvD l), .py (kvD l')] H Q := by
  obtain ⟨n, rfl⟩ : ∃ m, n = m + 3 := ⟨n - 3, by omega⟩
  have hn : 25 < n := by omega
  have hz : (l.map fun a => (a, l'.any fun b => leM a b)).map (·.1) = l := by rw [List.map_map]; exact List.map_id' l
  refine c_sub (dn hn rfl) (q_kv h h') (q_kv_any h') (shal_kv h (Nat.lt_succ_of_lt (dn hn rfl))) (shal_kv h' (Nat.lt_succ_of_lt (dn hn rfl))) (sized_kv h' (by omega)) (cb := l.map fun a => (a, l'.any fun b => leM a b)) (by rw [hz]; exact cases_kv h (by omega)) (fun c hc => (List.mem_map.mp hc).elim fun a ha => ha.2 ▸ ⟨List.all_eq_true.mp h.ok a ha.1, runf_kv K (dn hn rfl) (List.all_eq_true.mp h.ok a ha.1) h'⟩) ?_
  have e : (decide (l = l') || decide (l' = [.n .An]) || (l.map fun a => (a, l'.any fun b => leM a b)).all (·.2)) = leL l l' := by
    rw [show ((l.map fun a => (a, l'.any fun b => leM a b)).all (·.2)) = leL l l' by rw [List.all_map]; rfl]
    by_cases e1 : l = l'
    · subst e1; rw [leL_refl, Bool.or_true]
    · by_cases e2 : l' = [.n .An]
      · subst e2; rw [leL_An, Bool.or_true]
      · rw [decide_eq_false e1, decide_eq_false e2]; rfl
  rw [e]; exact q
end
section
variable {frz : Frz} {n m f : Nat} {as xs : List AV} {a : AV} {H H' : AH} {Q : K1} {p pd : Addr × Addr} {es : List (PyData × AV)} {Γ : Gam} {vs : Vars} {K : K2} {D : FnDef}
theorem fn_pl (D : FnDef) (vs : Vars) (h : argsOf D [.ref 0] = some vs) (hD : tl.txt.fnD f = D) {j : Nat} (hj : H[j]? = some (.list xs)) (hs : stills xs = true) (q : eSs (den tl.txt frz n) D.body vs [.list xs] (outK fun r H' => H'[0]? = some (.list xs) ∧ pureK 1 H Q r H')) : (den tl.txt frz (n + 1)).fn f [.ref j] H Q := .pl 0 ⟨j, xs, rfl, hj, hs, rfl, hD ▸ body_of h q⟩
noncomputable def addAll : List Mem → List Mem → List Mem
  | acc, [] => acc
  | acc, m :: r => addAll (cond (acc.contains m) acc (acc ++ [m])) r
theorem addAll_app : ∀ (l l' acc : List Mem), addAll acc (l ++ l') = addAll (addAll acc l) l'
  | [], _, _ => rfl
  | m :: r, l', acc => addAll_app r l' _
theorem add1_len (acc : List Mem) (m : Mem) : (cond (acc.contains m) acc (acc ++ [m])).length ≤ acc.length + 1 := by
  cases acc.contains m with
  | true => exact Nat.le_succ _
  | false => exact Nat.le_of_eq List.length_append
theorem addAll_len : ∀ (l acc : List Mem), (addAll acc l).length ≤ acc.length + l.length
  | [], acc => Nat.le_refl _
  | m :: r, acc => by
    have := addAll_len r (cond (acc.contains m) acc (acc ++ [m]))
    have := add1_len acc m
    show (addAll _ r).length ≤ acc.length + (r.length + 1)
    omega
theorem mem_addAll : ∀ (l acc : List Mem) (x : Mem), x ∈ addAll acc l ↔ x ∈ acc ∨ x ∈ l
  | [], acc, x => ⟨.inl, fun h => h.elim id fun h => nomatch h⟩
  | m :: r, acc, x => by
    refine (mem_addAll r _ x).trans ?_
    rw [List.mem_cons]
    cases h : acc.contains m with
    | true => exact ⟨fun h => h.imp id .inr, fun z => z.elim .inl fun z => z.elim (fun e => .inl (show x ∈ acc from e ▸ List.contains_iff_mem.mp h)) .inr⟩
    | false => exact ⟨fun z => z.elim (fun z => (List.mem_append.mp z).imp id fun z => .inl (List.mem_singleton.mp z)) fun z => .inr (.inr z), fun z => z.elim (fun z => .inl (List.mem_append_left _ z)) fun z => z.elim (fun e => .inl (List.mem_append_right _ (e ▸ List.mem_cons_self))) .inr⟩
noncomputable def kvs (st : List (List Mem)) : List AV := st.map fun l => .py (kvD l)
theorem kvs_app (a b : List (List Mem)) : kvs (a ++ b) = kvs a ++ kvs b := List.map_append
theorem kvs_len (a : List (List Mem)) : (kvs a).length = a.length := List.length_map _
noncomputable def w1 (l : List Mem) : Nat := if l.length = 1 then 1 else 1 + l.length
theorem w1_pos (l : List Mem) : 1 ≤ w1 l := by unfold w1; split <;> omega
noncomputable def wgU (st : List (List Mem)) : Nat := (st.map w1).sum
theorem wgU_app (a b : List (List Mem)) : wgU (a ++ b) = wgU a + wgU b := by unfold wgU; rw [List.map_append, List.sum_append]
theorem wgU_len : ∀ s : List (List Mem), s.length ≤ wgU s
  | [] => Nat.le_refl _
  | x :: r => Nat.le_trans (Nat.le_of_eq (Nat.add_comm _ _)) (Nat.add_le_add (w1_pos x) (wgU_len r))
theorem allPy_mds (l : List Mem) : allPy (mds l) = some (l.map memD) := by rw [← mds_eq]; exact allPy_map _
theorem lfs_mds (l : List Mem) : lfs 4 (l.map memD) = true := lfs_of fun d hd => (List.mem_map.mp hd).elim fun m hm => hm.2 ▸ lf_mem m
theorem any_mds (k : Mem) : ∀ l : List Mem, ((l.map memD).any fun e => PyData.eqv e (memD k)) = l.contains k
  | [] => rfl
  | x :: r => by
    classical
    rw [List.map_cons, List.any_cons, any_mds k r, List.contains_cons, eqv_lf (lf_mem x) (lf_mem k)]
    congr 1
    by_cases e : k = x
    · subst e; rw [decide_eq_true rfl, beq_self_eq_true]
    · rw [decide_eq_false (fun h => e (memD_inj h).symm)]; exact (beq_eq_false_iff_ne.mpr e).symm
theorem in_mds {F : Frz} {c : Nat} {l : List Mem} {k : Mem} (h : H[c]? = some (.list (mds l))) : inA F (.py (memD k)) (.ref c) H = some (l.contains k) := by
  refine (congrArg (Option.bind · (inO (memD k))) (show getO F H (.ref c) = _ from h)).trans ?_
  show Option.bind (allPy (mds l)) _ = _
  rw [allPy_mds]
  exact (gB_of (Bool.and_eq_true_iff.mpr ⟨lf_shp (lf_mem k) rfl, lfs_shp (lfs_mds l) rfl⟩)).trans (congrArg some (any_mds k l))
theorem app_of {j : Nat} {v : AV} (h : H[j]? = some (.list xs)) (hr : Nat.ble xs.length room = true) : appA (.ref j) [v] H = some (.py .none, H.set j (.list (xs ++ [v]))) := by
  show Option.bind (hL H j) _ = _
  rw [hL_of h]; exact gB_of hr
theorem ext_py {F : Frz} {j : Nat} {ds : List PyData} (h : H[j]? = some (.list xs)) (hr : Nat.ble (xs.length + (ds.map AV.py).length) room = true) : extA F (.ref j) [.py (.tuple ds)] H = some (.py .none, H.set j (.list (xs ++ ds.map .py))) := by
  show Option.bind (hL H j) _ = _
  rw [hL_of h]; exact gB_of (Bool.and_eq_true_iff.mpr ⟨hr, rfl⟩)
theorem flat_one : ∀ r : List Mem, (r.map fun m => [m]).flatten = r
  | [] => rfl
  | x :: r => congrArg (x :: ·) (flat_one r)
theorem wgU_one : ∀ r : List Mem, wgU (r.map fun m => [m]) = r.length
  | [] => rfl
  | x :: r => (Nat.add_comm _ _).trans (congrArg (· + 1) (wgU_one r))
theorem kvs_rev (l : List Mem) : (l.map memD).reverse.map AV.py = kvs (l.reverse.map fun m => [m]) := by rw [kvs, List.map_map, ← List.map_reverse, List.map_map]; rfl
noncomputable def uniW (n : Nat) (frz : Frz) : Nat → Vars → AH → K2 → Prop := whileL (eE (den tl.txt frz n) (condS (hdS (tlS D_union_of.body)))) (eSs (den tl.txt frz n) (loopS (hdS (tlS D_union_of.body))))
theorem uni_loop : ∀ (N : Nat) (st : List (List Mem)) (fo : List Mem) (H : AH) (s : AV) (b c : Nat) (u : Option AV) (K : K2), wgU st < N → N ≤ 2000 → (∀ l ∈ st, okK l) → fo.length ≤ 1000 → c ≠ b → H[c]? = some (.list (mds fo)) → H[b]? = some (.list (kvs st)) →
    (∀ H' v, Keep [b, c] H H' → H'[c]? = some (.list (mds (addAll fo st.reverse.flatten))) → K .next [some s, some (.ref b), some (.ref c), v] H') →
    fo.length + st.flatten.length ≤ 1000 →
    uniW n frz N [some s, some (.ref b), some (.ref c), u] H K
  | 0, _, _, _, _, _, _, _, _, h, _, _, _, _, _, _, _, _ => absurd h (Nat.not_lt_zero _)
  | N + 1, st, fo, H, s, b, c, u, K, hw, hN, hok, hfo, hcb, hc, hb, q, hl => by
    rcases List.eq_nil_or_concat st with rfl | ⟨pre, l, rfl⟩
    · refine gT (test_ne (ys := []) hb) ?_
      exact q _ _ Keep.refl.app (Pre.refl.app _ _ hc)
    · rw [List.concat_eq_append] at *
      rw [kvs_app] at hb
      have hokp : ∀ l ∈ pre, okK l := fun l hl => hok l (List.mem_append_left _ hl)
      have hkl : okK l := hok l (List.mem_append_right _ List.mem_cons_self)
      have hlp : pre.length + 1 ≤ 2000 := by have := wgU_len (pre ++ [l]); rw [List.length_append] at this; exact Nat.le_trans this (Nat.le_trans (Nat.le_of_lt hw) hN)
      have hb' : (H ++ [AO.list []])[b]? = some (.list (kvs pre ++ [.py (kvD l)])) := Pre.refl.app _ _ hb
      have b1 : ((H ++ [AO.list []]).set b (.list (kvs pre)))[b]? = some (.list (kvs pre)) := set_self hb'
      have c1 : ((H ++ [AO.list []]).set b (.list (kvs pre)))[c]? = some (.list (mds fo)) := set_ne hcb.symm (Pre.refl.app _ _ hc)
      have kX : Keep [b, c] H ((H ++ [AO.list []]).set b (.list (kvs pre))) := Keep.refl.app.set List.mem_cons_self
      rw [wgU_app] at hw
      have hw2 : wgU [l] = w1 l := rfl
      rw [List.flatten_append, List.length_append] at hl
      have hfl1 : [l].flatten = l := List.append_nil l
      rw [hfl1] at hl
      have rr : Nat.ble (kvs pre ++ [AV.py (kvD l)]).length room = true := room_le (m := 2000) (by rw [List.length_append, kvs_len]; exact hlp) rfl
      have bc : c ∈ [b, c] := List.mem_cons_of_mem _ List.mem_cons_self
      refine gT ((test_ne hb).trans (congrArg (some ∘ not) none0_snoc)) ?_
      refine oP_of (kd_list (x := "pop") hb' rfl) ?_
      refine gO (pop_of hb' rr) ?_
      generalize hX : (H ++ [AO.list []]).set b (.list (kvs pre)) = X at b1 c1 kX ⊢
      by_cases h1 : l.length = 1
      · obtain ⟨k, rfl⟩ : ∃ k, l = [k] := List.length_eq_one_iff.mp h1
        have hfin : ∀ (Y : AH), Keep [b, c] H Y → Y[c]? = some (.list (mds (cond (fo.contains k) fo (fo ++ [k])))) → Y[b]? = some (.list (kvs pre)) → ∀ u, uniW n frz N [some s, some (.ref b), some (.ref c), u] Y K := fun Y k1 k2 k3 u => by
          have hfl := add1_len fo k
          have hk1 : w1 [k] = 1 := rfl
          have hl : fo.length + (pre.flatten.length + 1) ≤ 1000 := hl
          refine uni_loop N pre (cond (fo.contains k) fo (fo ++ [k])) Y s b c u K (by omega) (by omega) hokp (by omega) hcb k2 k3 (fun H' v a1 a2 => q H' v (k1.trans a1) ?_) (by omega)
          rw [a2, List.reverse_append]; rfl
        refine gA (sub_w frz k) ?_
        refine gT (w_union k) ?_
        refine gT (ne_of (q_bot k)) ?_
        refine gT (show cmpA frz .notin (.py (memD k)) (.ref c) X = some (!(fo.contains k)) from congrArg (Option.map (!·)) (in_mds c1)) ?_
        cases hco : fo.contains k with
        | true =>
          rw [hco] at hfin
          exact hfin X kX c1 b1 _
        | false =>
          rw [hco] at hfin
          refine oP_of (kd_list (x := "append") c1 rfl) ?_
          refine gO (app_of c1 (room_le (m := 1000) (by rw [mds_len]; exact hfo) rfl)) ?_
          exact hfin _ (kX.set bc) ((set_self c1).trans (congrArg (some ∘ AO.list) (mds_app fo [k]).symm)) (set_ne hcb b1) _
      · have h2 : l.length ≠ 0 := fun e => hkl.ne (List.length_eq_zero_iff.mp e)
        rw [kvD_un h1]
        refine oP_of (kd_list (x := "extend") b1 rfl) ?_
        refine gO (show sliceA (.py (.tuple (l.map memD))) .rev X = some (.py (.tuple (l.map memD).reverse), X) from gB_of (room_le (m := 60) (by rw [List.length_map]; exact hkl.len) rfl)) ?_
        refine gO (ext_py b1 (room_le (m := 2060) (by rw [kvs_len, List.length_map, List.length_reverse, List.length_map]; exact Nat.add_le_add (Nat.le_of_succ_le hlp) hkl.len) rfl)) ?_
        have hwr := wgU_one l.reverse
        rw [List.length_reverse] at hwr
        have hw1 : w1 l = 1 + l.length := by unfold w1; rw [if_neg h1]
        rw [kvs_rev, ← kvs_app]
        refine uni_loop N (pre ++ l.reverse.map fun m => [m]) fo _ s b c _ K (by rw [wgU_app]; omega) (by omega) (fun x hx => (List.mem_append.mp hx).elim (hokp x) fun hx => (List.mem_map.mp hx).elim fun m hm => hm.2 ▸ ⟨(nomatch ·), Bool.and_eq_true_iff.mpr ⟨List.all_eq_true.mp hkl.ok m (List.mem_reverse.mp hm.1), rfl⟩, (by decide : 1 ≤ 60)⟩) hfo hcb (set_ne hcb.symm c1) (set_self b1) (fun H' v a1 a2 => q H' v ((kX.set List.mem_cons_self).trans a1) ?_) ?_
        · rw [a2, List.reverse_append, List.reverse_append, ← List.map_reverse, List.reverse_reverse, List.flatten_append, flat_one]; rfl
        · rw [List.flatten_append, flat_one, List.length_append, List.length_reverse]; exact hl
theorem stills_kvs : ∀ ks, stills (kvs ks) = true
  | [] => rfl
  | _ :: r => stills_kvs r
noncomputable def UniOk (d l : List Mem) : Prop := if d.contains (.n .An) then l = [.n .An] else l.Perm d
theorem c_key {k : Mem} (hk : okM k = true) (hn : 12 < n) (q : ∀ r, keyShape r → Q r H) : (den tl.txt frz n).fn 9 [.py (memD k)] H Q :=
  oBk (bd1 (bd2 (bd2 (bd2 (bd2 (bd2 (bd2 (memTab_ok (frz := frz) hk)))))))) fun r e1 e => oBk e fun d e2 e => band_k e fun e3 e4 => fn_run hn rfl e1 (.inl ⟨e4, q _ ⟨d, vD_k e2, e3⟩⟩)
theorem key_all {fo : List Mem} (hok : fo.all okM = true) (hn : 12 < n) : ∀ x ∈ mds fo, (den tl.txt frz n).fn 9 [x] H fun r H2 => H2 = H ∧ keyShape r := fun x hx => (List.mem_map.mp hx).elim fun m hm => hm.2 ▸ c_key (List.all_eq_true.mp hok m hm.1) hn fun r hr => ⟨rfl, hr⟩
theorem perm_mds {xs ys : List AV} (h : ys.Perm xs) : ∀ l, xs = mds l → ∃ l', ys = mds l' ∧ l'.Perm l := by
  induction h with
  | nil => exact fun l e => ⟨l, e, List.Perm.refl _⟩
  | cons x h ih =>
    intro l e
    cases l with
    | nil => exact nomatch e
    | cons m r => exact (ih r (List.cons.inj e).2).imp' (m :: ·) fun l' z => ⟨congr (congrArg List.cons (List.cons.inj e).1) z.1, z.2.cons m⟩
  | swap x y t =>
    intro l e
    cases l with
    | nil => exact nomatch e
    | cons m r =>
      cases r with
      | nil => exact nomatch (List.cons.inj e).2
      | cons k r => exact ⟨k :: m :: r, congr (congrArg List.cons (List.cons.inj (List.cons.inj e).2).1) (congr (congrArg List.cons (List.cons.inj e).1) (List.cons.inj (List.cons.inj e).2).2), List.Perm.swap _ _ _⟩
  | trans h1 h2 ih1 ih2 => exact fun l e => (ih2 l e).elim fun l1 z1 => (ih1 l1 z1.1).imp fun l2 z2 => ⟨z2.1, z2.2.trans z1.2⟩
theorem unD_of {l : List Mem} (h : 2 ≤ l.length) : unD l = kvD l := (kvD_un (Nat.ne_of_gt h)).symm
theorem c_union {ks : List (List Mem)} (hks : ∀ l ∈ ks, okK l) (hne : ks ≠ []) (hlen : (addAll [] ks.flatten).length ≤ 6) (hl2 : ks.flatten.length ≤ 100) (hl3 : wgU ks ≤ 1000) (hn : 13 < n) {j : Nat} (hj : H[j]? = some (.list (kvs ks)))
    (q : ∀ l, UniOk (addAll [] ks.flatten) l → Q (.py (kvD l)) H) : (den tl.txt frz (n + 1)).fn 2 [.ref j] H Q := by
  refine fn_pl D_union_of [some (.ref 0), none, none, none] rfl rfl hj (stills_kvs ks) ?_
  have hr : Nat.ble (kvs ks).length room = true := room_le (m := 1000) (by rw [kvs_len]; exact Nat.le_trans (wgU_len ks) hl3) rfl
  refine gO (show callBA frz .list [.ref 0] [.list (kvs ks)] = some (.ref 1, [.list (kvs ks), .list (kvs ks)]) from gB_of hr) ?_
  refine gO (sli_rev (xs := kvs ks) rfl hr) ?_
  rw [show (kvs ks).reverse = kvs ks.reverse from List.map_reverse.symm]
  have hwr : wgU ks.reverse = wgU ks := by unfold wgU; rw [List.map_reverse, List.sum_reverse]
  refine uni_loop (n := n) 2000 ks.reverse [] _ (.ref 0) 2 3 none _ (by omega) (Nat.le_refl _) (fun l hl => hks l (List.mem_reverse.mp hl)) (Nat.zero_le _) (by decide) rfl rfl (fun H' v a1 a2 => ?_) (by have := (List.Perm.flatten (List.reverse_perm ks)).length_eq; rw [List.length_nil]; omega)
  rw [List.reverse_reverse] at a2
  have a0 : H'[0]? = some (.list (kvs ks)) := a1 0 _ (by decide) rfl
  have dne : addAll [] ks.flatten ≠ [] := fun e => by
    obtain ⟨l, hl⟩ := List.exists_mem_of_ne_nil ks hne
    obtain ⟨m, hm⟩ := List.exists_mem_of_ne_nil l (hks l hl).ne
    have : m ∈ addAll [] ks.flatten := (mem_addAll _ _ _).mpr (.inr (List.mem_flatten.mpr ⟨l, hl, hm⟩))
    rw [e] at this; exact nomatch this
  have dok : (addAll [] ks.flatten).all okM = true := List.all_eq_true.mpr fun m hm => ((mem_addAll _ _ _).mp hm).elim (fun h => nomatch h) fun h => (List.mem_flatten.mp h).elim fun l z => List.all_eq_true.mp (hks l z.1).ok m z.2
  generalize addAll [] ks.flatten = d at q a2 hlen dne dok
  refine gT (show cmpA frz .inn (.py (nmD .An)) (.ref 3) H' = _ from in_mds (k := .n .An) a2) ?_
  cases hA : d.contains (.n .An) with
  | true => exact ⟨a0, .inl ⟨rfl, q [.n .An] (by unfold UniOk; rw [if_pos hA])⟩⟩
  | false =>
    have fin : ∀ {l}, l.Perm d → UniOk d l := fun h => by unfold UniOk; rw [if_neg (by rw [hA]; decide)]; exact h
    have hd : none0 (mds d) = false := by
      cases d with
      | nil => exact absurd rfl dne
      | cons _ _ => rfl
    have P : Pre H' (H' ++ [AO.list []]) := Pre.refl.app
    refine gT ((test_eq a2).trans (congrArg some hd)) ?_
    refine gO (len_of (P _ _ a2) (room100 (by rw [mds_len]; exact Nat.le_trans hlen (by decide)))) ?_
    by_cases h1 : d.length = 1
    · obtain ⟨k, rfl⟩ := List.length_eq_one_iff.mp h1
      refine gA (sub_l0 (v := .py (memD k)) (r := []) (P _ _ a2)) ?_
      exact ⟨P _ _ a0, .inl ⟨rfl, q [k] (fin (List.Perm.refl _))⟩⟩
    · have h2 : 2 ≤ d.length := by
        have : d.length ≠ 0 := fun e => dne (List.length_eq_zero_iff.mp e)
        omega
      refine cF (show PyData.eqv (.int (mds d).length) (.int 1) = false from beq_eq_false_iff_ne.mpr (by rw [mds_len]; omega)) ?_
      refine oP_of (hL_of (P _ _ a2)) ⟨⟨by rw [mds_len]; exact h2, by rw [mds_len]; exact hlen⟩, key_all dok (Nat.lt_of_succ_lt hn), fun ys hp => ?_⟩
      obtain ⟨l', rfl, hp'⟩ := perm_mds hp d rfl
      have hl' := hp'.length_eq
      have et : callBA frz .tuple [.ref (H' ++ [AO.list []]).length] (H' ++ [AO.list []] ++ [.list (mds l')]) = some (.py (.tuple (l'.map memD)), H' ++ [.list []] ++ [.list (mds l')]) := by
        show Option.bind (hL _ _) _ = _
        rw [hlast]; refine (gB_of (room100 (by rw [mds_len]; omega))).trans ?_
        rw [← mds_eq, mkTup_py]
      refine gO et ?_
      exact ⟨Pre.refl.app _ _ (P _ _ a0), .inl ⟨rfl, (show Q (.py (unD l')) H by rw [unD_of (hl' ▸ h2)]; exact q l' (fin hp'))⟩⟩
end
section
variable {frz : Frz} {n m f : Nat} {as xs : List AV} {a : AV} {H H' : AH} {Q : K1} {p pd : Addr × Addr} {es : List (PyData × AV)} {Γ : Gam} {vs : Vars} {K : K2}
theorem okK_one {k : Mem} (h : okM k = true) : okK [k] := ⟨(nomatch ·), Bool.and_eq_true_iff.mpr ⟨h, rfl⟩, (by decide : 1 ≤ 60)⟩
theorem leL_one {k j : Mem} : leL [k] [j] = leM k j := (Bool.and_true _).trans (Bool.or_false _)
theorem c_subM (K : KA frz p pd es) {k j : Mem} (hk : okM k = true) (hj : okM j = true) (hn : 28 < n) (q : Q (.py (.bool (leM k j))) H) : (den tl.txt frz n).fn 18 [.fro p, .py (memD k), .py (memD j)] H Q :=
  c_subK K (okK_one hk) (okK_one hj) hn (leL_one.symm ▸ q)
theorem c_subN (K : KA frz p pd es) {x y : Nm} (hn : 28 < n) (q : Q (.py (.bool (leN x y))) H) : (den tl.txt frz n).fn 18 [.fro p, .py (nmD x), .py (nmD y)] H Q := c_subM K (k := .n x) (j := .n y) rfl rfl hn q
noncomputable def cN (x y : Nm) : Nm := cond (leN x y) y (cond (leN y x) x (((x :: supsL x).find? (leN y)).getD .An))
theorem cN_ok (x y : Nm) : leN x (cN x y) = true ∧ leN y (cN x y) = true := Bool.and_eq_true_iff.mp (nm_all2 (p := fun x y => leN x (cN x y) && leN y (cN x y)) (by decide +kernel) x y)
theorem cN_7 {x y : Nm} (hx : nm7.contains x = true) (hy : nm7.contains y = true) : nm7.contains (cN x y) = true := by
  have h : (nm7.all fun x => nm7.all fun y => nm7.contains (cN x y)) = true := by decide +kernel
  exact List.all_eq_true.mp (List.all_eq_true.mp h x (List.elem_iff.mp hx)) y (List.elem_iff.mp hy)
noncomputable def comBody : CSs := loopS (hdS (tlS (tlS (tlS (tlS (tlS D_common.body))))))
noncomputable def outF (o : Option Nm) : Out := match o with
  | some z => .ret (.py (nmD z))
  | none => .next
theorem com_loop (K : KA frz p pd es) (hn : 28 < n) {y : Nm} {wl : List AV} {j : Nat} {s1 s2 s3 : AV} (l : List Nm) : ∀ (H : AH) (u : Option AV) (K2 : K2), H[j]? = some (.list wl) →
    (∀ v, K2 (outF (l.find? (leN y))) [some (.fro p), some s1, some s2, some s3, some (.py (nmD y)), v] H) →
    forL (chkA (.ref j) wl) (forStep (eSs (den tl.txt frz n) comBody) (.one 5)) (nms l) [some (.fro p), some s1, some s2, some s3, some (.py (nmD y)), u] H K2 := by
  induction l with
  | nil => exact fun H u K2 hj q => ⟨hj, q u⟩
  | cons z l ih =>
    intro H u K2 hj q
    refine ⟨hj, ?_⟩
    refine c_subN K hn ?_
    cases e : leN y z with
    | true =>
      have := q (some (.py (nmD z)))
      rw [List.find?_cons_of_pos e] at this
      exact this
    | false =>
      refine ih H _ K2 hj fun v => ?_
      have := q v
      rw [List.find?_cons_of_neg (by rw [e]; decide)] at this
      exact this
theorem c_base {x : Nm} (q : Q (.py (nmD x)) H) : (den tl.txt frz (n + 1)).fn 22 [.py (nmD x)] H Q := fn_in D_base_of [some (.py (nmD x))] rfl rfl rfl (ret_py q)
theorem c_commonN (K : KA frz p pd es) {x y : Nm} (hn : 29 < n) (q : Q (.py (nmD (cN x y))) H) : (den tl.txt frz n).fn 23 [.fro p, .py (nmD x), .py (nmD y)] H Q := by
  obtain ⟨n, rfl⟩ : ∃ j, n = j + 2 := ⟨n - 2, by omega⟩
  have h1 : 28 < n + 1 := Nat.lt_of_succ_lt_succ hn
  refine fn_in D_common [some (.fro p), some (.py (nmD x)), some (.py (nmD y)), none, none, none] rfl rfl rfl ?_
  unfold cN at q
  refine c_subN K h1 ?_
  cases e1 : leN x y with
  | true => rw [e1] at q; exact ret_py q
  | false =>
    rw [e1] at q
    refine c_subN K h1 ?_
    cases e2 : leN y x with
    | true => rw [e2] at q; exact ret_py q
    | false =>
      rw [e2] at q
      refine c_base (n := n) ?_
      refine c_base (n := n) ?_
      refine oP_of (K.me (x := "supers") (by kernel_rfl)) ?_
      refine c_supers (n := n) K (dn (Nat.lt_of_succ_lt_succ h1) rfl) ?_
      have hl : (nms (supsL x)).length ≤ 6 := Nat.le_of_ble_eq_true (nm_all (p := fun x => Nat.ble (nms (supsL x)).length 6) (by decide) x)
      refine gO (show callBA frz .list [.ref 1] [.list [.py (nmD x)], .list (nms (supsL x))] = some (.ref 2, _) from gB_of (room_le hl rfl)) ?_
      refine gO (add_to (i := 0) (j := 2) (xs := [.py (nmD x)]) (ys := nms (supsL x)) (zs := nms (x :: supsL x)) rfl rfl (room_le (Nat.add_le_add_left hl 1) rfl) rfl) ?_
      refine com_loop K h1 (x :: supsL x) _ none _ rfl fun v => ?_
      cases e3 : (x :: supsL x).find? (leN y) with
      | some z => rw [e3] at q; exact ret_py q
      | none => rw [e3] at q; exact ret_py q
end
section
variable {frz : Frz} {n m f : Nat} {as xs : List AV} {a : AV} {H H' : AH} {Q : K1} {p pd : Addr × Addr} {es : List (PyData × AV)} {Γ : Gam} {vs : Vars} {K : K2}
noncomputable def cNs : List Nm → Nm
  | [] => .An
  | x :: r => r.foldl cN x
noncomputable def restN : Mem → List Nm
  | .r x => [x]
  | _ => []
noncomputable def partN : Mem → List Nm
  | .t1 x => [x]
  | .t2 x y => [x, y]
  | _ => []
noncomputable def cTu : Mem → Mem → Mem
  | .t1 x, .t1 y => .t1 (cN x y)
  | .t2 x y, .t2 a b => .t2 (cN x a) (cN y b)
  | k, j => .r (cNs (partN k ++ partN j ++ (restN k ++ restN j)))
noncomputable def cX : Mem → Mem → Mem
  | .n x, .n y => .n (cN x y)
  | .n _, _ => .n .An
  | _, .n _ => .n .An
  | k, j => cTu k j
noncomputable def cM (k j : Mem) : Mem := cond (leM k j) j (cond (leM j k) k (cX k j))
theorem cM_m {k j : Mem} {m : Mem → Prop} (h1 : leM k j = true → m j) (h2 : leM j k = true → m k) (h3 : m (cX k j)) : m (cM k j) := by
  unfold cM
  cases e1 : leM k j with
  | true => exact h1 e1
  | false =>
    cases e2 : leM j k with
    | true => exact h2 e2
    | false => exact h3
theorem fold_le : ∀ (r : List Nm) (x : Nm), leN x (r.foldl cN x) = true ∧ ∀ y ∈ r, leN y (r.foldl cN x) = true
  | [], x => ⟨leN_refl x, fun _ h => nomatch h⟩
  | y :: r, x =>
    have h := fold_le r (cN x y)
    have g := cN_ok x y
    ⟨leN_trans g.1 h.1, fun z hz => (List.mem_cons.mp hz).elim (fun e => by rw [e]; exact leN_trans g.2 h.1) (h.2 z)⟩
theorem cNs_le : ∀ {l : List Nm} {x : Nm}, x ∈ l → leN x (cNs l) = true
  | [], _, h => nomatch h
  | y :: r, x, h => (List.mem_cons.mp h).elim (fun e => e ▸ (fold_le r y).1) ((fold_le r y).2 x)
theorem fold_7 : ∀ (r : List Nm) (x : Nm), nm7.contains x = true → r.all nm7.contains = true → nm7.contains (r.foldl cN x) = true
  | [], _, h, _ => h
  | y :: r, _, h, hr => fold_7 r _ (cN_7 h (bd1 hr)) (bd2 hr)
theorem cNs_7 : ∀ {l : List Nm}, l.all nm7.contains = true → nm7.contains (cNs l) = true
  | [], _ => rfl
  | y :: r, h => fold_7 r y (bd1 h) (bd2 h)
theorem al {x : Nm} {l : List Nm} (h : nm7.contains x = true) (hl : l.all nm7.contains = true) : (x :: l).all nm7.contains = true := Bool.and_eq_true_iff.mpr ⟨h, hl⟩
theorem l0 {x : Nm} {r : List Nm} : leN x (cNs (x :: r)) = true := cNs_le List.mem_cons_self
theorem l1' {x y : Nm} {r : List Nm} : leN x (cNs (y :: x :: r)) = true := cNs_le (List.mem_cons_of_mem _ List.mem_cons_self)
theorem l2' {x y z : Nm} {r : List Nm} : leN x (cNs (y :: z :: x :: r)) = true := cNs_le (List.mem_cons_of_mem _ (List.mem_cons_of_mem _ List.mem_cons_self))
theorem b2 {a b : Bool} (h1 : a = true) (h2 : b = true) : (a && b) = true := Bool.and_eq_true_iff.mpr ⟨h1, h2⟩
theorem cTu_le {k j : Mem} (hk : isTup k = true) (hj : isTup j = true) : leM k (cTu k j) = true ∧ leM j (cTu k j) = true := by
  cases k with
  | n x => exact bf hk
  | t1 x =>
    cases j with
    | n y => exact bf hj
    | t1 y => exact cN_ok x y
    | t2 y z => exact ⟨l0, b2 l1' l2'⟩
    | r y => exact ⟨l0, l1'⟩
  | t2 x x' =>
    cases j with
    | n y => exact bf hj
    | t1 y => exact ⟨b2 l0 l1', l2'⟩
    | t2 y z => exact ⟨b2 (cN_ok x y).1 (cN_ok x' z).1, b2 (cN_ok x y).2 (cN_ok x' z).2⟩
    | r y => exact ⟨b2 l0 l1', l2'⟩
  | r x =>
    cases j with
    | n y => exact bf hj
    | t1 y => exact ⟨l1', l0⟩
    | t2 y z => exact ⟨l2', b2 l0 l1'⟩
    | r y => exact ⟨l0, l1'⟩
theorem cX_m {k j : Mem} {m : Mem → Prop} (h1 : ∀ x y, k = .n x → j = .n y → m (.n (cN x y))) (h2 : m (.n .An)) (h3 : isTup k = true → isTup j = true → m (cTu k j)) : m (cX k j) := by
  cases k with
  | n x =>
    cases j with
    | n y => exact h1 x y rfl rfl
    | _ => exact h2
  | _ =>
    cases j with
    | n y => exact h2
    | _ => exact h3 rfl rfl
theorem cM_le (k j : Mem) : leM k (cM k j) = true ∧ leM j (cM k j) = true :=
  cM_m (m := fun x => leM k x = true ∧ leM j x = true) (fun h => ⟨h, leM_refl j⟩) (fun h => ⟨leM_refl k, h⟩) (cX_m (m := fun x => leM k x = true ∧ leM j x = true) (fun x y e1 e2 => by rw [e1, e2]; exact cN_ok x y) ⟨leM_An _, leM_An _⟩ cTu_le)
theorem cTu_ok {k j : Mem} (hk : okM k = true) (hj : okM j = true) (tk : isTup k = true) (tj : isTup j = true) : okM (cTu k j) = true := by
  cases k with
  | n x => exact bf tk
  | t1 x =>
    cases j with
    | n y => exact bf tj
    | t1 y => exact cN_7 hk hj
    | t2 y z => exact cNs_7 (al hk (al (bd1 hj) (al (bd2 hj) rfl)))
    | r y => exact cNs_7 (al hk (al hj rfl))
  | t2 x x' =>
    cases j with
    | n y => exact bf tj
    | t1 y => exact cNs_7 (al (bd1 hk) (al (bd2 hk) (al hj rfl)))
    | t2 y z => exact b2 (cN_7 (bd1 hk) (bd1 hj)) (cN_7 (bd2 hk) (bd2 hj))
    | r y => exact cNs_7 (al (bd1 hk) (al (bd2 hk) (al hj rfl)))
  | r x =>
    cases j with
    | n y => exact bf tj
    | t1 y => exact cNs_7 (al hj (al hk rfl))
    | t2 y z => exact cNs_7 (al (bd1 hj) (al (bd2 hj) (al hk rfl)))
    | r y => exact cNs_7 (al hk (al hj rfl))
theorem cM_ok {k j : Mem} (hk : okM k = true) (hj : okM j = true) : okM (cM k j) = true :=
  cM_m (m := fun x => okM x = true) (fun _ => hj) (fun _ => hk) (cX_m (m := fun x => okM x = true) (fun _ _ _ _ => rfl) rfl (cTu_ok hk hj))
theorem cM_n (x y : Nm) : cM (.n x) (.n y) = .n (cN x y) := by
  show cond (leN x y) (Mem.n y) (cond (leN y x) (.n x) (.n (cN x y))) = .n (cN x y)
  unfold cN
  cases leN x y with
  | true => rfl
  | false => cases leN y x <;> rfl
noncomputable def ComOk (n : Nat) (frz : Frz) (p : Addr × Addr) (P : Mem → Prop) : Prop := ∀ k j, P k → P j → P (cM k j) ∧ ∀ (H : AH) (Q : K1), Q (.py (memD (cM k j))) H → (den tl.txt frz n).fn 23 [.fro p, .py (memD k), .py (memD j)] H Q
noncomputable def callBody : CSs := loopS (hdS (tlS D_common_all.body))
theorem call_loop {P : Mem → Prop} (C : ComOk n frz p P) {wl : List AV} {j : Nat} (l : List Mem) : ∀ (H : AH) (k : Mem) (u : Option AV) (K2 : K2), P k → (∀ x ∈ l, P x) → H[j]? = some (.list wl) →
    (∀ v, P (l.foldl cM k) → K2 .next [some (.fro p), some (.ref j), some (.py (memD (l.foldl cM k))), v] H) →
    forL (chkA (.ref j) wl) (forStep (eSs (den tl.txt frz n) callBody) (.one 3)) (mds l) [some (.fro p), some (.ref j), some (.py (memD k)), u] H K2 := by
  induction l with
  | nil => exact fun H k u K2 hk _ hj q => ⟨hj, q u hk⟩
  | cons z l ih =>
    intro H k u K2 hk hl hj q
    refine ⟨hj, ?_⟩
    refine gT (q_bot k) ?_
    have c := C k z hk (hl z List.mem_cons_self)
    refine c.2 _ _ ?_
    exact ih H (cM k z) _ K2 c.1 (fun x hx => hl x (List.mem_cons_of_mem _ hx)) hj q
theorem it_of {F : Frz} {j : Nat} (h : H[j]? = some (.list xs)) : itemsA F (.ref j) H = some xs := hL_of h
theorem c_commonall {P : Mem → Prop} (C : ComOk n frz p P) {k : Mem} {l : List Mem} {j : Nat} (hk : P k) (hl : ∀ x ∈ l, P x) (hj : H[j]? = some (.list (mds (k :: l)))) (q : P (l.foldl cM k) → Q (.py (memD (l.foldl cM k))) H) : (den tl.txt frz (n + 1)).fn 24 [.fro p, .ref j] H Q := by
  refine fn_do D_common_all [some (.fro p), some (.ref j), none, none] rfl rfl ?_
  refine oP_of (it_of hj) ⟨hj, ?_⟩
  refine call_loop C l H k _ _ hk hl hj fun v hv => ?_
  exact q hv
theorem foldN : ∀ (l : List Nm) (x : Nm), (l.map Mem.n).foldl cM (.n x) = .n (l.foldl cN x)
  | [], _ => rfl
  | y :: r, x => by rw [List.map_cons, List.foldl_cons, cM_n, List.foldl_cons]; exact foldN r _
theorem comN (K : KA frz p pd es) (hn : 29 < n) : ComOk n frz p (fun m => isTup m = false) := fun k j hk hj => by
  cases k with
  | n x =>
    cases j with
    | n y => rw [cM_n]; exact ⟨rfl, fun H Q q => c_commonN K hn q⟩
    | _ => exact bf hj.symm
  | _ => exact bf hk.symm
theorem c_commonalln (K : KA frz p pd es) (hn : 29 < n) (x : Nm) (r : List Nm) {j : Nat} (hj : H[j]? = some (.list (nms (x :: r)))) (q : Q (.py (nmD (cNs (x :: r)))) H) : (den tl.txt frz (n + 1)).fn 24 [.fro p, .ref j] H Q :=
  c_commonall (comN K hn) (k := .n x) (l := r.map .n) rfl (fun z hz => (List.mem_map.mp hz).elim fun y hy => hy.2 ▸ rfl) (by rw [hj, nms_mds]; rfl) fun _ => by rw [foldN]; exact q
theorem tupc_of {F : Frz} {ds : List PyData} {j : Nat} (hj : H[j]? = some (.list (ds.map .py))) (hl : ds.length ≤ 1000) : callBA F .tuple [.ref j] H = some (.py (.tuple ds), H) := by
  show Option.bind (itemsA F (.ref j) H) _ = _
  rw [it_of hj]; refine (gB_of (room_le (m := 1000) (by rw [List.length_map]; exact hl) rfl)).trans ?_
  rw [mkTup_py]
theorem c_tupleof {ds : List PyData} {j : Nat} (hj : H[j]? = some (.list (ds.map .py))) (hl : ds.length ≤ 1000) (q : Q (.py (.tuple [.str "tuple", .tuple ds, .none])) H) : (den tl.txt frz (n + 1)).fn 1 [.ref j] H Q := by
  refine fn_do D_tuple_of [some (.ref j), some (.py .none)] rfl rfl ?_
  refine gO (tupc_of hj hl) ?_
  exact q
theorem c_tupleof2 {ds : List PyData} {d : PyData} {j : Nat} (hj : H[j]? = some (.list (ds.map .py))) (hl : ds.length ≤ 1000) (q : Q (.py (.tuple [.str "tuple", .tuple ds, d])) H) : (den tl.txt frz (n + 1)).fn 1 [.ref j, .py d] H Q := by
  refine fn_do D_tuple_of [some (.ref j), some (.py d)] rfl rfl ?_
  refine gO (tupc_of hj hl) ?_
  exact q
theorem c_tupleof3 {d : PyData} (q : Q (.py (.tuple [.str "tuple", .tuple [], d])) H) : (den tl.txt frz (n + 1)).fn 1 [.py (.tuple []), .py d] H Q := fn_do D_tuple_of [some (.py (.tuple [])), some (.py d)] rfl rfl q
theorem c_comtuple (K : KA frz p pd es) {k j : Mem} (tk : isTup k = true) (tj : isTup j = true) (hn : 30 < n) (q : Q (.py (memD (cTu k j))) H) : (den tl.txt frz (n + 1)).fn 25 [.fro p, .py (memD k), .py (memD j)] H Q := by
  obtain ⟨n, rfl⟩ : ∃ j, n = j + 1 := ⟨n - 1, by omega⟩
  have h1 : 29 < n := Nat.lt_of_succ_lt_succ hn
  have h2 := Nat.lt_succ_of_lt h1
  refine fn_in D_common_tuple [some (.fro p), some (.py (memD k)), some (.py (memD j)), none] rfl rfl rfl ?_
  cases k with
  | n x => exact bf tk
  | t1 x =>
    cases j with
    | n y => exact bf tj
    | t1 y => refine ⟨trivial, ?_⟩; refine c_commonN K h2 ⟨trivial, ?_⟩; exact c_tupleof (ds := [_]) rfl (Nat.le_of_ble_eq_true rfl) (ret_py q)
    | t2 y z => refine ⟨trivial, trivial, trivial, ?_⟩; refine c_commonalln K h1 x [y, z] (by rfl) ?_; exact c_tupleof3 (ret_py q)
    | r y => refine ⟨trivial, trivial, trivial, ?_⟩; refine c_commonalln K h1 x [y] (by rfl) ?_; exact c_tupleof3 (ret_py q)
  | t2 x x' =>
    cases j with
    | n y => exact bf tj
    | t1 y => refine ⟨trivial, trivial, trivial, ?_⟩; refine c_commonalln K h1 x [x', y] (by rfl) ?_; exact c_tupleof3 (ret_py q)
    | t2 y z => refine ⟨trivial, ?_⟩; refine c_commonN K h2 ⟨trivial, ?_⟩; refine c_commonN K h2 ⟨trivial, ?_⟩; exact c_tupleof (ds := [_, _]) rfl (Nat.le_of_ble_eq_true rfl) (ret_py q)
    | r y => refine ⟨trivial, trivial, trivial, ?_⟩; refine c_commonalln K h1 x [x', y] (by rfl) ?_; exact c_tupleof3 (ret_py q)
  | r x =>
    cases j with
    | n y => exact bf tj
    | t1 y => refine ⟨trivial, trivial, trivial, ?_⟩; refine c_commonalln K h1 y [x] (by rfl) ?_; exact c_tupleof3 (ret_py q)
    | t2 y z => refine ⟨trivial, trivial, trivial, ?_⟩; refine c_commonalln K h1 y [z, x] (by rfl) ?_; exact c_tupleof3 (ret_py q)
    | r y => refine ⟨trivial, trivial, trivial, ?_⟩; refine c_commonalln K h1 x [y] (by rfl) ?_; exact c_tupleof3 (ret_py q)
theorem c_baseM {k : Mem} (q : Q (.py (memD k)) H) : (den tl.txt frz (n + 1)).fn 22 [.py (memD k)] H Q := by
  refine fn_in D_base_of [some (.py (memD k))] rfl rfl rfl ?_
  cases k <;> exact ret_py q
theorem c_common (K : KA frz p pd es) {k j : Mem} (hk : okM k = true) (hj : okM j = true) (hn : 33 < n) (q : Q (.py (memD (cM k j))) H) : (den tl.txt frz n).fn 23 [.fro p, .py (memD k), .py (memD j)] H Q := by
  by_cases hnn : isTup k = false ∧ isTup j = false
  · exact ((comN K (dn hn rfl)) k j hnn.1 hnn.2).2 H Q q
  obtain ⟨n, rfl⟩ : ∃ j, n = j + 2 := ⟨n - 2, by omega⟩
  have h1 : 32 < n + 1 := Nat.lt_of_succ_lt_succ hn
  have h0 : 31 < n := Nat.lt_of_succ_lt_succ h1
  refine fn_in D_common [some (.fro p), some (.py (memD k)), some (.py (memD j)), none, none, none] rfl rfl rfl ?_
  refine c_subM K hk hj (dn h1 rfl) ?_
  unfold cM at q
  cases e1 : leM k j with
  | true => rw [e1] at q; exact ret_py q
  | false =>
    rw [e1] at q
    refine c_subM K hj hk (dn h1 rfl) ?_
    cases e2 : leM j k with
    | true => rw [e2] at q; exact ret_py q
    | false =>
      rw [e2] at q
      cases k with
      | n x =>
        cases j with
        | n y => exact absurd ⟨rfl, rfl⟩ hnn
        | _ => refine c_baseM (k := .n x) ?_; refine c_baseM (k := _) ?_; exact ret_py q
      | t1 x =>
        cases j with
        | n y => refine c_baseM (k := .t1 x) ?_; refine c_baseM (k := .n y) ?_; exact ret_py q
        | _ => exact c_comtuple K rfl rfl (dn h0 rfl) (ret_py q)
      | t2 x x' =>
        cases j with
        | n y => refine c_baseM (k := .t2 x x') ?_; refine c_baseM (k := .n y) ?_; exact ret_py q
        | _ => exact c_comtuple K rfl rfl (dn h0 rfl) (ret_py q)
      | r x =>
        cases j with
        | n y => refine c_baseM (k := .r x) ?_; refine c_baseM (k := .n y) ?_; exact ret_py q
        | _ => exact c_comtuple K rfl rfl (dn h0 rfl) (ret_py q)
theorem comM (K : KA frz p pd es) (hn : 33 < n) : ComOk n frz p (fun m => okM m = true) := fun k j hk hj => ⟨cM_ok hk hj, fun H Q q => c_common K hk hj hn q⟩
theorem foldM_le : ∀ (l : List Mem) (k : Mem), leM k (l.foldl cM k) = true ∧ ∀ x ∈ l, leM x (l.foldl cM k) = true
  | [], k => ⟨leM_refl k, fun _ h => nomatch h⟩
  | y :: r, k =>
    have h := foldM_le r (cM k y)
    have g := cM_le k y
    ⟨leM_trans g.1 h.1, fun z hz => (List.mem_cons.mp hz).elim (fun e => by rw [e]; exact leM_trans g.2 h.1) (h.2 z)⟩
end
section
variable {frz : Frz} {n m f : Nat} {as xs : List AV} {a : AV} {H H' : AH} {Q : K1} {p pd : Addr × Addr} {es : List (PyData × AV)} {Γ : Gam} {vs : Vars} {K : K2}
theorem q_un_bot (l : List Mem) : eqA (.py (unD l)) (.py botD) [] = some false := eqA_no (lf_un l) (show lf 1 botD = true by decide) rfl rfl fun h => nomatch (List.cons.inj (PyData.tuple.inj h)).2
theorem q_kv_bot (l : List Mem) : eqA (.py (kvD l)) (.py botD) [] = some false := by
  match l with
  | [] => exact q_un_bot _
  | [m] => exact q_bot m
  | _ :: _ :: _ => exact q_un_bot _
theorem c_membersK {l : List Mem} (hl : okK l) (hn : 13 < n) (q : Q (.ref H.length) (H ++ [.list (mds l)])) : (den tl.txt frz n).fn 3 [.py (kvD l)] H Q := by
  match l, hl with
  | [], h => exact absurd rfl h.ne
  | [m], h => exact fn_list (dn hn rfl) rfl (bd1 (bd2 (bd2 (bd2 (bd2 (bd2 (memTab_ok h.one))))))) q
  | x :: y :: r, h =>
    refine wpos hn (P := fun n => (den tl.txt frz n).fn 3 [.py (unD (x :: y :: r))] H Q) fun n hn => ?_
    have hr := h.len3
    generalize x :: y :: r = l at q hr ⊢
    refine fn_in D_members_of [some (.py (unD l))] rfl rfl rfl ?_
    refine gT (q_un_bot l) ?_
    refine gO (show callBA frz .list [.py (.tuple (l.map memD))] [] = some (.ref 0, [.list (mds l)]) from mds_eq l ▸ gB_of (room100 (show ((l.map memD).map AV.py).length ≤ 100 by rw [mds_eq, mds_len]; exact hr))) ?_
    exact ret_list (Nat.zero_le _) rfl (stills_mds _) q
theorem forL_buildG {α : Type} (R : α → Prop) (it : α → AV) (out : α → List AV) {chk : AH → Prop} {step : AV → Vars → AH → K2 → Prop} {X : AH} {P : Vars → Prop} (hc : ∀ ys, chk (X ++ [.list ys])) (ho : ∀ x, (out x).length ≤ 1)
    (hs : ∀ x ys vs K, R x → P vs → Nat.ble ys.length room = true → (∀ vs', P vs' → K .next vs' (X ++ [.list (ys ++ out x)])) → step (it x) vs (X ++ [.list ys]) K) :
    ∀ (l : List α) (ys : List AV) (vs : Vars) (K : K2), (∀ x ∈ l, R x) → P vs → ys.length + l.length ≤ 1000 → (∀ vs', P vs' → K .next vs' (X ++ [.list (ys ++ l.flatMap out)])) → forL chk step (l.map it) vs (X ++ [.list ys]) K
  | [], ys, vs, K, _, hp, _, q => ⟨hc ys, by have := q vs hp; rwa [List.flatMap_nil, List.append_nil] at this⟩
  | x :: r, ys, vs, K, hR, hp, hl, q => ⟨hc ys, hs x ys vs _ (hR x List.mem_cons_self) hp (room_le (m := 1000) (Nat.le_trans (Nat.le_add_right _ _) hl) rfl) fun vs' hp' => by
    have hx := ho x
    have hl : ys.length + (r.length + 1) ≤ 1000 := hl
    refine forL_buildG R it out hc ho hs r (ys ++ out x) vs' K (fun x hx => hR x (List.mem_cons_of_mem _ hx)) hp' (by rw [List.length_append]; omega) fun vs2 h2 => ?_
    have := q vs2 h2
    rwa [List.flatMap_cons, ← List.append_assoc] at this⟩
theorem flat1 {α : Type} (g : α → AV) : ∀ l : List α, (l.flatMap fun x => [g x]) = l.map g
  | [] => rfl
  | x :: r => congrArg (g x :: ·) (flat1 g r)
theorem flatF (g : Mem → Bool) : ∀ l : List Mem, (l.flatMap fun o => cond (g o) [] [AV.py (memD o)]) = mds (l.filter fun o => !g o)
  | [] => rfl
  | o :: r => by
    rw [List.flatMap_cons, flatF g r, List.filter_cons]
    cases g o <;> rfl
noncomputable def prn (kept : List Mem) (m : Mem) : List Mem := cond (kept.any (leM m)) kept (kept.filter (fun o => !leM o m) ++ [m])
theorem prn_m {kept : List Mem} {m : Mem} {P : List Mem → Prop} (h1 : kept.any (leM m) = true → P kept) (h2 : P (kept.filter (fun o => !leM o m) ++ [m])) : P (prn kept m) := by
  unfold prn
  cases h : kept.any (leM m) with
  | true => exact h1 h
  | false => exact h2
theorem prn_ok {kept : List Mem} {m : Mem} (h : kept.all okM = true) (hm : okM m = true) : (prn kept m).all okM = true :=
  prn_m (P := fun l => l.all okM = true) (fun _ => h) (by rw [List.all_append]; exact b2 (List.all_eq_true.mpr fun x hx => List.all_eq_true.mp h x (List.mem_filter.mp hx).1) (b2 hm rfl))
theorem prn_len {kept : List Mem} {m : Mem} : (prn kept m).length ≤ kept.length + 1 :=
  prn_m (P := fun l => l.length ≤ kept.length + 1) (fun _ => Nat.le_succ _) (by rw [List.length_append]; exact Nat.succ_le_succ (List.length_filter_le _ _))
theorem boolsOf_map (g : Mem → Bool) : ∀ (l : List Mem), boolsOf (l.map fun o => .py (.bool (g o))) = some (l.map g)
  | [] => rfl
  | x :: r => by show Option.map _ (boolsOf _) = _; rw [boolsOf_map g r]; rfl
theorem any_of {F : Frz} {X : AH} (l : List Mem) (g : Mem → Bool) : callBA F .any [.ref X.length] (X ++ [.list (l.map fun o => .py (.bool (g o)))]) = some (.b (l.any g), X ++ [.list (l.map fun o => .py (.bool (g o)))]) := by
  show Option.bind (hL _ _) _ = _
  rw [hlast]; show Option.map _ (boolsOf _) = _
  rw [boolsOf_map, ← show (l.map g).any id = l.any g from List.any_map]; rfl
noncomputable def pruBody : CSs := loopS (hdS (tlS D_pruned_members.body))
theorem pru_loop (K : KA frz p pd es) (hn : 28 < n) {wl : List AV} {j : Nat} {s1 : AV} (l : List Mem) : ∀ (H : AH) (kept : List Mem) (c : Nat) (u : Option AV) (K2 : K2), l.all okM = true → kept.all okM = true → kept.length + l.length ≤ 500 → H[j]? = some (.list wl) → H[c]? = some (.list (mds kept)) →
    (∀ H' c' v, H'[c']? = some (.list (mds (l.foldl prn kept))) → K2 .next [some (.fro p), some s1, some (.ref c'), v] H') →
    forL (chkA (.ref j) wl) (forStep (eSs (den tl.txt frz n) pruBody) (.one 3)) (mds l) [some (.fro p), some s1, some (.ref c), u] H K2 := by
  induction l with
  | nil => exact fun H kept c u K2 _ _ _ hj hc q => ⟨hj, q H c u hc⟩
  | cons m l ih =>
    intro H kept c u K2 hok hkept hlen hj hc q
    have hlen : kept.length + (l.length + 1) ≤ 500 := hlen
    refine ⟨hj, ?_⟩
    have hks : ∀ o ∈ kept, okM o = true := fun o ho => List.all_eq_true.mp hkept o ho
    refine oP_of (it_of hc) ?_
    refine forL_buildG (fun o => okM o = true) (fun o => .py (memD o)) (fun o => [.py (.bool (leM m o))]) (P := fun vs => ∃ u, vs = [some (.fro p), some (.py (memD m)), u]) (fun ys => Pre.refl.app _ _ hc) (fun _ => Nat.le_refl _) (fun o ys vs K' ho hv hy q => hv.elim fun u hv => ?_) kept [] _ _ hks ⟨none, rfl⟩ (len0 (by omega)) fun vs hv => ?_
    · subst hv
      refine c_subM K (bd1 hok) ho hn ?_
      refine oP_of (app_last hy) ?_
      exact q _ ⟨_, rfl⟩
    · rw [List.nil_append, flat1]
      refine gO (any_of kept (leM m)) ?_
      cases ha : kept.any (leM m) with
      | true =>
        have e : prn kept m = kept := congrArg (cond · _ _) ha
        refine ih _ kept c _ K2 (bd2 hok) hkept (by omega) (Pre.refl.app _ _ hj) (Pre.refl.app _ _ hc) fun H' c' v h => q H' c' v ?_
        rw [List.foldl_cons, e]; exact h
      | false =>
        have e : prn kept m = kept.filter (fun o => !leM o m) ++ [m] := congrArg (cond · _ _) ha
        generalize hX : H ++ [AO.list (kept.map fun o => .py (.bool (leM m o)))] = X
        have kX : Pre H X := hX ▸ Pre.refl.app
        have hcX := kX _ _ hc
        refine oP_of (it_of hcX) ?_
        refine forL_buildG (fun o => okM o = true) (fun o => .py (memD o)) (fun o => cond (leM o m) [] [.py (memD o)]) (P := fun vs => ∃ u, vs = [some (.fro p), some (.py (memD m)), u]) (fun ys => Pre.refl.app _ _ hcX) (fun o => by cases leM o m <;> exact Nat.le_of_ble_eq_true rfl) (fun o ys vs K' ho hv hy q => hv.elim fun u hv => ?_) kept [] _ _ hks ⟨none, rfl⟩ (len0 (by omega)) fun vs hv => ?_
        · subst hv
          refine c_subM K ho (bd1 hok) hn ?_
          cases hom : leM o m with
          | true =>
            rw [hom] at q
            have := q [some (.fro p), some (.py (memD m)), some (.py (memD o))] ⟨_, rfl⟩
            rw [show ys ++ cond true [] [AV.py (memD o)] = ys from List.append_nil _] at this
            exact this
          | false =>
            rw [hom] at q
            refine oP_of (app_last hy) ?_
            exact q _ ⟨_, rfl⟩
        · rw [flatF (fun o => leM o m), List.nil_append]
          have hfl := List.length_filter_le (fun o => !leM o m) kept
          refine gO (add_to (ys := [.py (memD m)]) (hpre hlast) hlast (room_le (m := 501) (by rw [mds_len]; show _ + 1 ≤ _; omega) rfl) (show mds (kept.filter fun o => !leM o m) ++ mds [m] = mds (prn kept m) by rw [e, mds_app])) ?_
          have hpl := prn_len (kept := kept) (m := m)
          exact ih _ (prn kept m) _ _ K2 (bd2 hok) (prn_ok hkept (bd1 hok)) (by omega) ((kX.app.app.app : Pre H _) _ _ hj) glast fun H' c' v h => q H' c' v h
theorem fold_prn_ok : ∀ (l kept : List Mem), l.all okM = true → kept.all okM = true → (l.foldl prn kept).all okM = true
  | [], _, _, h => h
  | m :: l, kept, hl, hk => fold_prn_ok l _ (bd2 hl) (prn_ok hk (bd1 hl))
theorem leL_app {a b c : List Mem} : leL (a ++ b) c = (leL a c && leL b c) := List.all_append
theorem prn_cov {kept : List Mem} {m : Mem} : leL (kept ++ [m]) (prn kept m) = true :=
  prn_m (P := fun l => leL (kept ++ [m]) l = true) (fun h => leL_app.trans (b2 (leL_refl kept) (b2 h rfl))) (List.all_eq_true.mpr fun x hx => (List.mem_append.mp hx).elim (fun hx => by
    cases h : leM x m with
    | true => exact List.any_eq_true.mpr ⟨m, List.mem_append_right _ List.mem_cons_self, h⟩
    | false => exact List.any_eq_true.mpr ⟨x, List.mem_append.mpr (.inl (List.mem_filter.mpr ⟨hx, by rw [h]; rfl⟩)), leM_refl x⟩) fun hx => List.any_eq_true.mpr ⟨x, List.mem_append_right _ hx, leM_refl x⟩)
theorem fold_prn_cov : ∀ (l kept : List Mem), leL (kept ++ l) (l.foldl prn kept) = true
  | [], kept => by rw [List.append_nil]; exact leL_refl kept
  | m :: l, kept => by
    have h1 := leL_app.symm.trans (prn_cov (kept := kept) (m := m))
    have h2 := leL_app.symm.trans (fold_prn_cov l (prn kept m))
    rw [List.foldl_cons, List.append_cons, leL_app, leL_app]
    exact b2 (b2 (leL_trans (bd1 h1) (bd1 h2)) (leL_trans (bd2 h1) (bd1 h2))) (bd2 h2)
theorem fold_prn_len : ∀ (l kept : List Mem), (l.foldl prn kept).length ≤ kept.length + l.length
  | [], _ => Nat.le_refl _
  | m :: l, kept => by
    have h1 := fold_prn_len l (prn kept m)
    have h2 := prn_len (kept := kept) (m := m)
    show (l.foldl prn (prn kept m)).length ≤ kept.length + (l.length + 1)
    omega
theorem c_pruned (K : KA frz p pd es) {l : List Mem} (hl : okK l) (hn : 28 < n) (q : Q (.ref H.length) (H ++ [.list (mds (l.foldl prn []))])) : (den tl.txt frz (n + 1)).fn 29 [.fro p, .py (kvD l)] H Q := by
  refine fn_in D_pruned_members [some (.fro p), some (.py (kvD l)), none, none] rfl rfl rfl ?_
  refine c_membersK hl (dn hn rfl) ?_
  refine oP_of it_last ?_
  refine pru_loop K hn l _ [] 0 none _ hl.ok rfl (len0 (Nat.le_trans hl.len (by decide))) glast rfl fun H' c' v h => ?_
  exact ret_list (Nat.zero_le _) h (stills_mds _) q
end
section
variable {frz : Frz} {n m f : Nat} {as xs : List AV} {a : AV} {H H' : AH} {Q : K1} {p pd : Addr × Addr} {es : List (PyData × AV)} {Γ : Gam} {vs : Vars} {K : K2}
theorem okK.up {d : List Mem} (h1 : ∀ x ∈ d, okM x = true) (hne : d ≠ []) (hl : d.length ≤ 60) : okK d := ⟨hne, List.all_eq_true.mpr h1, hl⟩
theorem ne_mem {l : List Mem} (h : l ≠ []) : ∃ x, x ∈ l := List.exists_mem_of_ne_nil l h
theorem uni_ok {l d : List Mem} (hok : l.all okM = true) (hne : l ≠ []) (hl : l.length ≤ 60) (h : UniOk (addAll [] l) d) : okK d ∧ leL l d = true ∧ d.length ≤ l.length := by
  have hlen := addAll_len l []
  rw [List.length_nil, Nat.zero_add] at hlen
  unfold UniOk at h
  by_cases hc : (addAll [] l).contains (.n .An) = true
  · rw [if_pos hc] at h
    subst h
    exact ⟨okK_An, leL_An l, List.length_pos_iff.mpr hne⟩
  · rw [if_neg hc] at h
    have hm : ∀ x, x ∈ d ↔ x ∈ l := fun x => h.mem_iff.trans ((mem_addAll l [] x).trans ⟨fun z => z.elim (fun z => nomatch z) id, .inr⟩)
    have hd := h.length_eq
    exact ⟨okK.up (fun x hx => List.all_eq_true.mp hok x ((hm x).mp hx)) (fun e => (ne_mem hne).elim fun x hx => by rw [e] at hm; exact nomatch (hm x).mpr hx) (by omega), List.all_eq_true.mpr fun x hx => List.any_eq_true.mpr ⟨x, (hm x).mpr hx, leM_refl x⟩, by omega⟩
theorem kvs1 (l : List Mem) : kvs (l.map fun m => [m]) = mds l := List.map_map
theorem c_unionM {l : List Mem} (hok : l.all okM = true) (hne : l ≠ []) (hlen : l.length ≤ 6) (hn : 14 < n) {j : Nat} (hj : H[j]? = some (.list (mds l))) (q : ∀ d, okK d → leL l d = true → d.length ≤ l.length → Q (.py (kvD d)) H) : (den tl.txt frz n).fn 2 [.ref j] H Q := by
  refine wpos hn (P := fun n => (den tl.txt frz n).fn 2 [.ref j] H Q) fun n hn => ?_
  have hf := flat_one l
  have h6 := addAll_len l []
  rw [List.length_nil] at h6
  refine c_union (ks := l.map fun m => [m]) (fun x hx => (List.mem_map.mp hx).elim fun m hm => hm.2 ▸ okK_one (List.all_eq_true.mp hok m hm.1)) (fun e => hne (List.map_eq_nil_iff.mp e)) (by rw [hf]; omega) (by rw [hf]; omega) (by rw [wgU_one]; omega) hn (by rw [kvs1]; exact hj) fun d hd => ?_
  rw [hf] at hd
  have z := uni_ok hok hne (Nat.le_trans hlen (by decide)) hd
  exact q d z.1 z.2.1 z.2.2
theorem c_few (K : KA frz p pd es) {l : List Mem} (hl : okK l) (h6 : l.length ≤ 6) (hn : 35 < n) (q : ∀ d, okK d → d.length ≤ 3 → leL l d = true → Q (.py (kvD d)) H) : (den tl.txt frz n).fn 30 [.fro p, .py (kvD l)] H Q := by
  obtain ⟨n, rfl⟩ : ∃ j, n = j + 2 := ⟨n - 2, by omega⟩
  have h33 : 33 < n := by omega
  refine fn_in D_few_members [some (.fro p), some (.py (kvD l)), none] rfl rfl rfl ?_
  refine c_pruned (n := n) K hl (dn h33 rfl) ?_
  have hcov := fold_prn_cov l []
  rw [List.nil_append] at hcov
  have hok := fold_prn_ok l [] hl.ok rfl
  have hlen := fold_prn_len l []
  rw [List.length_nil, Nat.zero_add] at hlen
  have hne : l.foldl prn [] ≠ [] := fun e => (ne_mem hl.ne).elim fun x hx => by
    have := List.all_eq_true.mp hcov x hx
    rw [e] at this; exact bf this
  generalize l.foldl prn [] = d at hcov hok hlen hne ⊢
  refine gO (len_of (j := 0) (ys := mds d) rfl (room100 (by rw [mds_len]; omega))) ?_
  by_cases h3 : d.length ≤ 3
  · refine cT (decide_eq_true (show ((mds d).length : Int) ≤ 3 by rw [mds_len]; omega)) ?_
    refine c_unionM hok hne (Nat.le_trans hlen h6) (Nat.lt_succ_of_lt (dn h33 rfl)) rfl fun d2 a1 a2 a3 => ?_
    exact ret_py (q d2 a1 (Nat.le_trans a3 h3) (leL_trans hcov a2))
  · refine cF (decide_eq_false (show ¬ ((mds d).length : Int) ≤ 3 by rw [mds_len]; omega)) ?_
    cases d with
    | nil => exact absurd rfl hne
    | cons k r =>
      refine c_commonall (n := n) (comM K h33) (bd1 hok) (fun x hx => List.all_eq_true.mp (bd2 hok) x hx) rfl fun hp => ?_
      have g := foldM_le r k
      exact ret_py (q [r.foldl cM k] (okK_one hp) (by decide : 1 ≤ 3) (leL_trans hcov (List.all_eq_true.mpr fun x hx => List.any_eq_true.mpr ⟨r.foldl cM k, List.mem_cons_self, (List.mem_cons.mp hx).elim (fun e => by rw [e]; exact g.1) (g.2 x)⟩)))
theorem c_small4 {k : Mem} (hk : okM k = true) (hn : 12 < n) (q : Q (.b true) H) : (den tl.txt frz n).fn 27 [.py (memD k), .i 4] H Q := fn_py hn rfl (bd1 (bd2 (bd2 (bd2 (bd2 (bd2 (bd2 (bd2 (bd2 (memTab_ok hk)))))))))) q
theorem c_small3 {k : Mem} (hk : okM k = true) (hn : 12 < n) (q : Q (.b true) H) : (den tl.txt frz n).fn 27 [.py (memD k), .i 3] H Q := fn_py hn rfl (bd1 (bd2 (bd2 (bd2 (bd2 (bd2 (bd2 (bd2 (bd2 (bd2 (memTab_ok hk))))))))))) q
theorem c_cutN {x : Nm} (hn : 13 < n) (q : Q (.py (nmD x)) H) : (den tl.txt frz (n + 1)).fn 28 [.fro p, .py (nmD x), .py (.int 3)] H Q := by
  refine fn_in D_cut [some (.fro p), some (.py (nmD x)), some (.py (.int 3)), none, none] rfl rfl rfl ?_
  refine c_small3 (k := .n x) rfl (dn hn rfl) ?_
  exact ret_py q
theorem c_cutT {k : Mem} (ht : isTup k = true) (hn : 15 < n) (q : Q (.py (memD k)) H) : (den tl.txt frz (n + 1)).fn 26 [.fro p, .py (memD k), .py (.int 4)] H Q := by
  obtain ⟨n, rfl⟩ : ∃ j, n = j + 1 := ⟨n - 1, by omega⟩
  have hn : 13 < n := by omega
  refine fn_in D_cut_tuple [some (.fro p), some (.py (memD k)), some (.py (.int 4)), none, none, none] rfl rfl rfl ?_
  cases k with
  | n x => exact bf ht
  | t1 x =>
    refine ⟨trivial, ?_⟩; refine c_cutN hn ⟨trivial, ?_⟩
    exact c_tupleof2 (ds := [_]) rfl (Nat.le_of_ble_eq_true rfl) (ret_py q)
  | t2 x y =>
    refine ⟨trivial, ?_⟩; refine c_cutN hn ⟨trivial, ?_⟩; refine c_cutN hn ⟨trivial, ?_⟩
    exact c_tupleof2 (ds := [_, _]) rfl (Nat.le_of_ble_eq_true rfl) (ret_py q)
  | r x =>
    refine ⟨trivial, ?_⟩; refine c_cutN hn ?_
    exact c_tupleof2 (ds := []) rfl (Nat.le_of_ble_eq_true rfl) (ret_py q)
theorem c_cutM {k : Mem} (hk : okM k = true) (hn : 17 < n) (q : Q (.py (memD k)) H) : (den tl.txt frz n).fn 28 [.fro p, .py (memD k), .py (.int 4)] H Q := by
  obtain ⟨n, rfl⟩ : ∃ j, n = j + 2 := ⟨n - 2, by omega⟩
  have hn : 15 < n := by omega
  refine fn_in D_cut [some (.fro p), some (.py (memD k)), some (.py (.int 4)), none, none] rfl rfl rfl ?_
  cases k with
  | n x =>
    refine c_small4 (k := .n x) hk (Nat.lt_succ_of_lt (dn hn rfl)) ?_
    exact ret_py q
  | t1 x => exact c_cutT (k := .t1 x) rfl hn (ret_py q)
  | t2 x y => exact c_cutT (k := .t2 x y) rfl hn (ret_py q)
  | r x => exact c_cutT (k := .r x) rfl hn (ret_py q)
theorem c_cutK (K : KA frz p pd es) {l : List Mem} (hl : okK l) (h6 : l.length ≤ 6) (hn : 38 < n) (q : ∀ d, okK d → d.length ≤ 3 → leL l d = true → Q (.py (kvD d)) H) : (den tl.txt frz n).fn 28 [.fro p, .py (kvD l), .py (.int 4)] H Q := by
  match l, hl with
  | [], h => exact absurd rfl h.ne
  | [k], h => exact c_cutM h.one (dn hn rfl) (q [k] h (by decide : 1 ≤ 3) (leL_refl _))
  | x :: y :: r, h =>
    refine wpos hn (P := fun n => (den tl.txt frz n).fn 28 [.fro p, .py (unD (x :: y :: r)), .py (.int 4)] H Q) fun n hn => ?_
    have h2 : (x :: y :: r).length ≠ 1 := nofun
    generalize x :: y :: r = l at q h h2 h6 ⊢
    refine fn_in D_cut [some (.fro p), some (.py (unD l)), some (.py (.int 4)), none, none] rfl rfl rfl ?_
    have hmem : ∀ (H : AH) (Q : K1), Q (.ref H.length) (H ++ [.list (mds l)]) → (den tl.txt frz n).fn 3 [.py (unD l)] H Q := fun H Q q => by
      rw [← kvD_un h2]; exact c_membersK h (dn hn rfl) q
    refine hmem _ _ ?_
    refine forL_buildG (fun o => okM o = true) (fun o => .py (memD o)) (fun o => [.py (memD o)]) (chk := chkA (.ref 0) (mds l)) (X := [.list (mds l)]) (P := fun vs => ∃ u, vs = [some (.fro p), some (.py (.int 4)), u]) (fun ys => rfl) (fun _ => Nat.le_refl _) (fun o ys vs K' ho hv hy q => hv.elim fun u hv => ?_) l [] _ _ (fun o ho => List.all_eq_true.mp h.ok o ho) ⟨none, rfl⟩ (len0 (Nat.le_trans h6 (by decide))) fun vs hv => ?_
    · subst hv
      refine c_cutM ho (dn hn rfl) ?_
      refine oP_of (app_last (X := [_]) hy) ?_
      exact q _ ⟨_, rfl⟩
    · rw [List.nil_append, flat1]
      refine c_unionM (l := l) h.ok h.ne h6 (dn hn rfl) rfl fun d a1 a2 a3 => ?_
      refine c_few K a1 (Nat.le_trans a3 h6) (dn hn rfl) fun d2 b1 b2 b3 => ?_
      have cov := leL_trans a2 b3
      match d2, b1, b2, cov with
      | [], b1, _, _ => exact absurd rfl b1.ne
      | [k], b1, b2, cov =>
        refine gA (sub_w frz k) ?_
        refine gT (w_union k) ?_
        exact c_cutM b1.one (dn hn rfl) (ret_py (q [k] b1 b2 cov))
      | x :: y :: r, b1, b2, cov => exact ret_py (q (x :: y :: r) b1 b2 cov)
theorem c_widen (K : KA frz p pd es) {l : List Mem} (hl : okK l) (h6 : l.length ≤ 6) (hn : 40 < n) (q : ∀ d, okK d → d.length ≤ 3 → leL l d = true → Q (.py (kvD d)) H) : (den tl.txt frz n).fn 31 [.fro p, .py (kvD l)] H Q := by
  refine wpos hn (P := fun n => (den tl.txt frz n).fn 31 [.fro p, .py (kvD l)] H Q) fun n hn => ?_
  refine fn_in D_widened_lattice [some (.fro p), some (.py (kvD l))] rfl rfl rfl ?_
  exact c_cutK K hl h6 (dn hn rfl) fun d a1 a2 a3 => ret_py (q d a1 a2 a3)
end
section
variable {frz : Frz} {n m f : Nat} {as xs : List AV} {a : AV} {H H' : AH} {Q : K1} {p pd : Addr × Addr} {es : List (PyData × AV)} {Γ : Gam} {vs : Vars} {K : K2}
noncomputable def whD (a b c : Nm) : PyData := .tuple [.str "tuple", .tuple [unD [.n a, .n b], nmD c], .none]
noncomputable def nm5 : List Nm := [.I8, .Ch, .I64, .St, .In]
theorem lf_wh (a b c : Nm) : lf 8 (whD a b c) = true := nm_all2 (p := fun a b => allNm.all fun c => lf 8 (whD a b c)) (by decide +kernel) a b |> fun h => nm_all h c
theorem mem_ne_wh {k : Mem} {a b c : Nm} : memD k ≠ whD a b c := fun h => by
  cases k with
  | n x => exact nt (tin h).1
  | t1 x => exact nomatch (tuh (tin h).2.1).2
  | t2 x y => exact nomatch (List.cons.inj (tuh (tuh (tin h).2.1).1).2).2
  | r x => exact nomatch (tin h).2.2
theorem un_ne_wh {l : List Mem} {a b c : Nm} : unD l ≠ whD a b c := fun h => nomatch (List.cons.inj (tuh h).2).2
theorem kv_ne_wh {l : List Mem} {a b c : Nm} : kvD l ≠ whD a b c := by
  match l with
  | [] => exact un_ne_wh
  | [m] => exact mem_ne_wh
  | _ :: _ :: _ => exact un_ne_wh
theorem q_mem_wh (k : Mem) (a b c : Nm) : eqA (.py (memD k)) (.py (whD a b c)) [] = some false := eqA_no (lf_mem k) (lf_wh a b c) rfl rfl mem_ne_wh
theorem q_kv_wh (l : List Mem) (a b c : Nm) : eqA (.py (kvD l)) (.py (whD a b c)) [] = some false := eqA_no (lf_kv l) (lf_wh a b c) rfl rfl kv_ne_wh
theorem q_wh_kv (l : List Mem) (a b c : Nm) : eqA (.py (whD a b c)) (.py (kvD l)) [] = some false := eqA_no (lf_wh a b c) (lf_kv l) rfl rfl kv_ne_wh.symm
theorem q_wh_any (a b c : Nm) : eqA (.py (whD a b c)) (.py (nmD .An)) [] = some false := q_wh_kv [.n .An] a b c
theorem q_wh_bot (a b c : Nm) : eqA (.py (whD a b c)) (.py botD) [] = some false := eqA_no (lf_wh a b c) (show lf 1 botD = true by decide) rfl rfl fun h => nomatch (tuh h).2
noncomputable def whTab (frz : Frz) (a b c : Nm) : Bool := okPy (cev frz 14 10 [.py (whD a b c)]) (.i 3) && (okPy (cev frz 14 11 [.py (whD a b c)]) (.i 5) && okL (cev frz 14 12 [.py (whD a b c)]) (mds [.t2 a c, .t2 b c]))
theorem wt_I8 (frz : Frz) : (nm5.all fun b => nm5.all fun c => whTab frz .I8 b c) = true := by kernel_rfl
theorem wt_Ch (frz : Frz) : (nm5.all fun b => nm5.all fun c => whTab frz .Ch b c) = true := by kernel_rfl
theorem wt_I64 (frz : Frz) : (nm5.all fun b => nm5.all fun c => whTab frz .I64 b c) = true := by kernel_rfl
theorem wt_St (frz : Frz) : (nm5.all fun b => nm5.all fun c => whTab frz .St b c) = true := by kernel_rfl
theorem wt_In (frz : Frz) : (nm5.all fun b => nm5.all fun c => whTab frz .In b c) = true := by kernel_rfl
theorem all5 {q : Nm → Nm → Nm → Bool} (h0 : (nm5.all fun b => nm5.all fun c => q .I8 b c) = true) (h1 : (nm5.all fun b => nm5.all fun c => q .Ch b c) = true) (h2 : (nm5.all fun b => nm5.all fun c => q .I64 b c) = true) (h3 : (nm5.all fun b => nm5.all fun c => q .St b c) = true) (h4 : (nm5.all fun b => nm5.all fun c => q .In b c) = true) : (nm5.all fun a => nm5.all fun b => nm5.all fun c => q a b c) = true := List.all_eq_true.mpr fun x hx => by
  cases x <;> first | assumption | exact absurd hx (by decide)
theorem wtab (frz : Frz) : (nm5.all fun a => nm5.all fun b => nm5.all fun c => whTab frz a b c) = true := all5 (q := whTab frz) (wt_I8 frz) (wt_Ch frz) (wt_I64 frz) (wt_St frz) (wt_In frz)
theorem whTab_ok {a b c : Nm} (ha : a ∈ nm5) (hb : b ∈ nm5) (hc : c ∈ nm5) : whTab frz a b c = true := List.all_eq_true.mp (List.all_eq_true.mp (List.all_eq_true.mp (wtab frz) a ha) b hb) c hc
theorem shal_wh {a b c : Nm} (ha : a ∈ nm5) (hb : b ∈ nm5) (hc : c ∈ nm5) (hn : 14 < n) : Shal n frz (whD a b c) := fun H Q q => fn_py hn rfl (bd1 (whTab_ok ha hb hc)) (q 3 (by decide))
theorem sized_wh {a b c : Nm} (ha : a ∈ nm5) (hb : b ∈ nm5) (hc : c ∈ nm5) (hn : 14 < n) : Sized n frz (whD a b c) := fun H Q q => fn_py hn rfl (bd1 (bd2 (whTab_ok ha hb hc))) (q 5 (by decide) (by decide))
theorem cases_wh {a b c : Nm} (ha : a ∈ nm5) (hb : b ∈ nm5) (hc : c ∈ nm5) (hn : 14 < n) : Cases n frz (whD a b c) [.t2 a c, .t2 b c] := fun H Q q => fn_list hn rfl (bd2 (bd2 (whTab_ok ha hb hc))) q
theorem c_subWK (K : KA frz p pd es) {a b c : Nm} (ha : a ∈ nm5) (hb : b ∈ nm5) (hc : c ∈ nm5) (h7a : okM (.t2 a c) = true) (h7b : okM (.t2 b c) = true) {l' : List Mem} (h' : okK l') (hn : 28 < n) (q : Q (.py (.bool (leL [.t2 a c, .t2 b c] l'))) H) : (den tl.txt frz n).fn 18 [.fro p, .py (whD a b c), .py (kvD l')] H Q := by
  obtain ⟨n, rfl⟩ : ∃ m, n = m + 3 := ⟨n - 3, by omega⟩
  have hn : 25 < n := by omega
  refine c_sub (dn hn rfl) (q_wh_kv l' a b c) (q_kv_any h') (shal_wh ha hb hc (Nat.lt_succ_of_lt (dn hn rfl))) (shal_kv h' (Nat.lt_succ_of_lt (dn hn rfl))) (sized_kv h' (by omega)) (cb := [(.t2 a c, l'.any fun d => leM (.t2 a c) d), (.t2 b c, l'.any fun d => leM (.t2 b c) d)]) (cases_wh ha hb hc (by omega)) (fun x hx => (List.mem_cons.mp hx).elim (fun e => e ▸ ⟨h7a, runf_kv K (dn hn rfl) h7a h'⟩) fun hx => (List.mem_singleton.mp hx) ▸ ⟨h7b, runf_kv K (dn hn rfl) h7b h'⟩) ?_
  have e : (false || decide (l' = [.n .An]) || [((.t2 a c : Mem), l'.any fun d => leM (.t2 a c) d), (.t2 b c, l'.any fun d => leM (.t2 b c) d)].all (·.2)) = leL [.t2 a c, .t2 b c] l' := by
    by_cases e2 : l' = [.n .An]
    · subst e2; rw [leL_An]; rfl
    · rw [decide_eq_false e2]; rfl
  rw [e]; exact q
theorem c_twW {x y a b c : Nm} (hk : okM (.t2 x y) = true) (hn : 12 < n) (q : ∀ H' w, Pre H H' → Ways H.length H' w (some [goalD (nmD x) (unD [.n a, .n b]), goalD (nmD y) (nmD c)]) → Q (.ref w) H') :
    (den tl.txt frz (n + 1)).fn 17 [.py (memD (.t2 x y)), .py (whD a b c)] H Q := by
  obtain ⟨n, rfl⟩ : ∃ j, n = j + 1 := ⟨n - 1, by omega⟩
  refine fn_do D_tuple_ways [some (.py (memD (.t2 x y))), some (.py (whD a b c)), none, none, none, none, none] rfl rfl ?_
  refine c_tail (k := .t2 x y) hk rfl hn ?_
  refine fn_in D_tail_of [some (.py (whD a b c))] rfl rfl rfl (ret_py ?_)
  refine ⟨trivial, oP_of (app_last rfl) ⟨trivial, oP_of (app_last rfl) ⟨trivial, ?_⟩⟩⟩
  refine gO (add_ref (xs := [.py (goalD (nmD x) (unD [.n a, .n b])), .py (goalD (nmD y) (nmD c))]) (hpre hlast) hlast rfl) ?_
  exact tw_end (l := [.py (goalD (nmD x) (unD [.n a, .n b])), .py (goalD (nmD y) (nmD c))]) q rfl
theorem c_stepW {x y a b c : Nm} (hk : okM (.t2 x y) = true) (hn : 14 < n) {i kd sd rd : Nat} {f : Int} (h : H[i]? = some (srch p f kd)) (hs : H[sd]? = some (sid rd)) (q : ∀ H' w, Pre H H' → Ways H.length H' w (some [goalD (nmD x) (unD [.n a, .n b]), goalD (nmD y) (nmD c)]) → Q (.ref w) H') :
    (den tl.txt frz (n + 5)).me 0 "step" [.ref i, .py (goalD (memD (.t2 x y)) (whD a b c)), .ref sd] H Q := by
  refine me_do D_Search_step [some (.ref i), some (.py (goalD (memD (.t2 x y)) (whD a b c))), some (.ref sd), none, none, none] rfl (by kernel_rfl) ?_
  refine gT (q_mem_wh (.t2 x y) a b c) ?_
  refine c_empty (k := .t2 x y) hk (Nat.lt_of_le_of_lt (by decide) (Nat.lt_of_lt_of_le hn (Nat.le_add_right n 4))) ?_
  refine gT (q_wh_any a b c) ?_
  refine oP_of (dm (x := "is_asked") hs) ?_
  refine c_isasked (w := "tuple") rfl rfl ?_
  refine oP_of (dm (x := "is_asked") hs) ?_
  refine c_isasked (w := "tuple") rfl rfl ?_
  refine oP_of (sm (x := "by_form") h) ?_
  refine me_do D_Search_by_form [some (.ref i), some (.py (memD (.t2 x y))), some (.py (whD a b c)), some (.ref sd), none, none, none, none, none] rfl (by kernel_rfl) ?_
  refine gT (ne_ref (q_new (X := H) (eqL_one (lf_mem (.t2 x y)) (lf_mem (.t2 x y)) rfl rfl (eqv_refl (lf_mem (.t2 x y)))))) ?_
  refine oP_of (sm (x := "plain") ((Pre.refl.app.app : Pre H (H ++ [AO.list [.py (memD (.t2 x y))]] ++ [AO.list [.py (memD (.t2 x y))]])) _ _ h)) ?_
  refine me_do D_Search_plain [some (.ref i), some (.py (memD (.t2 x y))), some (.py (whD a b c)), none] rfl (by kernel_rfl) ?_
  exact c_twW hk (Nat.lt_succ_of_lt (dn hn rfl)) fun H' w a b => q H' w (Pre.refl.app.app.trans a) (b.le (Nat.le_trans le_app le_app))
theorem runf_wh (K : KA frz p pd es) (hn : 25 < n) {x y a b c : Nm} (hk : okM (.t2 x y) = true) (hle : ([Mem.n a, .n b].any fun d => leM (.n x) d) = true) (hc : leN y c = true) : RunF n frz p (goalD (memD (.t2 x y)) (whD a b c)) true := by
  obtain ⟨n, rfl⟩ : ∃ m, n = m + 5 := ⟨n - 5, by omega⟩
  have g0 : G0 (n + 5) frz p (goalD (memD (.t2 x y)) (whD a b c)) (some [goalD (nmD x) (unD [.n a, .n b]), goalD (nmD y) (nmD c)]) := fun H i kd sd rd f Q h1 h2 q => c_stepW hk (by omega) h1 h2 q
  have g1 := gi_of g0
  have g2 := gi_of (g0_mem (n := n + 5) K (k := .n y) (j := .n c) rfl rfl (by omega))
  rw [ways_nm, hc] at g2
  have g3 := gi_un (p := p) (frz := frz) (k := .n x) rfl (l := [.n a, .n b]) (bs := [Mem.n a, .n b].map fun b => leM (.n x) b) rfl rfl (Nat.le_of_ble_eq_true rfl) (Nat.le_of_ble_eq_true rfl) (n := n + 2) (by omega) fun g hg => by
    rw [List.zip_map', List.mem_map] at hg
    obtain ⟨b', hb, rfl⟩ := hg
    exact run_mem K (by omega) rfl ((List.mem_cons.mp hb).elim (fun e => e ▸ rfl) fun hb => (List.mem_singleton.mp hb) ▸ rfl)
  rw [show ([Mem.n a, .n b].map fun b => leM (.n x) b).any id = true by rw [List.any_map]; exact hle] at g3
  have r3 := Run.step (pre := []) (ws := []) g3 (by omega) (by decide) (by decide) .done rfl
  have r2 := Run.step (pre := [goalD (nmD x) (unD [.n a, .n b])]) (ws := []) g2 (by omega) (Nat.le_of_ble_eq_true rfl) (by decide) r3 rfl
  have r1 := Run.step (pre := []) g1 (by omega) (by decide) (Nat.le_of_ble_eq_true rfl) r2 rfl
  exact ⟨_, _, _, Int.le_of_sub_nonneg (Int.ofNat_nonneg _), Nat.le_of_ble_eq_true rfl, r1⟩
end
section
variable {frz : Frz} {n m f : Nat} {as xs : List AV} {a : AV} {H H' : AH} {Q : K1} {p pd : Addr × Addr} {es : List (PyData × AV)} {Γ : Gam} {vs : Vars} {K : K2}
theorem c_elemG {d : PyData} {w : PySem.Str} (h4 : ∀ H, subA frz (.py d) (.py (.int 0)) H = some (.py (.str w))) (h5 : eqA (.py (.str w)) (.py (.str "const")) [] = some false) (q : Q (.py d) H) : (den tl.txt frz (n + 1)).fn 20 [.py d] H Q := by
  refine fn_in D_kind_of_element [some (.py d)] rfl rfl rfl ?_
  refine gA (h4 _) ?_
  refine gT h5 ?_
  exact ret_py q
noncomputable def wK : List Mem → PySem.Str
  | [m] => wM m
  | _ => "union"
theorem kv_w (F : Frz) (l : List Mem) (H : AH) : subA F (.py (kvD l)) (.py (.int 0)) H = some (.py (.str (wK l))) := by
  match l with
  | [] => rfl
  | [m] => exact sub_w F m
  | _ :: _ :: _ => rfl
theorem kv_const (l : List Mem) : eqA (.py (.str (wK l))) (.py (.str "const")) [] = some false := by
  match l with
  | [] => rfl
  | [m] => exact w_const m
  | _ :: _ :: _ => rfl
theorem c_within {A B A' : PyData} {e r : Bool} {w : PySem.Str} (h1 : eqA (.py A) (.py B) [] = some e) (h2 : eqA (.py A) (.py botD) [] = some false) (h3 : eqA (.py B) (.py botD) [] = some false) (h4 : ∀ H, subA frz (.py B) (.py (.int 0)) H = some (.py (.str w))) (h5 : eqA (.py (.str w)) (.py (.str "const")) [] = some false)
    (hk : ∀ (H : AH) (Q : K1), Q (.py A') H → (den tl.txt frz n).fn 20 [.py A] H Q) (hs : ∀ (H : AH) (Q : K1), Q (.py (.bool r)) H → (den tl.txt frz n).fn 18 [.fro p, .py A', .py B] H Q) (q : Q (.py (.bool (e || r))) H) : (den tl.txt frz (n + 1)).fn 21 [.fro p, .py A, .py B] H Q := by
  refine fn_in D_is_within [some (.fro p), some (.py A), some (.py B)] rfl rfl rfl ?_
  refine gT h1 ?_
  cases e with
  | true => exact ret_py q
  | false =>
    refine gT h2 ?_
    refine gT h3 ?_
    refine gA (h4 _) ?_
    refine gT h5 ?_
    refine hk _ _ ?_
    refine hs _ _ ?_
    exact ret_py q
theorem c_withinK (K : KA frz p pd es) {l l' : List Mem} (h : okK l) (h' : okK l') (hn : 29 < n) (q : Q (.py (.bool (leL l l'))) H) : (den tl.txt frz n).fn 21 [.fro p, .py (kvD l), .py (kvD l')] H Q := by
  obtain ⟨n, rfl⟩ : ∃ j, n = j + 2 := ⟨n - 2, by omega⟩
  refine c_within (n := n + 1) (e := decide (l = l')) (r := leL l l') (q_kv h h') (q_kv_bot l) (q_kv_bot l') (kv_w frz l') (kv_const l') (fun H Q q => c_elemG (n := n) (kv_w frz l) (kv_const l) q) (fun H Q q => c_subK K h h' (Nat.lt_of_succ_lt_succ hn) q) ?_
  by_cases e : l = l'
  · subst e; rw [leL_refl] at q; rw [leL_refl, Bool.or_true]; exact q
  · rw [decide_eq_false e]; exact q
theorem c_union2 {l : List Mem} {k : Mem} (hl : okK l) (hk : okM k = true) (h3 : l.length ≤ 5) (hn : 14 < n) {j : Nat} (hj : H[j]? = some (.list [.py (kvD l), .py (memD k)])) (q : ∀ d, okK d → leL (l ++ [k]) d = true → d.length ≤ l.length + 1 → Q (.py (kvD d)) H) : (den tl.txt frz n).fn 2 [.ref j] H Q := by
  refine wpos hn (P := fun n => (den tl.txt frz n).fn 2 [.ref j] H Q) fun n hn => ?_
  have hf : [l, [k]].flatten = l ++ [k] := rfl
  have hok : (l ++ [k]).all okM = true := by rw [List.all_append]; exact b2 hl.ok (b2 hk rfl)
  have hlen : (l ++ [k]).length = l.length + 1 := List.length_append
  have h6 := addAll_len (l ++ [k]) []
  rw [hlen, List.length_nil] at h6
  have hw : w1 l ≤ 1 + l.length := by unfold w1; split <;> omega
  refine c_union (ks := [l, [k]]) (fun x hx => (List.mem_cons.mp hx).elim (fun e => e ▸ hl) fun hx => (List.mem_singleton.mp hx) ▸ okK_one hk) (nomatch ·) (by rw [hf]; omega) (by rw [hf, hlen]; omega) (by show w1 l + (1 + 0) ≤ 1000; omega) hn hj fun d hd => ?_
  rw [hf] at hd
  have z := uni_ok hok (fun e => nomatch (List.append_eq_nil_iff.mp e).2) (by rw [hlen]; omega) hd
  exact q d z.1 z.2.1 (hlen ▸ z.2.2)
structure JoinOk (l : List Mem) (k : Mem) (d : List Mem) : Prop where
  ok : okK d
  len : d.length ≤ 3
  same : leL [k] l = true → d = l
  le1 : leL l d = true
  le2 : leL [k] d = true
theorem leL_mem {l d : List Mem} {k : Mem} (h : leL (l ++ [k]) d = true) : leL l d = true ∧ leL [k] d = true := Bool.and_eq_true_iff.mp (leL_app.symm.trans h)
theorem c_joinE (K : KA frz p pd es) {l : List Mem} {k : Mem} (hl : okK l) (h3 : l.length ≤ 3) (hk : okM k = true) (hn : 40 < n) (e : leL [k] l = false) {j : Nat} (hj : H[j]? = some (.list [.py (kvD l), .py (memD k)])) {Q' : K1} (q : ∀ d, JoinOk l k d → Q' (.py (kvD d)) H) (hQ : Q = fun a H => (den tl.txt frz n).fn 31 [.fro p, a] H Q') : (den tl.txt frz n).fn 2 [.ref j] H Q := by
  subst hQ
  refine c_union2 hl hk (Nat.le_trans h3 (by decide)) (dn hn rfl) hj fun d a1 a2 a3 => ?_
  have b := leL_mem a2
  exact c_widen K a1 (Nat.le_trans a3 (Nat.le_trans (Nat.succ_le_succ h3) (by decide))) hn fun d2 c1 c2 c3 => q d2 ⟨c1, c2, fun z => bf (e.symm.trans z), leL_trans b.1 c3, leL_trans b.2 c3⟩
theorem c_joinM (K : KA frz p pd es) {l : List Mem} {k : Mem} (hl : okK l) (h3 : l.length ≤ 3) (hk : okM k = true) (hn : 42 < n) (q : ∀ d, JoinOk l k d → Q (.py (kvD d)) H) : (den tl.txt frz n).fn 32 [.fro p, .py (kvD l), .py (memD k)] H Q := by
  obtain ⟨n, rfl⟩ : ∃ j, n = j + 2 := ⟨n - 2, by omega⟩
  have hn : 40 < n := by omega
  have hk1 := okK_one hk
  refine fn_in D_joined [some (.fro p), some (.py (kvD l)), some (.py (kvD [k]))] rfl rfl rfl ?_
  refine c_withinK K hk1 hl (Nat.lt_succ_of_lt (dn hn rfl)) ?_
  cases e : leL [k] l with
  | true => exact ret_py (q l ⟨hl, h3, fun _ => rfl, leL_refl l, e⟩)
  | false =>
    refine c_withinK K hl hk1 (Nat.lt_succ_of_lt (dn hn rfl)) ?_
    cases e2 : leL l [k] with
    | true =>
      refine gA (kv_w frz [k] _) ?_
      refine gT (kv_const [k]) ?_
      exact c_widen K hk1 (by decide : 1 ≤ 6) (Nat.lt_succ_of_lt hn) fun d a1 a2 a3 => ret_py (q d ⟨a1, a2, fun z => bf (e.symm.trans z), leL_trans e2 a3, a3⟩)
    | false =>
      refine c_elemG (n := n) (kv_w frz l) (kv_const l) ?_
      refine c_elemG (n := n) (kv_w frz [k]) (kv_const [k]) ?_
      exact c_joinE K hl h3 hk (Nat.lt_succ_of_lt hn) e (j := 0) rfl (fun d hd => ret_py (q d hd)) rfl
noncomputable def conD (i : Int) : PyData := .tuple [.str "const", .tuple [.str "int", .str "Int64", .int i]]
theorem kv_shape (l : List Mem) : ∃ r, kvD l = .tuple (.str (wK l) :: r) := by
  match l with
  | [] => exact ⟨_, rfl⟩
  | [m] => cases m <;> exact ⟨_, rfl⟩
  | _ :: _ :: _ => exact ⟨_, rfl⟩
theorem wK_ne (l : List Mem) : wK l ≠ "const" := by
  match l with
  | [] => exact (by decide : ("union" : PySem.Str) ≠ "const")
  | [m] => cases m <;> first | exact (by decide : ("name" : PySem.Str) ≠ "const") | exact (by decide : ("tuple" : PySem.Str) ≠ "const")
  | _ :: _ :: _ => exact (by decide : ("union" : PySem.Str) ≠ "const")
theorem q_con_kv (i : Int) (l : List Mem) : eqA (.py (conD i)) (.py (kvD l)) [] = some false :=
  (gB_of (b2 rfl (lf_shp (lf_kv l) rfl))).trans (congrArg some ((kv_shape l).elim fun r hr => by
    rw [hr]
    show ((("const" : PySem.Str) == wK l) && _) = false
    rw [show (("const" : PySem.Str) == wK l) = false from beq_eq_false_iff_ne.mpr (wK_ne l).symm]; rfl))
theorem q_kv_con (i : Int) (l : List Mem) : eqA (.py (kvD l)) (.py (conD i)) [] = some false :=
  (gB_of (b2 (lf_shp (lf_kv l) rfl) rfl)).trans (congrArg some ((kv_shape l).elim fun r hr => by
    rw [hr]
    show ((wK l == ("const" : PySem.Str)) && _) = false
    rw [show (wK l == ("const" : PySem.Str)) = false from beq_eq_false_iff_ne.mpr (wK_ne l)]; rfl))
noncomputable def conTab (frz : Frz) (i : Int) : Bool := okPy (cev frz 12 20 [.py (conD i)]) (.py (nmD .I64))
theorem ctab (frz : Frz) : (conTab frz 0 && (conTab frz 1 && conTab frz 2)) = true := by kernel_rfl
theorem c_elemC {i : Int} (hi : 0 ≤ i ∧ i ≤ 2) (hn : 12 < n) (q : Q (.py (nmD .I64)) H) : (den tl.txt frz n).fn 20 [.py (conD i)] H Q := by
  have h : conTab frz i = true := by
    have : i = 0 ∨ i = 1 ∨ i = 2 := by omega
    exact this.elim (fun e => e ▸ bd1 (ctab frz)) fun z => z.elim (fun e => e ▸ bd1 (bd2 (ctab frz))) fun e => e ▸ bd2 (bd2 (ctab frz))
  exact fn_py hn rfl h q
theorem c_joinC (K : KA frz p pd es) {l : List Mem} {i : Int} (hl : okK l) (h3 : l.length ≤ 3) (hi : 0 ≤ i ∧ i ≤ 2) (hn : 42 < n) (q : ∀ d, JoinOk l (.n .I64) d → Q (.py (kvD d)) H) : (den tl.txt frz n).fn 32 [.fro p, .py (kvD l), .py (conD i)] H Q := by
  obtain ⟨n, rfl⟩ : ∃ j, n = j + 3 := ⟨n - 3, by omega⟩
  have hn : 39 < n := by omega
  have hk1 : okK [.n .I64] := okK_one rfl
  refine fn_in D_joined [some (.fro p), some (.py (kvD l)), some (.py (conD i))] rfl rfl rfl ?_
  refine c_within (n := n + 1) (e := false) (r := leL [.n .I64] l) (q_con_kv i l) rfl (q_kv_bot l) (kv_w frz l) (kv_const l) (fun H Q q => c_elemC hi (Nat.lt_succ_of_lt (dn hn rfl)) q) (fun H Q q => c_subK K hk1 hl (Nat.lt_succ_of_lt (dn hn rfl)) q) ?_
  cases e : leL [.n .I64] l with
  | true => exact ret_py (q l ⟨hl, h3, fun _ => rfl, leL_refl l, e⟩)
  | false =>
    refine fn_in (n := n + 1) D_is_within [some (.fro p), some (.py (kvD l)), some (.py (conD i))] rfl rfl rfl ?_
    refine gT (q_kv_con i l) ?_
    refine gT (q_kv_bot l) ?_
    refine ret_py ?_
    refine c_elemG (n := n + 1) (kv_w frz l) (kv_const l) ?_
    refine c_elemC hi (by omega) ?_
    exact c_joinE K (k := .n .I64) hl h3 rfl (by omega) e (j := 0) rfl (fun d hd => ret_py (q d hd)) rfl
end
section
variable {frz : Frz} {n m f : Nat} {as xs : List AV} {a : AV} {H H' : AH} {Q : K1} {p pd : Addr × Addr} {es : List (PyData × AV)} {Γ : Gam} {vs : Vars} {K : K2}
theorem c_join_in {A B : PyData} (hw : ∀ (H : AH) (Q : K1), Q (.py (.bool true)) H → (den tl.txt frz n).fn 21 [.fro p, .py B, .py A] H Q) (q : Q (.py A) H) : (den tl.txt frz (n + 1)).fn 32 [.fro p, .py A, .py B] H Q := by
  refine fn_in D_joined [some (.fro p), some (.py A), some (.py B)] rfl rfl rfl ?_
  refine hw _ _ ?_
  exact ret_py q
structure Cfg (a b c : Nm) : Prop where
  a5 : a ∈ nm5
  b5 : b ∈ nm5
  c5 : c ∈ nm5
theorem nm5_7 {x : Nm} (h : x ∈ nm5) : nm7.contains x = true := List.all_eq_true.mp (show nm5.all nm7.contains = true by decide) x h
theorem Cfg.ok1 {a b c : Nm} (x : Cfg a b c) : okM (.t2 a c) = true := b2 (nm5_7 x.a5) (nm5_7 x.c5)
theorem Cfg.ok2 {a b c : Nm} (x : Cfg a b c) : okM (.t2 b c) = true := b2 (nm5_7 x.b5) (nm5_7 x.c5)
theorem c_joinA (K : KA frz p pd es) {l A : List Mem} (hl : okK l) (hA : okK A) (hle : leL A l = true) (hn : 42 < n) (q : Q (.py (kvD l)) H) : (den tl.txt frz n).fn 32 [.fro p, .py (kvD l), .py (kvD A)] H Q :=
  wpos hn (P := fun n => (den tl.txt frz n).fn 32 [.fro p, .py (kvD l), .py (kvD A)] H Q) fun n hn => c_join_in (fun H Q q => c_withinK K hA hl (Nat.lt_of_lt_of_le (by decide) hn) (by rw [hle]; exact q)) q
theorem c_joinW (K : KA frz p pd es) {l : List Mem} {a b c : Nm} (x : Cfg a b c) (hl : okK l) (hle : leL [.t2 a c, .t2 b c] l = true) (hn : 42 < n) (q : Q (.py (kvD l)) H) : (den tl.txt frz n).fn 32 [.fro p, .py (kvD l), .py (whD a b c)] H Q := by
  obtain ⟨n, rfl⟩ : ∃ j, n = j + 3 := ⟨n - 3, by omega⟩
  refine c_join_in (fun H Q q => ?_) q
  exact c_within (n := n + 1) (e := false) (r := leL [.t2 a c, .t2 b c] l) (q_wh_kv l a b c) (q_wh_bot a b c) (q_kv_bot l) (kv_w frz l) (kv_const l) (fun H Q q => c_elemG (n := n) (w := "tuple") (fun H => rfl) rfl q) (fun H Q q => c_subWK K x.a5 x.b5 x.c5 x.ok1 x.ok2 hl (by omega) q) (by rw [hle]; exact q)
theorem c_joinV (K : KA frz p pd es) {a b c u v : Nm} (x : Cfg a b c) (y : Cfg u v c) (hu : ([Mem.n a, .n b].any fun d => leM (.n u) d) = true) (hv : ([Mem.n a, .n b].any fun d => leM (.n v) d) = true) (hn : 42 < n) (q : Q (.py (whD a b c)) H) : (den tl.txt frz n).fn 32 [.fro p, .py (whD a b c), .py (kvD [.t2 u c, .t2 v c])] H Q := by
  obtain ⟨n, rfl⟩ : ∃ j, n = j + 5 := ⟨n - 5, by omega⟩
  have hn : 37 < n := by omega
  have hA : okK [.t2 u c, .t2 v c] := ⟨nofun, b2 y.ok1 (b2 y.ok2 rfl), Nat.le_of_ble_eq_true rfl⟩
  refine c_join_in (fun H Q q => ?_) q
  refine c_within (n := n + 3) (e := false) (r := true) (q_kv_wh _ a b c) (q_kv_bot _) (q_wh_bot a b c) (w := "tuple") (fun H => rfl) rfl (fun H Q q => c_elemG (n := n + 2) (kv_w frz [.t2 u c, .t2 v c]) (kv_const _) q) (fun H Q q => ?_) q
  exact c_sub (n := n) (dn hn rfl) (q_kv_wh _ a b c) (q_wh_any a b c) (shal_kv hA (by omega)) (shal_wh x.a5 x.b5 x.c5 (by omega)) (sized_wh x.a5 x.b5 x.c5 (by omega)) (cb := [(.t2 u c, true), (.t2 v c, true)]) (cases_kv hA (by omega)) (fun z hz => (List.mem_cons.mp hz).elim (fun e => e ▸ ⟨y.ok1, runf_wh K (dn hn rfl) y.ok1 hu (leN_refl c)⟩) fun hz => (List.mem_singleton.mp hz) ▸ ⟨y.ok2, runf_wh K (dn hn rfl) y.ok2 hv (leN_refl c)⟩) q
end
section
variable {frz : Frz} {n m f : Nat} {as xs : List AV} {a : AV} {H H' : AH} {Q : K1} {p pd : Addr × Addr} {es : List (PyData × AV)} {Γ : Gam} {vs : Vars} {K : K2}
noncomputable def Tank (H : AH) (t : Nat) : Prop := ∃ a b c : Int, H[t]? = some (.list [.py (.int a), .py (.int b), .py (.int c)]) ∧ 0 ≤ b ∧ b < 2000000
theorem Tank.ne {j t : Nat} {l : List AV} (h : Tank H t) (hj : H[j]? = some (.list l)) (hl : ∀ a b c : Int, l ≠ [.py (.int a), .py (.int b), .py (.int c)]) : j ≠ t := h.elim fun a h => h.elim fun b h => h.elim fun c h => ne_get hj h.1 fun e => hl a b c (AO.list.inj e)
theorem Tank.pre {t : Nat} (h : Tank H t) (k : Pre H H') : Tank H' t := h.imp fun a h => h.imp fun b h => h.imp fun c h => ⟨k _ _ h.1, h.2⟩
theorem int_sub {F : Frz} {j : Nat} {l : List AV} {i : Int} {v : AV} (h : H[j]? = some (.list l)) (e : ixL l (.int i) = some v) : subA F (.ref j) (.py (.int i)) H = some v := (sub_ref h).trans e
theorem int_set {j : Nat} {l l' : List AV} {i : Int} {v : AV} (h : H[j]? = some (.list l)) (e : setO H j (.int i) v (.list l) = some (H.set j (.list l'))) : setItemA (.ref j) (.py (.int i)) v H = some (H.set j (.list l')) := (congrArg (Option.bind · (setO H j (.int i) v)) h).trans e
theorem eqv_int {a b : Int} {t : Bool} (h : (a == b) = t) : PyData.eqv (.int a) (.int b) = t := h
theorem c_poured {t : Nat} {many : Int} (hm : 0 < many ∧ many ≤ 100) (ht : Tank H t) (q : ∀ H' (r : Int), 0 ≤ r → r < many → Tank H' t → Keep [t] H H' → Q (.py (.int r)) H') : (den tl.txt frz (n + 1)).fn 39 [.ref t, .py (.int many)] H Q := by
  obtain ⟨a, b, c, h, hb1, hb2⟩ := ht
  refine fn_do D_law_poured [some (.ref t), some (.py (.int many)), none] rfl rfl ?_
  refine gA (int_sub h rfl) ?_
  by_cases e : c = 0
  · refine cT (eqv_int (beq_iff_eq.mpr e)) ?_
    exact q H 0 (Int.le_refl _) hm.1 ⟨a, b, c, h, hb1, hb2⟩ Keep.refl
  · refine cF (eqv_int (beq_eq_false_iff_ne.mpr e)) ?_
    refine gA (int_sub h rfl) ?_
    refine gO (show binA .mul (.py (.int b)) (.py (.int 7949)) _ = some (.py (.int (b * 7949)), _) from gB_of (b2 (by unfold smallI; exact Nat.ble_eq_true_of_le (by omega)) rfl)) ?_
    refine oP_of (int_set (l' := [.py (.int a), .py (.int (Int.fmod (b * 7949 + 443) 1998127)), .py (.int c)]) h rfl) ?_
    have h1 := set_self (o' := .list [.py (.int a), .py (.int (Int.fmod (b * 7949 + 443) 1998127)), .py (.int c)]) h
    refine gA (int_sub h1 rfl) ?_
    refine gA (int_sub h1 rfl) ?_
    conv => whnf
    refine gO (gB_of (decide_eq_true hm.1)) ?_
    refine gA (int_sub h1 rfl) ?_
    refine gO (gB_of (b2 (decide_eq_true hm.1) (decide_eq_true (Int.lt_of_le_of_lt hm.2 (by decide))))) ?_
    refine oP_of (int_set (l' := [.py (.int (Int.fdiv a many)), .py (.int (Int.fmod (b * 7949 + 443) 1998127)), .py (.int c)]) h1 rfl) ?_
    have fb1 : 0 ≤ Int.fmod (b * 7949 + 443) 1998127 := Int.fmod_nonneg_of_pos _ (by decide)
    have fb2 : Int.fmod (b * 7949 + 443) 1998127 < 1998127 := Int.fmod_lt_of_pos _ (by decide)
    exact q _ _ (Int.fmod_nonneg_of_pos _ hm.1) (Int.fmod_lt_of_pos _ hm.1) ⟨Int.fdiv a many, _, c, set_self h1, fb1, Int.lt_trans fb2 (by decide)⟩ ((Keep.refl.set List.mem_cons_self).set List.mem_cons_self)
theorem c_named {x : Nm} (q : Q (.py (nmD x)) H) : (den tl.txt frz (n + 1)).fn 0 [.py (.str (nmS x))] H Q := fn_in D_named [some (.py (.str (nmS x))), some (.py (.tuple []))] rfl rfl rfl (ret_py q)
noncomputable def nmSs : List AV := nm5.map fun x => .py (.str (nmS x))
theorem sub_at {F : Frz} {j : Nat} {xs : List AV} {r : Int} (h : H[j]? = some (.list xs)) (h0 : 0 ≤ r) (h1 : r < xs.length) (h2 : xs.length ≤ 1000) : ∃ v, xs[r.toNat]? = some v ∧ subA F (.ref j) (.py (.int r)) H = some v := by
  obtain ⟨k, rfl⟩ := Int.eq_ofNat_of_zero_le h0
  have hk : k < xs.length := Int.ofNat_lt.mp h1
  refine ⟨xs[k], List.getElem?_eq_getElem hk, int_sub h ?_⟩
  have e : seqIndex? (k : Int) xs.length = some k := by
    unfold seqIndex?
    simp only [show ¬ ((k : Int) < 0) by omega, if_false]
    rw [if_pos (by simp only [Bool.and_eq_true, decide_eq_true_eq]; omega)]; rfl
  refine (gB_of (show smallI (k : Int) = true from Nat.ble_eq_true_of_le (Nat.le_trans (Nat.le_of_lt hk) (Nat.le_trans h2 (by decide))))).trans ?_
  rw [e]; exact List.getElem?_eq_getElem hk
theorem nm_at {F : Frz} {j : Nat} {r : Int} (h : H[j]? = some (.list nmSs)) (h0 : 0 ≤ r) (h1 : r < (nmSs.length : Nat)) : ∃ x ∈ nm5, subA F (.ref j) (.py (.int r)) H = some (.py (.str (nmS x))) :=
  (sub_at (F := F) h h0 h1 (by decide)).elim fun v z => (List.mem_map.mp (List.mem_of_getElem? z.1)).elim fun x hx => ⟨x, hx.1, z.2.trans (congrArg some hx.2.symm)⟩
inductive El (W A : PyData) : PyData → Prop
  | w : El W A W
  | a : El W A A
  | m {k : Mem} : okM k = true → El W A (memD k)
  | c {i : Int} : 0 ≤ i ∧ i ≤ 2 → El W A (conD i)
theorem len5 {F : Frz} {nj : Nat} (h : H[nj]? = some (.list nmSs)) : callBA F .len [.ref nj] H = some (.i (nmSs.length : Nat), H) := len_of h rfl
theorem c_element {W A : PyData} {t j nj : Nat} (ht : Tank H t) (hj : H[j]? = some (.list [.py W, .py A])) (hn : H[nj]? = some (.list nmSs)) (q : ∀ H' e, El W A e → Tank H' t → Keep [t] H H' → Q (.py e) H') : (den tl.txt frz (n + 2)).fn 40 [.ref t, .ref j, .ref nj] H Q := by
  have tj : j ∉ [t] := fun e => ht.ne hj (fun _ _ _ e => nomatch (List.cons.inj (List.cons.inj e).2).2) (List.mem_singleton.mp e)
  have tn : nj ∉ [t] := fun e => ht.ne hn (fun _ _ _ e => nomatch (List.cons.inj e).1) (List.mem_singleton.mp e)
  have kn : ∀ {H'}, Keep [t] H H' → H'[nj]? = some (.list nmSs) := fun k => k _ _ tn hn
  refine fn_do D_law_element [some (.ref t), some (.ref j), some (.ref nj), none] rfl rfl ?_
  refine c_poured ⟨by decide, by decide⟩ ht fun H1 r hr0 hr5 ht1 k1 => ?_
  by_cases e2 : r < 2
  · refine cT (decide_eq_true e2) ?_
    obtain ⟨v, hv, hs⟩ := sub_at (F := frz) (k1 _ _ tj hj) hr0 e2 (Nat.le_of_ble_eq_true rfl)
    refine gA hs ?_
    have : r.toNat = 0 ∨ r.toNat = 1 := by omega
    rcases this with e | e
    · rw [e] at hv; cases hv; exact q H1 W .w ht1 k1
    · rw [e] at hv; cases hv; exact q H1 A .a ht1 k1
  · refine cF (decide_eq_false e2) ?_
    by_cases e3 : r = 2
    · refine cT (eqv_int (beq_iff_eq.mpr e3)) ?_
      refine gO (len5 (kn k1)) ?_
      refine c_poured ⟨by decide, by decide⟩ ht1 fun H2 r2 hr0 hr5 ht2 k2 => ?_
      obtain ⟨x, hx, hs⟩ := nm_at (F := frz) (kn (k1.trans k2)) hr0 hr5
      refine gA hs ?_
      refine c_named (n := n) ?_
      exact q H2 _ (.m (k := .n x) rfl) ht2 (k1.trans k2)
    · refine cF (eqv_int (beq_eq_false_iff_ne.mpr e3)) ?_
      by_cases e4 : r = 3
      · refine cT (eqv_int (beq_iff_eq.mpr e4)) ?_
        refine c_poured ⟨by decide, by decide⟩ ht1 fun H2 r2 hr0 hr5 ht2 k2 => ?_
        have step : ∀ (X : AH), Keep [t] H X → Tank X t → ∀ (ys : List AV) (jj : Nat), X[jj]? = some (.list ys) → H.length ≤ jj → Nat.ble ys.length room = true → ∀ (vs : Vars) (i : Int) (K : K2), (∃ u, vs = [some (.ref nj), some (.ref t), u]) →
            (∀ X' x vs', Keep [t] H X' → Tank X' t → X'[jj]? = some (.list (ys ++ [.py (nmD x)])) → x ∈ nm5 → (∃ u, vs' = [some (.ref nj), some (.ref t), u]) → K .next vs' X') →
            forStep (compStep (eTests (den tl.txt frz (n + 1)) .nil) (eE (den tl.txt frz (n + 1)) (.callF 0 (.cons (.sub (.var 0) (.callF 39 (.cons (.var 1) (.cons (.callB .len (.cons (.var 0) .nil)) .nil)))) .nil))) jj) (.one 2) (.py (.int i)) vs X K := fun X kX tX ys jj hjj hl hy vs i K hv q => by
          obtain ⟨u, rfl⟩ := hv
          refine gO (len5 (kn kX)) ?_
          refine c_poured ⟨by decide, by decide⟩ tX fun X2 r3 hr0 hr5 ht3 k3 => ?_
          obtain ⟨x, hx, hs⟩ := nm_at (F := frz) (kn (kX.trans k3)) hr0 hr5
          refine gA hs ?_
          refine c_named (n := n) ?_
          have htj : jj ≠ t := fun e => ht.elim fun a h => h.elim fun b h => h.elim fun c h => Nat.lt_irrefl _ (Nat.lt_of_lt_of_le (lt_get h.1) (e ▸ hl))
          have h4 := k3 _ _ (fun z => htj (List.mem_singleton.mp z)) hjj
          refine oP_of (app_ref h4 hy) ?_
          refine q _ x _ (fun i o hi he => set_ne (Nat.ne_of_gt (Nat.lt_of_lt_of_le (lt_get he) hl)) ((kX.trans k3) i o hi he)) ?_ (set_self h4) hx ⟨_, rfl⟩
          exact ht3.imp fun a h => h.imp fun b h => h.imp fun c h => ⟨set_ne htj h.1, h.2⟩
        have k2' := (k1.trans k2)
        have hln : H.length ≤ H2.length := ht2.elim fun a h => h.elim fun b h => h.elim fun c h => keep_len (i := t) k2' h.1
        have t0 : Tank (H2 ++ [.list []]) t := ht2.pre Pre.refl.app
        have hrr : r2 = 0 ∨ r2 = 1 := by omega
        rcases hrr with rfl | rfl
        · refine ⟨trivial, step (H2 ++ [AO.list []]) k2'.app t0 [] H2.length glast hln rfl _ 0 _ ⟨none, rfl⟩ fun X' x vs' a1 a2 a3 a4 a5 => ⟨trivial, ?_⟩⟩
          exact c_tupleof2 (n := n) (ds := [nmD x]) a3 (Nat.le_of_ble_eq_true rfl) (q X' _ (.m (k := .t1 x) (nm5_7 a4)) a2 a1)
        · refine ⟨trivial, step (H2 ++ [AO.list []]) k2'.app t0 [] H2.length glast hln rfl _ 0 _ ⟨none, rfl⟩ fun X' x vs' a1 a2 a3 a4 a5 => ⟨trivial, ?_⟩⟩
          refine step X' a1 a2 [.py (nmD x)] H2.length a3 hln rfl _ 1 _ a5 fun X2 y vs2 b1 b2 b3 b4 b5 => ⟨trivial, ?_⟩
          exact c_tupleof2 (n := n) (ds := [nmD x, nmD y]) b3 (Nat.le_of_ble_eq_true rfl) (q X2 _ (.m (k := .t2 x y) (Bool.and_eq_true_iff.mpr ⟨nm5_7 a4, nm5_7 b4⟩)) b2 b1)
      · refine cF (eqv_int (beq_eq_false_iff_ne.mpr e4)) ?_
        refine c_poured ⟨by decide, by decide⟩ ht1 fun H2 r2 hr0 hr5 ht2 k2 => ?_
        exact q H2 _ (.c (i := r2) ⟨hr0, Int.le_of_lt_add_one hr5⟩) ht2 (k1.trans k2)
end
section
variable {frz : Frz} {n m f : Nat} {as xs : List AV} {a : AV} {H H' : AH} {Q : K1} {p pd : Addr × Addr} {es : List (PyData × AV)} {Γ : Gam} {vs : Vars} {K : K2} {v0 v1 v2 v3 v4 v5 v6 v7 v8 v9 v10 v11 : Option AV}
noncomputable def dropS : Nat → CSs → CSs
  | 0, x => x
  | k + 1, x => dropS k (tlS x)
noncomputable abbrev lw (k : Nat) : CS := hdS (dropS k D_law.body)
theorem Tank.not {t j : Nat} {xs : List AV} (h : Tank H t) (hj : H[j]? = some (.list xs)) (hl : xs.length ≠ 3) : j ∉ [t] := fun e => h.ne hj (fun _ _ _ e => hl (e ▸ rfl)) (List.mem_singleton.mp e)
theorem law1 (q : K .next [v0, v1, v2, some (.ref H.length), v4, v5, v6, v7, v8, v9, v10, v11] (H ++ [.list nmSs])) : eS (den tl.txt frz n) (lw 1) [v0, v1, v2, v3, v4, v5, v6, v7, v8, v9, v10, v11] H K := q
theorem law2 {nj : Nat} (ht : Tank H 0) (hj : H[nj]? = some (.list nmSs)) (q : ∀ H' x, x ∈ nm5 → Tank H' 0 → Keep [0] H H' → K .next [v0, some (.ref 0), v2, some (.ref nj), some (.py (.str (nmS x))), v5, v6, v7, v8, v9, v10, v11] H') :
    eS (den tl.txt frz (n + 1)) (lw 2) [v0, some (.ref 0), v2, some (.ref nj), v4, v5, v6, v7, v8, v9, v10, v11] H K := by
  refine c_poured ⟨by decide, by decide⟩ ht fun H1 r hr0 hr5 ht1 k1 => ?_
  obtain ⟨x, hx, hs⟩ := nm_at (F := frz) (k1 _ _ (ht.not hj (by decide)) hj) hr0 (Int.lt_trans hr5 (by decide))
  refine gA hs ?_
  exact q H1 x hx ht1 k1
noncomputable def oth (x y : Nm) : List AV := if y = x then [] else [.py (.str (nmS y))]
theorem oth_len (x : Nm) (h : x ∈ nm5) : (nm5.flatMap (oth x)).length = 4 := by
  have := List.all_eq_true.mp (show (nm5.all fun x => decide ((nm5.flatMap (oth x)).length = 4)) = true by decide +kernel) x h
  exact of_decide_eq_true this
theorem law3 {nj : Nat} {x : Nm} (hx : x ∈ nm5) (ht : Tank H 0) (hj : H[nj]? = some (.list nmSs)) (q : ∀ H' y, y ∈ nm5 → y ≠ x → Tank H' 0 → Keep [0] H H' → K .next [v0, some (.ref 0), v2, some (.ref nj), some (.py (.str (nmS x))), some (.py (.str (nmS y))), v6, v7, v8, v9, v10, v11] H') :
    eS (den tl.txt frz (n + 1)) (lw 3) [v0, some (.ref 0), v2, some (.ref nj), some (.py (.str (nmS x))), v5, v6, v7, v8, v9, v10, v11] H K := by
  have ol := oth_len x hx
  refine oP_of (it_of hj) ?_
  refine forL_buildG (fun _ => True) (fun x => .py (.str (nmS x))) (oth x) (P := fun vs => ∃ u, vs = [some (.py (.str (nmS x))), u]) (fun ys => Pre.refl.app _ _ hj) (fun y => ?_) (fun y ys vs K _ hv hy q => hv.elim fun u hv => ?_) nm5 [] _ _ (fun _ _ => trivial) ⟨none, rfl⟩ (by decide) fun vs hv => ?_
  · unfold oth; by_cases e : y = x
    · rw [if_pos e]; exact Nat.zero_le _
    · rw [if_neg e]; exact Nat.le_refl _
  · subst hv
    by_cases e : y = x
    · subst e
      refine gT (ne_of (q_nmSY y)) ?_
      have := q [some (.py (.str (nmS y))), some (.py (.str (nmS y)))] ⟨_, rfl⟩
      rw [show oth y y = [] from if_pos rfl, List.append_nil] at this
      exact this
    · refine gT (ne_of (q_nmSN e)) ?_
      refine oP_of (app_last hy) ?_
      have := q [some (.py (.str (nmS x))), some (.py (.str (nmS y)))] ⟨_, rfl⟩
      rw [show oth x y = [.py (.str (nmS y))] from if_neg e] at this
      exact this
  · have ht' : Tank (H ++ [AO.list ([] ++ nm5.flatMap (oth x))]) 0 := ht.pre Pre.refl.app
    rw [List.nil_append] at ht' ⊢
    refine c_poured ⟨by decide, by decide⟩ ht' fun H1 r hr0 hr5 ht1 k1 => ?_
    have h1 : H1[H.length]? = some (.list (nm5.flatMap (oth x))) := k1 _ _ (ht'.not glast (by rw [ol]; decide)) glast
    obtain ⟨v, hv, hs⟩ := sub_at (F := frz) h1 hr0 (by rw [ol]; exact hr5) (by rw [ol]; decide)
    obtain ⟨y, hy, hm⟩ := List.mem_flatMap.mp (List.mem_of_getElem? hv)
    unfold oth at hm
    by_cases e : y = x
    · rw [if_pos e] at hm; exact nomatch hm
    · rw [if_neg e] at hm
      cases List.mem_singleton.mp hm
      refine gA hs ?_
      exact q H1 y hy e ht1 (Keep.refl.app.trans k1)
theorem law4 {nj : Nat} (ht : Tank H 0) (hj : H[nj]? = some (.list nmSs)) (q : ∀ H' x, x ∈ nm5 → Tank H' 0 → Keep [0] H H' → K .next [v0, some (.ref 0), v2, some (.ref nj), v4, v5, some (.py (nmD x)), v7, v8, v9, v10, v11] H') :
    eS (den tl.txt frz (n + 1)) (lw 4) [v0, some (.ref 0), v2, some (.ref nj), v4, v5, v6, v7, v8, v9, v10, v11] H K := by
  refine c_poured ⟨by decide, by decide⟩ ht fun H1 r hr0 hr5 ht1 k1 => ?_
  obtain ⟨x, hx, hs⟩ := nm_at (F := frz) (k1 _ _ (ht.not hj (by decide)) hj) hr0 (Int.lt_of_lt_of_le hr5 (by decide))
  refine gA hs ?_
  refine c_named (n := n) ?_
  exact q H1 x hx ht1 k1
end
section
variable {frz : Frz} {n m f : Nat} {as xs : List AV} {a : AV} {H H' : AH} {Q : K1} {p pd : Addr × Addr} {es : List (PyData × AV)} {Γ : Gam} {vs : Vars} {K : K2} {v0 v1 v2 v3 v4 v5 v6 v7 v8 v9 v10 v11 : Option AV}
theorem two_perm {α : Type} {l : List α} {x y : α} (h : l.Perm [x, y]) : l = [x, y] ∨ l = [y, x] := by
  obtain ⟨a, b, rfl⟩ : ∃ a b, l = [a, b] := by
    have := h.length_eq
    match l, this with
    | [a, b], _ => exact ⟨a, b, rfl⟩
  have ha := List.mem_cons.mp (h.subset List.mem_cons_self)
  rcases ha with rfl | ha
  · have := (List.perm_cons a).mp h
    rw [List.perm_singleton] at this
    cases this; exact .inl rfl
  · cases List.mem_singleton.mp ha
    have h2 : [y, b].Perm [y, x] := h.trans (List.Perm.swap _ _ _)
    have := (List.perm_cons y).mp h2
    rw [List.perm_singleton] at this
    cases this; exact .inr rfl
theorem con_ne {k j : Mem} {l : List Mem} (h : j ≠ k) (hl : l.contains j = false) : (k :: l).contains j = false := by rw [List.contains_cons, hl, beq_eq_false_iff_ne.mpr h]; rfl
theorem add_two {k j : Mem} (h : j ≠ k) : addAll [] [k, j] = [k, j] := by
  show cond (([k] : List Mem).contains j) [k] ([k] ++ [j]) = _
  rw [con_ne h rfl]; rfl
theorem uni_two {k j : Mem} (h : j ≠ k) (hk : k ≠ .n .An) (hj : j ≠ .n .An) {l : List Mem} (hl : UniOk (addAll [] [[k], [j]].flatten) l) : l = [k, j] ∨ l = [j, k] := by
  have e : [[k], [j]].flatten = [k, j] := rfl
  rw [e, add_two h] at hl
  unfold UniOk at hl
  rw [if_neg (by rw [con_ne hk.symm (con_ne hj.symm rfl)]; decide)] at hl
  exact two_perm hl
theorem nm5_An {x : Nm} (h : x ∈ nm5) : x ≠ .An := fun e => by subst e; exact absurd h (by decide)
theorem c_union_two (hn : 14 < n) {α : Type} (g : α → Mem) {x y : α} (hk : okM (g x) = true) (hj : okM (g y) = true) (h : g y ≠ g x) (k1 : g x ≠ .n .An) (j1 : g y ≠ .n .An) {i : Nat} (hi : H[i]? = some (.list [.py (memD (g x)), .py (memD (g y))])) (q : ∀ a b, (a = x ∧ b = y ∨ a = y ∧ b = x) → Q (.py (kvD [g a, g b])) H) : (den tl.txt frz n).fn 2 [.ref i] H Q := by
  refine wpos hn (P := fun n => (den tl.txt frz n).fn 2 [.ref i] H Q) fun n hn => ?_
  refine c_union (ks := [[g x], [g y]]) (fun l hl => (List.mem_cons.mp hl).elim (fun e => e ▸ okK_one hk) fun hl => (List.mem_singleton.mp hl) ▸ okK_one hj) (nomatch ·) (by show (addAll [] [g x, g y]).length ≤ 6; rw [add_two h]; exact Nat.le_of_ble_eq_true rfl) (Nat.le_of_ble_eq_true rfl) (Nat.le_of_ble_eq_true rfl) hn hi fun l hl => ?_
  rcases uni_two h k1 j1 hl with rfl | rfl
  · exact q _ _ (.inl ⟨rfl, rfl⟩)
  · exact q _ _ (.inr ⟨rfl, rfl⟩)
theorem law5 (hn : 20 < n) {x y c : Nm} (hx : x ∈ nm5) (hy : y ∈ nm5) (hne : y ≠ x) (ht : Tank H 0) (q : ∀ H' a b, (a = x ∧ b = y ∨ a = y ∧ b = x) → Tank H' 0 → Pre H H' → K .next [v0, v1, v2, v3, some (.py (.str (nmS x))), some (.py (.str (nmS y))), some (.py (nmD c)), some (.py (whD a b c)), v8, v9, v10, v11] H') :
    eS (den tl.txt frz n) (lw 5) [v0, v1, v2, v3, some (.py (.str (nmS x))), some (.py (.str (nmS y))), some (.py (nmD c)), v7, v8, v9, v10, v11] H K := by
  refine wpos hn (P := fun n => eS (den tl.txt frz n) (lw 5) _ H K) fun n hn => ?_
  refine c_named (n := n) ?_
  refine c_named (n := n) ?_
  refine c_union_two (Nat.lt_succ_of_lt (dn (Nat.lt_of_succ_le hn) rfl)) Mem.n (x := x) (y := y) rfl rfl (fun e => hne (by cases e; rfl)) (fun e => nm5_An hx (by cases e; rfl)) (fun e => nm5_An hy (by cases e; rfl)) glast fun a b hab => ?_
  refine c_tupleof2 (n := n) (ds := [kvD [.n a, .n b], nmD c]) (d := .none) glast (Nat.le_of_ble_eq_true rfl) ?_
  exact q _ a b hab (ht.pre Pre.refl.app.app) Pre.refl.app.app
theorem law6 (hn : 20 < n) {x y c : Nm} (hx : x ∈ nm5) (hy : y ∈ nm5) (hc : c ∈ nm5) (hne : y ≠ x) (ht : Tank H 0) (q : ∀ H' a b, (a = x ∧ b = y ∨ a = y ∧ b = x) → Tank H' 0 → Pre H H' → K .next [v0, v1, v2, v3, some (.py (.str (nmS x))), some (.py (.str (nmS y))), some (.py (nmD c)), v7, some (.py (kvD [.t2 a c, .t2 b c])), v9, v10, v11] H') :
    eS (den tl.txt frz n) (lw 6) [v0, v1, v2, v3, some (.py (.str (nmS x))), some (.py (.str (nmS y))), some (.py (nmD c)), v7, v8, v9, v10, v11] H K := by
  refine wpos hn (P := fun n => eS (den tl.txt frz n) (lw 6) _ H K) fun n hn => ?_
  refine c_named (n := n) ?_
  refine c_tupleof2 (n := n) (ds := [nmD x, nmD c]) (d := .none) glast (Nat.le_of_ble_eq_true rfl) ?_
  refine c_named (n := n) ?_
  refine c_tupleof2 (n := n) (ds := [nmD y, nmD c]) (d := .none) glast (Nat.le_of_ble_eq_true rfl) ?_
  refine c_union_two (Nat.lt_succ_of_lt (dn (Nat.lt_of_succ_le hn) rfl)) (fun z => Mem.t2 z c) (x := x) (y := y) (b2 (nm5_7 hx) (nm5_7 hc)) (b2 (nm5_7 hy) (nm5_7 hc)) (fun e => hne (by cases e; rfl)) (nomatch ·) (nomatch ·) glast fun a b hab => ?_
  exact q _ a b hab (ht.pre Pre.refl.app.app.app) Pre.refl.app.app.app
theorem q_wh_self (a b c : Nm) : eqA (.py (whD a b c)) (.py (whD a b c)) [] = some true := eqA_yes (lf_wh a b c) rfl
theorem q_kv_self (l : List Mem) : eqA (.py (kvD l)) (.py (kvD l)) [] = some true := eqA_yes (lf_kv l) rfl
theorem law7 (KK : KA frz p pd es) (hn : 42 < n) {a b c u v : Nm} (x : Cfg a b c) (y : Cfg u v c) (hA : okK [.t2 u c, .t2 v c]) (hu : ([Mem.n a, .n b].any fun d => leM (.n u) d) = true) (hv : ([Mem.n a, .n b].any fun d => leM (.n v) d) = true) (hle : leL [.t2 a c, .t2 b c] [.t2 u c, .t2 v c] = true)
    (q : K .next [v0, v1, some (.fro p), v3, v4, v5, v6, some (.py (whD a b c)), some (.py (kvD [.t2 u c, .t2 v c])), v9, v10, v11] H) :
    eS (den tl.txt frz n) (lw 7) [v0, v1, some (.fro p), v3, v4, v5, v6, some (.py (whD a b c)), some (.py (kvD [.t2 u c, .t2 v c])), v9, v10, v11] H K := by
  refine c_joinV KK x y hu hv hn ?_
  refine gT (ne_of (q_wh_self a b c)) ?_
  refine c_joinW KK x hA hle hn ?_
  refine gT (ne_of (q_kv_self [.t2 u c, .t2 v c])) ?_
  exact q
noncomputable def rowElt : CE := .callF 40 (.cons (.var 0) (.cons (.lst (.cons (.var 2) (.cons (.var 3) .nil))) (.cons (.var 1) .nil)))
theorem row_loop {W A : PyData} {nj j : Nat} (hjn : j ≠ nj) (hj0 : j ≠ 0) (hn0 : nj ≠ 0) : ∀ (is : List AV) (rs : List PyData) (H : AH) (u : Option AV) (K : K2), is.length + rs.length ≤ 10 → Tank H 0 → H[nj]? = some (.list nmSs) → H[j]? = some (.list (rs.map .py)) → (∀ e ∈ rs, El W A e) →
    (∀ vs H' (rs' : List PyData), Tank H' 0 → H'[j]? = some (.list (rs'.map .py)) → (∀ e ∈ rs', El W A e) → rs'.length ≤ 10 → K .next vs H') →
    forL (fun _ => True) (forStep (compStep (eTests (den tl.txt frz (n + 2)) .nil) (eE (den tl.txt frz (n + 2)) rowElt) j) (.one 4)) is [some (.ref 0), some (.ref nj), some (.py W), some (.py A), u] H K
  | [], rs, H, u, K, hl, ht, hn, hj, hr, q => ⟨trivial, q _ H rs ht hj hr (Nat.le_trans (Nat.le_add_left _ _) hl)⟩
  | x :: is, rs, H, u, K, hl, ht, hn, hj, hr, q => by
    refine ⟨trivial, ?_⟩
    have hl : is.length + 1 + rs.length ≤ 10 := hl
    refine c_element (ht.pre Pre.refl.app) glast (Pre.refl.app _ _ hn) fun H1 e he ht1 k1 => ?_
    have h1 := k1 j _ (fun z => hj0 (List.mem_singleton.mp z)) (Pre.refl.app _ _ hj)
    have h2 := k1 nj _ (fun z => hn0 (List.mem_singleton.mp z)) (Pre.refl.app _ _ hn)
    refine oP_of (app_ref h1 (room_le (m := 10) (by rw [List.length_map]; omega) rfl)) ?_
    refine row_loop hjn hj0 hn0 is (rs ++ [e]) _ _ K (by rw [List.length_append]; show _ + (_ + 1) ≤ 10; omega) (ht1.imp fun a h => h.imp fun b h => h.imp fun c h => ⟨set_ne hj0 h.1, h.2⟩) (set_ne hjn h2) ((set_self h1).trans (by rw [List.map_append]; rfl)) (fun z hz => (List.mem_append.mp hz).elim (hr z) fun hz => (List.mem_singleton.mp hz) ▸ he) q
theorem rg_ok {r : Int} (h0 : 0 ≤ r) (h : r < 5) : rgOk r = true ∧ r.toNat ≤ 5 := by
  obtain ⟨k, rfl⟩ := Int.eq_ofNat_of_zero_le h0
  have hk : k ≤ 5 := by omega
  exact ⟨Nat.ble_eq_true_of_le (Nat.le_trans hk (by decide)), hk⟩
theorem law8 (hn : 1 < n) {W A : PyData} {nj : Nat} (hn0 : nj ≠ 0) (ht : Tank H 0) (hj : H[nj]? = some (.list nmSs)) (q : ∀ H' j (rs : List PyData), H'[j]? = some (.list (rs.map .py)) → (∀ e ∈ rs, El W A e) → rs.length ≤ 10 → K .next [v0, some (.ref 0), v2, some (.ref nj), v4, v5, v6, some (.py W), some (.py A), some (.ref j), v10, v11] H') :
    eS (den tl.txt frz n) (lw 8) [v0, some (.ref 0), v2, some (.ref nj), v4, v5, v6, some (.py W), some (.py A), v9, v10, v11] H K := by
  obtain ⟨n, rfl⟩ : ∃ j, n = j + 2 := ⟨n - 2, by omega⟩
  refine c_poured (n := n + 1) ⟨by decide, by decide⟩ ht fun H1 r hr0 hr5 ht1 k1 => ?_
  have h1 := k1 nj _ (fun z => hn0 (List.mem_singleton.mp z)) hj
  have hg := rg_ok hr0 hr5
  refine bP_of hg.1 ?_
  have hl0 : H1.length ≠ 0 := ht1.elim fun a h => h.elim fun b h => h.elim fun c h => Nat.ne_of_gt (lt_get h.1)
  refine row_loop (W := W) (A := A) (nj := nj) (j := H1.length) (Nat.ne_of_gt (lt_get h1)) hl0 hn0 _ [] _ none _ ?_ (ht1.pre Pre.refl.app) (Pre.refl.app _ _ h1) glast (fun _ h => nomatch h) fun vs H2 rs a1 a2 a3 a4 => ?_
  · unfold rngA; rw [List.length_map, List.length_range]; exact Nat.le_trans hg.2 (by decide)
  · exact q H2 H1.length rs a2 a3 a4
end
section
variable {frz : Frz} {n m f : Nat} {as xs : List AV} {a : AV} {H H' : AH} {Q : K1} {p pd : Addr × Addr} {es : List (PyData × AV)} {Γ : Gam} {vs : Vars} {K : K2} {v0 v1 v2 v3 v4 v5 v6 v7 v8 v9 v10 v11 : Option AV} {A : List Mem} {e : PyData} {l l' ms : List Mem}
noncomputable def Jn (n : Nat) (frz : Frz) (p : Addr × Addr) (A : List Mem) (e : PyData) (ms : List Mem) : Prop := ∀ (l : List Mem) (H : AH) (Q : K1), okK l → l.length ≤ 3 → leL A l = true →
  (∀ d, okK d → d.length ≤ 3 → leL l d = true → leL ms d = true → (leL ms l = true → d = l) → Q (.py (kvD d)) H) → (den tl.txt frz n).fn 32 [.fro p, .py (kvD l), .py e] H Q
theorem jn_el (KK : KA frz p pd es) (hn : 42 < n) {a b c u v : Nm} (x : Cfg a b c) (hA : okK [.t2 u c, .t2 v c]) (hle : leL [.t2 a c, .t2 b c] [.t2 u c, .t2 v c] = true) (h : El (whD a b c) (kvD [.t2 u c, .t2 v c]) e) : ∃ ms, Jn n frz p [.t2 u c, .t2 v c] e ms := by
  cases h with
  | w => exact ⟨[], fun l H Q hl h3 hA' q => c_joinW KK x hl (leL_trans hle hA') hn (q l hl h3 (leL_refl l) rfl fun _ => rfl)⟩
  | a => exact ⟨[], fun l H Q hl h3 hA' q => c_joinA KK hl hA hA' hn (q l hl h3 (leL_refl l) rfl fun _ => rfl)⟩
  | @m k hk => exact ⟨[k], fun l H Q hl h3 hA' q => c_joinM KK hl h3 hk hn fun d z => q d z.ok z.len z.le1 z.le2 z.same⟩
  | @c i hi => exact ⟨[.n .I64], fun l H Q hl h3 hA' q => c_joinC KK hl h3 hi hn fun d z => q d z.ok z.len z.le1 z.le2 z.same⟩
noncomputable def Stl (n : Nat) (frz : Frz) (p : Addr × Addr) (A : List Mem) (l : List Mem) (e : PyData) : Prop := ∃ ms, Jn n frz p A e ms ∧ leL ms l = true
noncomputable def joinCall : CE := .callF 32 (.cons (.var 2) (.cons (.var 10) (.cons (.var 11) .nil)))
theorem known_loop {j : Nat} {wl : List AV} (hj : H[j]? = some (.list wl)) : ∀ (rs : List PyData) (l : List Mem) (u : Option AV) (K : K2), okK l → l.length ≤ 3 → leL A l = true → (∀ e ∈ rs, ∃ ms, Jn n frz p A e ms) →
    (∀ l' u', okK l' → l'.length ≤ 3 → leL A l' = true → leL l l' = true → (∀ e ∈ rs, Stl n frz p A l' e) → K .next [v0, v1, some (.fro p), v3, v4, v5, v6, v7, v8, v9, some (.py (kvD l')), u'] H) →
    forL (chkA (.ref j) wl) (forStep (eSs (den tl.txt frz n) (.cons (.assign (.tg (.one 10)) joinCall) .nil)) (.one 11)) (rs.map .py) [v0, v1, some (.fro p), v3, v4, v5, v6, v7, v8, v9, some (.py (kvD l)), u] H K
  | [], l, u, K, hl, h3, hA, hr, q => ⟨hj, q l u hl h3 hA (leL_refl l) fun _ h => nomatch h⟩
  | e :: rs, l, u, K, hl, h3, hA, hr, q => by
    refine ⟨hj, ?_⟩
    obtain ⟨ms, hm⟩ := hr e List.mem_cons_self
    refine hm l _ _ hl h3 hA fun d b1 b2 b3 b4 b5 => ?_
    refine known_loop hj rs d _ K b1 b2 (leL_trans hA b3) (fun z hz => hr z (List.mem_cons_of_mem _ hz)) fun l' u' c1 c2 c3 c4 c5 => ?_
    exact q l' u' c1 c2 c3 (leL_trans b3 c4) fun z hz => (List.mem_cons.mp hz).elim (fun e => by rw [e]; exact ⟨ms, hm, leL_trans b4 c4⟩) (c5 z)
noncomputable def agCall : CE := .cmp .ne (.callF 32 (.cons (.var 1) (.cons (.var 0) (.cons (.var 2) .nil)))) (.var 0)
theorem again_loop {j k : Nat} {wl : List AV} (hj : H[j]? = some (.list wl)) (hl : okK l) (h3 : l.length ≤ 3) (hA : leL A l = true) : ∀ (rs : List PyData) (u : Option AV) (K : K2), (∀ e ∈ rs, Stl n frz p A l e) →
    (∀ vs, K .next vs H) →
    forL (chkA (.ref j) wl) (forStep (compStep (eTests (den tl.txt frz n) (.cons agCall .nil)) (eE (den tl.txt frz n) (.var 2)) k) (.one 2)) (rs.map .py) [some (.py (kvD l)), some (.fro p), u] H K
  | [], u, K, hr, q => ⟨hj, q _⟩
  | e :: rs, u, K, hr, q => by
    refine ⟨hj, ?_⟩
    obtain ⟨ms, hm, hle⟩ := hr e List.mem_cons_self
    refine hm l _ _ hl h3 hA fun d b1 b2 b3 b4 b5 => ?_
    rw [b5 hle]
    refine gT (ne_of (q_kv_self l)) ?_
    exact again_loop hj hl h3 hA rs _ K (fun z hz => hr z (List.mem_cons_of_mem _ hz)) q
theorem law10 {j : Nat} {rs : List PyData} (hj : H[j]? = some (.list (rs.map .py))) (hl : okK l) (h3 : l.length ≤ 3) (hA : leL A l = true) (hr : ∀ e ∈ rs, ∃ ms, Jn n frz p A e ms)
    (q : ∀ l' u', okK l' → l'.length ≤ 3 → leL A l' = true → (∀ e ∈ rs, Stl n frz p A l' e) → K .next [v0, v1, some (.fro p), v3, v4, v5, v6, v7, v8, some (.ref j), some (.py (kvD l')), u'] H) :
    eS (den tl.txt frz n) (lw 10) [v0, v1, some (.fro p), v3, v4, v5, v6, v7, v8, some (.ref j), some (.py (kvD l)), v11] H K := by
  refine oP_of (it_of hj) ?_
  exact known_loop hj rs l _ K hl h3 hA hr fun l' u' a1 a2 a3 a4 a5 => q l' u' a1 a2 a3 a5
theorem law11 {j : Nat} {rs : List PyData} (hj : H[j]? = some (.list (rs.map .py))) (hl : okK l) (h3 : l.length ≤ 3) (hA : leL A l = true) (hr : ∀ e ∈ rs, Stl n frz p A l e) (q : ∀ vs H', K (.ret (.py (.bool true))) vs H') :
    eS (den tl.txt frz n) (lw 11) [v0, v1, some (.fro p), v3, v4, v5, v6, v7, v8, some (.ref j), some (.py (kvD l)), v11] H K := by
  refine oP_of (it_of hj) ?_
  refine again_loop (H := H ++ [AO.list []]) (k := H.length) (Pre.refl.app _ _ hj) hl h3 hA rs none _ hr fun vs => ?_
  refine gT (test_eq glast) ?_
  exact q _ _
theorem law_rest (KK : KA frz p pd es) (hn : 42 < n) {x y z : Int} (hy : 0 ≤ y ∧ y < 2000000) (q : ∀ vs H, K (.ret (.py (.bool true))) vs H) :
    eSs (den tl.txt frz n) (tlS D_law.body) [v0, some (.ref 0), some (.fro p), v3, v4, v5, v6, v7, v8, v9, v10, v11] [.list [.py (.int x), .py (.int y), .py (.int z)]] K := by
  have h20 : 20 < n := dn hn rfl
  refine wpos (k := 42) hn (P := fun n => 42 < n → 20 < n → eSs (den tl.txt frz n) _ _ _ K) (fun n _ hn h20 => ?_) hn h20
  have ht : Tank [.list [.py (.int x), .py (.int y), .py (.int z)]] 0 := ⟨x, y, z, rfl, hy⟩
  refine law1 ?_
  refine law2 (nj := 1) (ht.pre Pre.refl.app) rfl fun H1 o ho t1 k1 => ?_
  have n1 := k1 1 _ (by decide) (rfl : ([AO.list [.py (.int x), .py (.int y), .py (.int z)]] ++ [AO.list nmSs])[1]? = some (.list nmSs))
  refine law3 ho t1 n1 fun H2 t hoth hne t2 k2 => ?_
  have n2 := k2 1 _ (by decide) n1
  refine law4 t2 n2 fun H3 c hc t3 k3 => ?_
  have n3 := k3 1 _ (by decide) n2
  refine law5 h20 ho hoth hne t3 fun H4 a b hab t4 k4 => ?_
  have n4 := k4 1 _ n3
  refine law6 h20 ho hoth hc hne t4 fun H5 u v huv t5 k5 => ?_
  have n5 := k5 1 _ n4
  have cf : ∀ {a b : Nm}, (a = o ∧ b = t ∨ a = t ∧ b = o) → Cfg a b c := fun h => h.elim (fun z => by rw [z.1, z.2]; exact ⟨ho, hoth, hc⟩) fun z => by rw [z.1, z.2]; exact ⟨hoth, ho, hc⟩
  have cx := cf hab
  have cy := cf huv
  have sub : ∀ {a b u v : Nm}, (a = o ∧ b = t ∨ a = t ∧ b = o) → (u = o ∧ v = t ∨ u = t ∧ v = o) → (a = u ∨ a = v) ∧ (b = u ∨ b = v) := fun h g => by
    rcases h with ⟨h1, h2⟩ | ⟨h1, h2⟩ <;> rcases g with ⟨g1, g2⟩ | ⟨g1, g2⟩ <;> rw [h1, h2, g1, g2] <;> first | exact ⟨.inl rfl, .inr rfl⟩ | exact ⟨.inr rfl, .inl rfl⟩
  have or1 : ∀ {a u v : Nm}, (a = u ∨ a = v) → ([Mem.n u, .n v].any fun d => leM (.n a) d) = true := fun h => h.elim (fun e => by rw [e]; exact List.any_eq_true.mpr ⟨_, List.mem_cons_self, leM_refl _⟩) fun e => by rw [e]; exact List.any_eq_true.mpr ⟨_, List.mem_cons_of_mem _ List.mem_cons_self, leM_refl _⟩
  have or2 : ∀ {a u v : Nm}, (a = u ∨ a = v) → ([Mem.t2 u c, .t2 v c].any fun d => leM (.t2 a c) d) = true := fun h => h.elim (fun e => by rw [e]; exact List.any_eq_true.mpr ⟨_, List.mem_cons_self, leM_refl _⟩) fun e => by rw [e]; exact List.any_eq_true.mpr ⟨_, List.mem_cons_of_mem _ List.mem_cons_self, leM_refl _⟩
  have s1 := sub hab huv
  have s2 := sub huv hab
  have hle : leL [.t2 a c, .t2 b c] [.t2 u c, .t2 v c] = true := b2 (or2 s1.1) (b2 (or2 s1.2) rfl)
  have hA : okK [.t2 u c, .t2 v c] := ⟨nofun, b2 cy.ok1 (b2 cy.ok2 rfl), Nat.le_of_ble_eq_true rfl⟩
  refine law7 KK hn cx cy hA (or1 s2.1) (or1 s2.2) hle ?_
  refine law8 (dn hn rfl) (by decide) t5 n5 fun H6 j rs r1 r2 r3 => ?_
  refine law10 (A := [.t2 u c, .t2 v c]) r1 hA (Nat.le_of_ble_eq_true rfl) (leL_refl _) (fun e he => jn_el KK hn cx hA hle (r2 e he)) fun l' u' a1 a2 a3 a4 => ?_
  exact law11 r1 a1 a2 a3 a4 q
end
section
variable {frz : Frz} {n m f : Nat} {as xs : List AV} {a : AV} {H H' : AH} {Q : K1} {p pd : Addr × Addr} {es : List (PyData × AV)} {Γ : Gam} {vs : Vars} {K : K2} {v0 v1 v2 v3 v4 v5 v6 v7 v8 v9 v10 v11 : Option AV}
noncomputable def skRes (frz : Frz) (x y z : PyData) : Res := iBody (iden tl.txt mF mM frz 12) (tl.txt.fnD 35) [] [.list [.py x, .py y, .py z]]
noncomputable def nm10 : List Nm := [.I8, .Ch, .I64, .St, .In, .Si, .Re, .Nu, .AC, .AS]
noncomputable def oD : AO → Option (List (PyData × AV))
  | .list _ => none
  | .dict es => some es
  | .inst _ _ => none
theorem oD_k {o : AO} {es : List (PyData × AV)} (h : oD o = some es) : o = .dict es := by
  cases o with
  | dict xs => exact congrArg AO.dict (Option.some.inj h)
  | _ => exact nos h
noncomputable def isI (H : AH) (i c : Nat) (k : List (Str × AV) → Bool) : Bool := oB (H[i]?) fun ob => oB (oI ob) fun p => Nat.beq p.1 c && (!(Nat.beq i 0) && k p.2)
noncomputable def declB (H : AH) (es : List (PyData × AV)) (x : Nm) : Bool := oB (dget es (.str (nmS x))) fun a => oB (vR a) fun q => isI H q 2 fun fs =>
  (oB (List.lookup ("super" : PySem.Str) fs) fun s => oB (vD s) fun d => sameD d (nmD (sup x))) && ((oB (List.lookup ("params" : PySem.Str) fs) fun l => oB (vR l) fun l => oB (hL H l) fun xs => none0 xs && !(Nat.beq l 0)) && (List.lookup ("table_for" : PySem.Str) fs).isNone)
noncomputable def kaB (H : AH) (k : Nat) : Bool := isI H k 3 fun fs => oB (one1 fs) fun e => (e.1 == "decls") && oB (vR e.2) fun d => oB (H[d]?) fun ob => oB (oD ob) fun es => !(Nat.beq d 0) && ((es.all fun e => isStrD e.1) && nm10.all (declB H es))
noncomputable def skSeen (r : Res) : Option (Option AO × Bool) := r.bind fun p => (vR p.1).map fun k => (p.2[0]?, kaB p.2 k)
theorem sk_ok (frz : Frz) (x y z : PyData) : skSeen (skRes frz x y z) = some (some (.list [.py x, .py y, .py z]), true) := by kernel_rfl
theorem c_start (hn : 12 < n) {x y z : PyData} : ∃ k H', H'[0]? = some (.list [.py x, .py y, .py z]) ∧ kaB H' k = true ∧ ∀ Q : K1, Q (.ref k) H' → (den tl.txt frz n).fn 35 [] [.list [.py x, .py y, .py z]] Q :=
  ob_k (sk_ok frz x y z) fun r e h => om_k h fun k e2 h => ⟨k, r.2, congrArg Prod.fst h, congrArg Prod.snd h, fun Q q => by
    rw [← Nat.sub_add_cancel hn]
    exact .go (iBody_ok (iden_ok tl.txt mF mM frz (n - 13) 12) _ _ _ _ e _ (by rw [vR_k e2]; exact q))⟩
noncomputable def intsA (l : List Int) : List AV := l.map fun i => .py (.int i)
theorem ne_fro {F : Frz} {s : Addr × Addr} {j : Nat} {xs : List AV} (h : F s = some (.list xs)) (hj : hL H j = some []) : cmpA F .ne (.fro s) (.ref j) H = some (!none0 xs) := by
  show Option.bind (Option.bind (F s) oL) _ = _
  rw [h]; show Option.bind (hL H j) _ = _
  rw [hj]; rfl
theorem c_tank {s : Addr × Addr} {l : List Int} (hf : frz s = some (.list (intsA l))) (q : ∀ a b c : Int, 0 ≤ b → b < 2000000 → Q (.ref H.length) (H ++ [.list [.py (.int a), .py (.int b), .py (.int c)]])) : (den tl.txt frz (n + 1)).fn 38 [.fro s] H Q := by
  refine fn_in D_law_tank [some (.fro s), none] rfl rfl rfl ?_
  have fin : ∀ N : Int, eSs (den tl.txt frz n) (tlS D_law_tank.body) [some (.fro s), some (.py (.int N))] [AO.list []] (outK (pureK 0 H Q)) := fun N => by
    have b1 : 0 ≤ Int.fmod N 1000889 := Int.fmod_nonneg_of_pos _ (by decide)
    have b2' : Int.fmod N 1000889 < 1000889 := Int.fmod_lt_of_pos _ (by decide)
    have b3 : 0 ≤ Int.fmod ((Int.fmod N 1000889 + 149) * 139) 1998127 := Int.fmod_nonneg_of_pos _ (by decide)
    have b4 : Int.fmod ((Int.fmod N 1000889 + 149) * 139) 1998127 < 1998127 := Int.fmod_lt_of_pos _ (by decide)
    conv => whnf
    refine gO (show binA .mul (.py (.int (Int.fmod N 1000889 + 149))) (.py (.int 139)) _ = some (.py (.int ((Int.fmod N 1000889 + 149) * 139)), _) from gB_of (b2 (Nat.ble_eq_true_of_le (by omega)) rfl)) ?_
    exact ret_list (xs := [.py (.int N), .py (.int (((N.fmod 1000889 + 149) * 139).fmod 1998127)), .py (.int N)]) (Nat.zero_le _) rfl rfl (q _ _ _ b3 (Int.lt_trans b4 (by decide)))
  refine gT (ne_fro (j := 0) hf rfl) ?_
  cases l with
  | nil => exact fin 0
  | cons i r =>
    refine gA (show subA frz (.fro s) (.py (.int 0)) _ = some (.py (.int i)) from (congrArg (Option.bind · (subO (.int 0))) hf).trans (by
      have : seqIndex? 0 (intsA (i :: r)).length = some 0 := by unfold seqIndex? intsA; simp only [List.map_cons, List.length_cons]; simp
      show Option.bind (seqIndex? 0 (intsA (i :: r)).length) _ = _
      rw [this]; rfl)) ?_
    exact fin _
theorem law0 (hn : 13 < n) {s : Addr × Addr} {l : List Int} (hf : frz s = some (.list (intsA l)))
    (q : ∀ (a b c : Int) (k : Nat) (H' : AH), 0 ≤ b → b < 2000000 → H'[0]? = some (.list [.py (.int a), .py (.int b), .py (.int c)]) → kaB H' k = true → K .next [some (.fro s), some (.ref 0), some (.ref k), v3, v4, v5, v6, v7, v8, v9, v10, v11] H') :
    eS (den tl.txt frz n) (lw 0) [some (.fro s), v1, v2, v3, v4, v5, v6, v7, v8, v9, v10, v11] [] K := by
  refine wpos hn (P := fun n => eS (den tl.txt frz n) (lw 0) _ _ K) fun n hn => ?_
  refine c_tank hf fun a b c hb1 hb2 => ?_
  obtain ⟨k, H', h1, h2, h3⟩ := c_start (frz := frz) (n := n + 1) (Nat.lt_of_lt_of_le (by decide) (Nat.succ_le_succ hn)) (x := .int a) (y := .int b) (z := .int c)
  refine h3 _ ?_
  exact q a b c k H' hb1 hb2 h1 h2
end
section
variable {prog : Program} {w : World} {cls : Cls} {B B0 B1 : Base} {μ μ₀ μ' μ'' : Mu} {H H' : AH} {s s₀ s' s'' : Shared} {h h' : Heap} {A : Around} {F : Frz} {K : Frag} {N : Nam} {Γ : Gam} {n : Nat} {env : Env} {nm : List PySem.Str} {vs vs' : Vars} {X : Addr → Prop}
noncomputable def renR : Option (Addr × Addr) → AV
  | some p => .fro p
  | none => .py .none
mutual
noncomputable def renA (μ : Mu) : AV → AV
  | .py d => .py d
  | .ref i => renR (μ[i]?)
  | .mix xs => .mix (renAs μ xs)
  | .fro p => .fro p
noncomputable def renAs (μ : Mu) : List AV → List AV
  | [] => []
  | a :: r => renA μ a :: renAs μ r
end
noncomputable def renP {α : Type} (μ : Mu) : List (α × AV) → List (α × AV)
  | [] => []
  | e :: r => (e.1, renA μ e.2) :: renP μ r
noncomputable def renO (μ : Mu) : AO → AO
  | .list xs => .list (renAs μ xs)
  | .dict es => .dict (renP μ es)
  | .inst c fs => .inst c (renP μ fs)
theorem renA_ref {i : Nat} {p : Addr × Addr} (e : μ[i]? = some p) : renA μ (.ref i) = .fro p := congrArg renR e
theorem VR.ren (k : TK h h') {a : AV} {v : Value} (r : VR μ h a v) : VR μ' h' (renA μ a) v :=
  r.rec (motive_1 := fun a v _ => VR μ' h' (renA μ a) v) (motive_2 := fun as vs _ => VRs μ' h' (renAs μ as) vs)
    (fun r => .py (reads_tk k r rfl)) (fun e => by rw [renA_ref e]; exact .fro) (fun h1 h2 h3 _ ih => .mix (k _ _ _ _ h1 h2 h3) h2 h3 ih) .fro .nil (fun _ _ i1 i2 => .cons i1 i2)
theorem VRs.ren (k : TK h h') : ∀ {as : List AV} {vs : List Value}, VRs μ h as vs → VRs μ' h' (renAs μ as) vs := fun r => by
  induction r using VRs.rec (motive_1 := fun _ _ _ => True) with
  | nil => exact .nil
  | cons h1 h2 _ ih => exact .cons (h1.ren k) ih
  | _ => trivial
theorem renP_fst {α : Type} : ∀ es : List (α × AV), (renP μ es).map (·.1) = es.map (·.1)
  | [] => rfl
  | e :: r => congrArg (e.1 :: ·) (renP_fst r)
theorem OR.ren {o : AO} {p : Addr × Addr} (k : TK h h') (k1 : ∀ q, h.get? p.1 = some q → h'.get? p.1 = some q) (k2 : ∀ q, h.get? p.2 = some q → h'.get? p.2 = some q) (x : OR w cls μ h o p) : OR w cls μ' h' (renO μ o) p := by
  cases o with
  | list xs => exact ⟨x.1, x.2.imp fun vs z => z.imp fun n z => ⟨k2 _ z.1, z.2.ren k⟩⟩
  | dict es => exact ⟨x.1, ⟨x.2.1.1, by rw [renP_fst]; exact x.2.1.2⟩, x.2.2.imp fun r z => z.imp fun n z => ⟨k2 _ z.1, DR.ind (P := fun es r => DR w μ' h' (renP μ es) r) .nil (fun _ _ _ _ _ h1 h2 h3 _ ih => .cons (reads_tk k h1 rfl) (h2.ren k) h3 ih) z.2⟩⟩
  | inst c fs => exact x.imp fun r z => z.imp fun n z => ⟨k1 _ z.1, k2 _ z.2.1, z.2.2.rec (motive := fun es r _ => FD μ' h' (renP μ es) r) .nil fun h1 h2 _ ih => .cons h1 (h2.ren k) ih⟩
open Classical in
noncomputable def frzOf (μ : Mu) (H : AH) (F : Frz) : Frz := fun p => if e : ∃ i, i ≠ 0 ∧ μ[i]? = some p then (H[Classical.choose e]?).map (renO μ) else F p
theorem frzOf_at (nd : (μ.map (·.2)).Nodup) {i : Nat} {p : Addr × Addr} (h0 : i ≠ 0) (hi : μ[i]? = some p) : frzOf μ H F p = (H[i]?).map (renO μ) := by
  unfold frzOf
  have e : ∃ i, i ≠ 0 ∧ μ[i]? = some p := ⟨i, h0, hi⟩
  rw [dif_pos e]
  have := Classical.choose_spec e
  have : Classical.choose e = i := bc fun hne => nodup_get nd this.2 hi hne rfl
  rw [this]
open Classical in
noncomputable def nowB (t : Addr × Addr) (env : Env) (h : Heap) : Base := fun a => if a = t.2 ∨ Own env a then none else h.get? a
theorem nowB_of {t : Addr × Addr} {a : Addr} {o : Obj} (h1 : a ≠ t.2) (h2 : ¬ Own env a) (e : h.get? a = some o) : nowB t env h a = some o := by
  unfold nowB; rw [if_neg (fun z => z.elim h1 h2)]; exact e
theorem nowB_no {t : Addr × Addr} {a : Addr} (z : a = t.2 ∨ Own env a) : nowB t env h a = none := by unfold nowB; rw [if_pos z]
theorem nowB_some {t : Addr × Addr} {a : Addr} {o : Obj} (e : nowB t env h a = some o) : h.get? a = some o := by
  classical
  by_cases z : a = t.2 ∨ Own env a
  · rw [nowB_no z] at e; exact nos e
  · unfold nowB at e; rw [if_neg z] at e; exact e
theorem own_obj (Fr : FR B env nm vs μ h) {a : Addr} (x : Own env a) : Off μ a ∧ B a = none ∧ ∃ o, h.get? a = some o ∧ (∀ vs n, o.data ≠ .seq vs n) ∧ o.data ≠ .plain :=
  x.elim (fun e => e ▸ ⟨Fr.offL, Fr.newL, Fr.ns.elim fun m z => ns_ns z.1⟩) fun z => z.elim fun y e => have c := Fr.cell y a e; ⟨c.2.1, c.2.2.1, c.1.elim fun v z => cell_ns z⟩
theorem now_keeps (S : SR w cls B μ H s.heap) (Fr : FR B env nm vs μ s.heap) {t : Addr × Addr} (ht : μ[0]? = some t) {a : Addr} {o : Obj} (hb : B a = some o) : nowB t env s.heap a = some o :=
  nowB_of (fun z => nos ((S.new t (List.mem_of_getElem? ht)).symm.trans (z ▸ hb))) (fun z => nos ((own_obj Fr z).2.1.symm.trans hb)) (S.base a o hb)
theorem now_tk (S : SR w cls B μ H s.heap) (Fr : FR B env nm vs μ s.heap) {t : Addr × Addr} (ht : μ[0]? = some t) (hh : ∀ a q, nowB t env s.heap a = some q → h'.get? a = some q) : TK s.heap h' := fun a o vs n e hc hd =>
  hh a o (nowB_of (fun z => S.not_tuple e hc (z ▸ List.mem_map_of_mem (List.mem_of_getElem? ht))) (fun z => (own_obj Fr z).2.2.elim fun o' y => y.2.1 vs n (Option.some.inj (e.symm.trans y.1) ▸ hd)) e)
theorem frz_ok (S : SR w cls B μ H s.heap) (Fr : FR B env nm vs μ s.heap) {t : Addr × Addr} {ts : List AV} (ht : μ[0]? = some t) (h0 : H[0]? = some (.list ts)) (fz : FzOk w cls B F) : FzOk w cls (nowB t env s.heap) (frzOf μ H F) := by
  intro p o e h' hh
  by_cases z : ∃ i, i ≠ 0 ∧ μ[i]? = some p
  · obtain ⟨i, hi0, hi⟩ := z
    rw [frzOf_at S.nodup hi0 hi] at e
    obtain ⟨o', ho', rfl⟩ := Option.map_eq_some_iff.mp e
    have x := S.obj i o' p ho' hi
    have hp2 : ∀ q, s.heap.get? p.2 = some q → h'.get? p.2 = some q := fun q eq => hh _ _ (nowB_of (nodup_get S.nodup hi ht hi0) (fun z => (own_obj Fr z).1 (List.mem_map_of_mem (List.mem_of_getElem? hi))) eq)
    refine x.ren (now_tk S Fr ht hh) (fun q eq => ?_) hp2
    induction o' using AO.casesOn with
    | list xs => rw [x.1] at eq ⊢; exact hp2 q eq
    | dict xs => rw [x.1] at eq ⊢; exact hp2 q eq
    | inst c fs =>
      obtain ⟨_, _, h1, _⟩ := x
      cases Option.some.inj (h1.symm.trans eq)
      refine hh _ _ (nowB_of (fun z => ?_) (fun z => (own_obj Fr z).2.2.elim fun o2 y => y.2.2 (by cases Option.some.inj (h1.symm.trans y.1); rfl)) h1)
      obtain ⟨_, vs, n, hl, _⟩ := S.obj 0 _ t h0 ht
      rw [z] at h1
      exact nomatch congrArg Obj.data (Option.some.inj (hl.symm.trans h1))
  · have e' : F p = some o := by
      unfold frzOf at e
      rwa [dif_neg z] at e
    exact fz p o e' h' fun a q eq => hh a q (now_keeps S Fr ht eq)
noncomputable def ren1 (μ : Mu) : AV → AV
  | .ref 0 => .ref 0
  | a => renA μ a
theorem VR.ren1 {t : Addr × Addr} (ht : μ[0]? = some t) {a : AV} {v : Value} (r : VR μ h a v) : VR [t] h (ren1 μ a) v := by
  have o : VR [t] h (renA μ a) v := r.ren (TK.refl h)
  cases a with
  | ref i =>
    cases i with
    | zero => exact r.ref_m rfl (m := fun v => VR [t] h (.ref 0) v) fun p hp => by cases Option.some.inj (ht.symm.trans hp); exact .ref rfl
    | succ i => exact o
  | _ => exact o
theorem now_sr (S : SR w cls B μ H s.heap) {t : Addr × Addr} {ds : List PyData} (ht : μ[0]? = some t) (h0 : H[0]? = some (.list (ds.map .py))) : SR w cls (nowB t env s.heap) [t] [.list (ds.map .py)] s.heap := by
  refine ⟨rfl, List.nodup_cons.mpr ⟨(nomatch ·), List.nodup_nil⟩, fun i o p e1 e2 => ?_, fun a o e => nowB_some e, fun p hp => List.mem_singleton.mp hp ▸ nowB_no (.inl rfl)⟩
  cases i with
  | zero =>
    cases Option.some.inj e1; cases Option.some.inj e2
    have x := S.obj 0 _ t h0 ht
    exact ⟨x.1, x.2.imp fun vs z => z.imp fun n z => ⟨z.1, stills_vr (stills_py ds) z.2⟩⟩
  | succ i => exact nomatch e1
theorem now_fr (Fr : FR B env nm vs μ h) {t : Addr × Addr} (ht : μ[0]? = some t) : FR (nowB t env h) env nm (vs.map (Option.map (ren1 μ))) [t] h := by
  have off : ∀ a, Own env a → Off [t] a ∧ nowB t env h a = none := fun a ha => ⟨fun z => (own_obj Fr ha).1 (List.mem_singleton.mp z ▸ List.mem_map_of_mem (List.mem_of_getElem? ht)), nowB_no (.inr ha)⟩
  refine ⟨Fr.kind, Fr.globals, Fr.builtins, by rw [List.length_map]; exact Fr.len, Fr.ns.imp fun m z => ⟨z.1, fun i x a e1 e2 => ?_⟩, (off _ (.inl rfl)).1, (off _ (.inl rfl)).2, fun x c e => ⟨(Fr.cell x c e).1, (off _ (.inr ⟨x, e⟩)).1, (off _ (.inr ⟨x, e⟩)).2, (Fr.cell x c e).2.2.2⟩, Fr.apart, Fr.has⟩
  rw [List.getElem?_map] at e2
  refine om_k e2 fun b hb e2 => om_k e2 fun a' ha e2 => ?_
  rw [ha] at hb
  exact (z.2 i x a' e1 hb).imp fun v y => ⟨e2 ▸ y.1.ren1 ht, y.2⟩
theorem renP_find (k : PyData) : ∀ es : List (PyData × AV), dget (renP μ es) k = (dget es k).map (renA μ)
  | [] => rfl
  | e :: r => by
    have ih : Option.map _ (List.find? _ (renP μ r)) = Option.map (renA μ) (Option.map _ (List.find? _ r)) := renP_find k r
    unfold dget
    rw [renP, List.find?_cons, List.find?_cons]
    cases PyData.eqv e.1 k with
    | true => rfl
    | false => exact ih
theorem renP_lookup (x : PySem.Str) : ∀ fs : List (PySem.Str × AV), List.lookup x (renP μ fs) = (List.lookup x fs).map (renA μ)
  | [] => rfl
  | e :: r => by
    have ih := renP_lookup x r
    obtain ⟨y, a⟩ := e
    rw [renP, List.lookup_cons, List.lookup_cons]
    cases x == y with
    | true => rfl
    | false => exact ih
theorem renP_strs : ∀ es : List (PyData × AV), ((renP μ es).all fun e => isStrD e.1) = es.all fun e => isStrD e.1
  | [] => rfl
  | e :: r => congrArg (isStrD e.1 && ·) (renP_strs r)
theorem nat_ne {a b : Nat} (h : (!(Nat.beq a b)) = true) : a ≠ b := fun e => by
  subst e
  rw [Nat.beq_refl] at h; exact bf h
theorem nm10_mem {x : Nm} (h : x ≠ .An) : x ∈ nm10 := by
  cases x <;> first | exact absurd rfl h | decide
theorem isI_k {i c : Nat} {k : List (PySem.Str × AV) → Bool} (h : isI H i c k = true) {G : Prop} (g : ∀ fs, H[i]? = some (.inst c fs) → i ≠ 0 → k fs = true → G) : G :=
  oBk h fun ob e1 h => oBk h fun q e2 h => band_k h fun h1 h => band_k h fun h2 h => g q.2 (by rw [e1, oI_k e2, Nat.eq_of_beq_eq_true h1]) (nat_ne h2) h
theorem ka_frz (nd : (μ.map (·.2)).Nodup) (hl : μ.length = H.length) {k : Nat} (hk : kaB H k = true) : ∃ p pd es, μ[k]? = some p ∧ k ≠ 0 ∧ KA (frzOf μ H F) p pd es := by
  have at_ : ∀ {i : Nat} {o : AO}, H[i]? = some o → ∃ p, μ[i]? = some p := fun e => ⟨_, List.getElem?_eq_getElem (hl ▸ (List.getElem?_eq_some_iff.mp e).1)⟩
  have fr : ∀ {i : Nat} {o : AO} {p : Addr × Addr}, H[i]? = some o → i ≠ 0 → μ[i]? = some p → frzOf μ H F p = some (renO μ o) := fun e h0 hp => (frzOf_at nd h0 hp).trans (congrArg (Option.map (renO μ)) e)
  refine isI_k hk fun fs e1 hk0 h => oBk h fun e e2 h => band_k h fun h1 h => oBk h fun d e3 h => oBk h fun ob e4 h => oBk h fun es e5 h => band_k h fun hd0 h => band_k h fun h2 h3 => ?_
  rw [oD_k e5] at e4
  obtain ⟨x, a⟩ := e
  cases beq_iff_eq.mp h1
  cases vR_k e3
  rw [one1_k e2] at e1
  obtain ⟨p, hp⟩ := at_ e1
  obtain ⟨pd, hpd⟩ := at_ e4
  refine ⟨p, pd, renP μ es, hp, hk0, (fr e1 hk0 hp).trans (by show some (AO.inst 3 [("decls", renA μ (.ref d))]) = _; rw [renA_ref hpd]), fr e4 (nat_ne hd0) hpd, (renP_strs es).trans h2, fun x hx => ?_⟩
  refine oBk (List.all_eq_true.mp h3 x (nm10_mem hx)) fun a g1 h => oBk h fun q g2 h => isI_k h fun fs g3 hq0 h => band_k h fun h4 h => band_k h fun h5 h6 => oBk h4 fun s g4 h => oBk h fun sd g5 h4 => oBk h5 fun l g6 h => oBk h fun l' g7 h => oBk h fun xs g8 h => band_k h fun h7 hl0 => ?_
  cases vR_k g2
  cases vD_k g5
  cases vR_k g7
  have g9 := hL_k g8
  rw [none0_k h7] at g9
  obtain ⟨pq, hpq⟩ := at_ g3
  obtain ⟨pl, hpl⟩ := at_ g9
  exact ⟨pq, renP μ fs, pl, {
    g := by rw [renP_find, g1]; exact congrArg some (renA_ref hpq)
    q := fr g3 hq0 hpq
    s := by rw [renP_lookup, g4, ← sameD_ok _ h4]; rfl
    p := by rw [renP_lookup, g6]; exact congrArg some (renA_ref hpl)
    t := by rw [renP_lookup, Option.isNone_iff_eq_none.mp h6]; rfl
    l := fr g9 (nat_ne hl0) hpl }⟩
end
section
variable {prog : Program} {w : World} {cls : Cls} {B B0 B1 : Base} {μ μ₀ μ' μ'' : Mu} {H H' : AH} {s s₀ s' s'' : Shared} {h h' : Heap} {A : Around} {F : Frz} {K : Frag} {N : Nam} {Γ : Gam} {n : Nat} {env : Env} {nm : List PySem.Str} {vs vs' : Vars} {X : Addr → Prop}
structure LawEnd (s : Shared) (v : Value) (s' : Shared) : Prop where
  v : v = .bool true
  k : ∀ a o, s.heap.get? a = some o → s'.heap.get? a = some o
  os : s'.os = s.os
  gens : s'.gens = s.gens
theorem law_behind (x : Facts tl.txt cls B0 K) (hB0 : ∀ a o, s₀.heap.get? a = some o → B0 a = some o) {sa : Addr × Addr} {F : Frz} (fz : FzOk w cls B0 F) (hA : AOk A 121 6097) (nd : D_law.nm.Nodup) {rest : List Stmt} (ok : bSs tl.txt.N D_law.nm env.scope (tlS D_law.body) rest = true)
    {x1 x2 x3 : Int} {k : Nat} (q1 : 0 ≤ x2) (q2 : x2 < 2000000) (q3 : H[0]? = some (.list [.py (.int x1), .py (.int x2), .py (.int x3)])) (q4 : kaB H k = true) (S1 : SR w cls B0 μ H s.heap) (F1 : FR B0 env D_law.nm [some (.fro sa), some (.ref 0), some (.ref k), none, none, none, none, none, none, none, none, none] μ s.heap) (L : Le [] s₀ μ s)
    {R : Flow → Shared → Prop} (r : ∀ s', LawEnd s₀ (.bool true) s' → R (.ret (.bool true)) s') : WP prog w A (execs rest env) R s := by
  obtain ⟨p, pd, es, hp, hk0, KK⟩ := ka_frz (F := F) S1.nodup S1.len q4
  obtain ⟨t, ht, _⟩ := S1.at_ q3
  have q3' : H[0]? = some (.list ([PyData.int x1, .int x2, .int x3].map .py)) := q3
  have S2 := now_sr (env := env) S1 ht q3'
  have F2 := now_fr F1 ht
  have hB2 : BLe B0 (nowB t env s.heap) := fun a o e => now_keeps S1 F1 ht e
  have T2 := tx_all (prog := prog) (x.mono hB2) (frz_ok S1 F1 ht q3 fz) 60
  have e1 : ren1 μ (.ref k) = .fro p := by
    cases k with
    | zero => exact absurd rfl hk0
    | succ k => exact renA_ref hp
  have hvs : ([some (.fro sa), some (.ref 0), some (.ref k), none, none, none, none, none, none, none, none, none] : Vars).map (Option.map (ren1 μ)) = [some (.fro sa), some (.ref 0), some (.fro p), none, none, none, none, none, none, none, none, none] := by
    rw [← e1]; rfl
  rw [hvs] at F2
  exact exs_sound T2 (tlS D_law.body) (Q := fun o _ _ => o = .ret (.py (.bool true))) ⟨BLe.refl _, nd, S2, F2, hA.le (Nat.le_refl _) (by decide)⟩ ok (law_rest (n := 60) KK (by decide) ⟨q1, q2⟩ fun _ _ => rfl)
    ⟨fun _ _ _ _ e _ _ _ => (nomatch e), fun a v _ _ _ s' e S3 _ L3 r3 => by
      cases e
      rw [r3.bool_m (n := true) rfl (m := fun v => v = .bool true) rfl]
      exact r s' ⟨rfl, fun a o e => S3.base a o (hB2 a o (hB0 a o e)), L3.os.trans L.os, L3.gens.trans L.gens⟩⟩
theorem law_entry (x : Facts tl.txt cls B0 K) (hB0 : ∀ a o, s.heap.get? a = some o → B0 a = some o) (hB1 : ∀ a o, B0 a = some o → s.heap.get? a = some o) {a sa : Addr} (hf : FnAt B0 tl.txt.N D_law a) {l : List Int} {F : Frz} (fz : FzOk w cls B0 F) (hF : F (sa, sa) = some (.list (intsA l))) (hA : AOk A 122 6100) :
    codeAny (model prog w) A (.call (.ref a) ⟨[.ref sa], []⟩) (RV (LawEnd s)) s := by
  have T := tx_all (prog := prog) x fz 60
  obtain ⟨o, fd, body, ds, hf⟩ := hf
  have I := hf.i
  have S : SR w cls B0 [] [] s.heap := ⟨rfl, List.nodup_nil, fun i o p e => nos (List.getElem?_nil.symm.trans e), hB1, fun p hp => nomatch hp⟩
  have r : VRs [] s.heap [.fro (sa, sa)] [.ref sa] := .cons .fro .nil
  have hh := holds_sr S (BLe.refl B0)
  have hdr : A.depth < recursionLimit := Nat.lt_of_le_of_lt (Nat.le_add_right _ _) hA.depth
  have hds : ds = [] := List.eq_nil_of_length_eq_zero (I.dval _ hh).length.symm
  subst hds
  have hnl : (D_law.nm.take D_law.np).length = 1 := rfl
  refine codeAny_call_function hdr (hh _ _ hf.ho) hf.hd I.co I.gen I.stmts (I.code _ hh) (WP.any ?_)
  refine bind_args (names := D_law.nm.take D_law.np) (ds := []) I.p1 I.p2 I.p3 I.p4 I.names (I.nodup.sublist (List.take_sublist _ _)) (Nat.le_of_eq hnl.symm) (Nat.le_of_eq hnl) (Nat.zero_le _) (fun A E Q q => I.dseq.elim (fun z => ?_) fun z => z.elim fun t z => z.elim fun ot z => z.elim fun nt z => ?_) ?_
  · rw [z.1]
    exact wpAny_bind (wpAny_pure (wpAny_pure (q none rfl)))
  · rw [z.1]
    exact wpAny_seqItems (hh _ _ z.2.1) z.2.2 (q _ rfl)
  · rw [hnl, I.closure, I.globals, I.builtins]
    refine WP.any (wpAny_newFunctionEnv_cells I.kind (fun x hx => ?_) fun env he s' x' => ?_)
    · exact (I.kinds x.1 ((zip_fst_sub _ _).subset (List.mem_map_of_mem hx))).imp id fun hk => ⟨hk, cells_has (.inl (mem_of_lookup hk))⟩
    · refine call_frame (full := [.fro (sa, sa)]) (np := 1) S I.kind I.nodup I.np I.kinds r rfl he x' fun S' L' F' hown => ⟨x.lim _ (holds_sr S' (BLe.refl B0)), codeAny_func (WP.any ?_)⟩
      have hA' : AOk (A.deeper env) 121 6097 := AOk.deeper hA
      have ok : bSs tl.txt.N D_law.nm env.scope (.cons (lw 0) (tlS D_law.body)) body = true := by rw [he]; exact I.ok
      refine i_sscons (m := fun body => WP prog w (A.deeper env) (execs body env) _ s') ok fun st rest ok1 ok2 => ?_
      have E0 : ExS prog w tl.txt.N cls B0 (den tl.txt F 60) 60 (lw 0) := ex_asg T (ev_sound T _) _
      refine wpAny_execs_cons (E0 (Q := fun o vs H => o = .next ∧ ∃ (a b c : Int) (k : Nat), 0 ≤ b ∧ b < 2000000 ∧ H[0]? = some (.list [.py (.int a), .py (.int b), .py (.int c)]) ∧ kaB H k = true ∧ vs = [some (.fro (sa, sa)), some (.ref 0), some (.ref k), none, none, none, none, none, none, none, none, none])
        ⟨BLe.refl B0, I.nodup, S', F', hA'.le (Nat.le_refl _) (by decide)⟩ ok1 (law0 (frz := F) (n := 60) (by decide) hF fun a b c k H' q1 q2 q3 q4 => ⟨rfl, a, b, c, k, q1, q2, q3, q4, rfl⟩) ⟨fun vs1 μ1 H1 s1 z S1 F1 L1 => ?_, fun _ _ _ _ _ _ z => (nomatch z.1)⟩)
      obtain ⟨_, x1, x2, x3, k, q1, q2, q3, q4, rfl⟩ := z
      exact law_behind x hB0 fz hA' I.nodup ok2 q1 q2 q3 q4 S1 F1 (((LeX.of (X := Own env) L' S).trans L1).le hown) fun s' z => z
end
theorem args_inv {args : List WData} (h : WShape.hasAll [] args [.list .int] = true) : ∃ l : List Int, args = [.list (l.map .int)] := by
  cases args with
  | nil => exact bf h
  | cons x r =>
    cases r with
    | cons y r => exact bf (bd2 h)
    | nil =>
      obtain ⟨xs, rfl, h2⟩ := hasW_list (bd1 h)
      obtain ⟨l, rfl⟩ := items_int h2
      exact ⟨l, rfl⟩
theorem well_ints {P : Params} {h h' : Heap} (l : List Int) : ∀ {vs : List Value}, WellAll P h vs (l.map .int) → VRs [] h' (intsA l) vs := by
  induction l with
  | nil => intro vs x; cases x; exact .nil
  | cons i l ih =>
    intro vs x
    obtain ⟨v, vs', rfl, x1, x2⟩ := wellAll_cons_inv x
    cases x1
    exact .cons (.py (.int _ _)) (ih x2)
theorem law_call : WalkX qv loose Xno (fun s => seenB tl s.heap.get?) (fun _ => (true, textFs, textMs)) PySem.Challenge.rw_sy0060_01.row.toRowW lawDef [] fun f vs => PySem.call f vs := by
  intro w s₀ s₁ mg mb G Y a o pm cd doc dV kV h1 h2 h3 h4 h5 hg args vals as L hpre hlay hr hw hns
  obtain ⟨l, rfl⟩ := args_inv (pre_splitW hpre).1
  cases hw with
  | cons w1 wr =>
    cases wr
    cases w1 with
    | @list sa vs xs hsa hwi =>
      have X := factsB_ok (t := tl) (B0 := fun a => s₁.heap.get? a) L.keeps (congrArg Prod.fst Y) (all_zip ((congrArg (fun y => ((tl.fn0 :: tl.fns).zip y.2.1).all fun q => okCode tl.nam q.1.2 q.2) Y).trans textF_ok)) (all_zip ((congrArg (fun y => (tl.mes.zip y.2.2).all fun q => okCode tl.nam q.1.2.2 q.2) Y).trans textM_ok))
      obtain ⟨mg', mb', ns⟩ := X.ns
      obtain ⟨a', e1, _, e3⟩ := ns.fn 41
      have hmg : mg' = mg := ((ns.ns s₁.heap fun _ _ e => e).1.eq_nsMap).trans (G.T.g.eq_nsMap).symm
      have hnm : lawDef.name = "law" := defOf_name def_ok
      have hlaw : tl.txt.N.fn 41 = "law" := rfl
      rw [hnm] at h5
      rw [hmg, hlaw, h5] at e1
      cases e1
      have fz : FzOk w (clsOf tl s₀.heap.get?) (fun a => s₁.heap.get? a) (fun p => if p = (sa, sa) then some (.list (intsA l)) else none) := by
        intro p o e h' hh
        have e2 : (if p = (sa, sa) then some (AO.list (intsA l)) else none) = some o := e
        by_cases hp : p = (sa, sa)
        · rw [if_pos hp] at e2
          clear e
          subst hp
          cases e2
          exact ⟨rfl, _, _, hh _ _ hsa, by simpa using well_ints l hwi⟩
        · rw [if_neg hp] at e2; exact nos e2
      have k := law_entry (prog := pw) (A := callerA) X (fun _ _ e => e) (fun _ _ e => e) e3 fz (if_pos rfl) ⟨rfl, rfl, by decide, by decide⟩
      refine WP.any (wpAny_call (codeAny_mono k fun r s' z => ?_))
      cases r with
      | error e => exact z.elim
      | ok f =>
        cases f with
        | ret v =>
          obtain ⟨hv, hk, hos, hgs⟩ := z
          subst hv
          exact ⟨.inl ⟨.bool true, .bool true, [], rfl, fun cls => rfl, .bool true, (by wrow_post), fun _ => ⟨List.nodup_nil, fun a h => nomatch h⟩⟩, OldK.of_keep hk, hos, AllBare.of_eq (hgs.trans L.gens)⟩
        | _ => exact z.elim
theorem law_holds : PySem.Challenge.rw_sy0060_01.Holds := head ran_ok law_call
end Mine
theorem PySem.Challenge.cw_sy0060_01_holds : PySem.Challenge.rw_sy0060_01.Holds :=
  Mine.law_holds
