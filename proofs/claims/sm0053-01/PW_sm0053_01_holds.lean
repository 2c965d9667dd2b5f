import PyProof.Rows.All
import Wide.All
import OpenK.AllK
import Wide.FinOn
import KE.KLcPair
import KE.KDictOf
import PyProof.AttrMissHeap
import KE.KLam
import KE.KSlice
import KE.KRevSl
import PyProof.P3Eq
import PyProof.Rows.Nodes
import PyProof.Rows.Chain
import KE.KSortTup
import KE.KSorted
import PySem.Challenge.RW_sm0053_01

set_option Elab.async false
namespace Mine

/-! ### Q0 -/
noncomputable section
open PySem PySem.W PyProof.Rows
set_option Elab.async false

/-! ## Run: total runs that raise nothing -/
noncomputable def Rest (s s' : Shared) : Prop := s'.gens = s.gens ∧ s'.os = s.os ∧ s'.drawn = s.drawn
theorem Rest.refl (s : Shared) : Rest s s := ⟨rfl, rfl, rfl⟩
theorem Rest.trans {a b c : Shared} (h : Rest a b) (k : Rest b c) : Rest a c := ⟨k.1.trans h.1, k.2.1.trans h.2.1, k.2.2.trans h.2.2⟩

noncomputable def Run (prog : Program) (w : World) {α : Type} (A : Around) (t : Sem α) (h : Heap) (Q : α → Heap → Prop) : Prop :=
  ∀ (s : Shared) (E : Value → Shared → Prop) (Q' : α → Shared → Prop), s.heap = h → (∀ a s', Rest s s' → Q a s'.heap → Q' a s') → wpAny (model prog w) A t Q' E s

structure Room (A : Around) (k : Nat) : Prop where
  hd : A.handled = none
  depth : A.depth + k < 900
  units : A.units + 10 * k < 9000

theorem Room.lt {A : Around} {k : Nat} (r : Room A k) : A.depth < recursionLimit := by have := r.depth; unfold recursionLimit; lia
theorem Room.ul {A : Around} {k : Nat} (r : Room A k) : A.units < cLine := by have := r.units; unfold cLine; lia
theorem Room.deeper {A : Around} {k : Nat} (r : Room A (k+1)) (env : Env) : Room (A.deeper env) k :=
  ⟨r.hd, by have := r.depth; show A.depth + 1 + k < 900; lia, by have := r.units; show A.units + 3 + 10 * k < 9000; lia⟩
theorem Room.in1 {A : Around} {k : Nat} (r : Room A (k+1)) : Room A.in1 k :=
  ⟨r.hd, by have := r.depth; show A.depth + k < 900; lia, by have := r.units; show A.units + 1 + 10 * k < 9000; lia⟩
theorem Room.less {A : Around} {k j : Nat} (r : Room A k) (h : j ≤ k) : Room A j :=
  ⟨r.hd, by have := r.depth; lia, by have := r.units; lia⟩

section
variable {prog : Program} {w : World} {α β : Type} {A : Around} {h : Heap} {env : Env}

theorem Run.wp {t : Sem α} {Q : α → Heap → Prop} {s : Shared} {E : Value → Shared → Prop} {Q' : α → Shared → Prop} (r : Run prog w A t h Q) (e : s.heap = h)
    (k : ∀ a s', Rest s s' → Q a s'.heap → Q' a s') : wpAny (model prog w) A t Q' E s := r s E Q' e k

theorem Run.mono {t : Sem α} {Q Q' : α → Heap → Prop} (r : Run prog w A t h Q) (k : ∀ a h', Q a h' → Q' a h') : Run prog w A t h Q' :=
  fun _ _ _ e c => r.wp e fun a s' re q => c a s' re (k a _ q)

/-- what is asked at the end stands once, not at each step -/
theorem Run.gen {t : Sem α} {Q₀ : α → Heap → Prop} (k : ∀ Q : α → Heap → Prop, (∀ a h', Q₀ a h' → Q a h') → Run prog w A t h Q) : Run prog w A t h Q₀ := k Q₀ fun _ _ x => x

theorem r_pure {a : α} {Q : α → Heap → Prop} (q : Q a h) : Run prog w A (pure a) h Q :=
  fun s _ _ e c => wpAny_pure (c a s (Rest.refl s) (e ▸ q))

theorem r_bind {m : Sem α} {f : α → Sem β} {Q : β → Heap → Prop} (r : Run prog w A m h fun a h' => Run prog w A (f a) h' Q) : Run prog w A (m >>= f) h Q :=
  fun _ _ _ e c => wpAny_bind (r.wp e fun _ _ re q => q.wp rfl fun b s2 re2 q2 => c b s2 (re.trans re2) q2)

/-! ## expressions -/
theorem r_BinOp {l op r pos} {Q : Value → Heap → Prop}
    (k : Run prog w A (eval l env) h fun a h₁ => Run prog w A (eval r env) h₁ fun b h₂ => Run prog w A (binaryOp op a b) h₂ Q) :
    Run prog w A (eval (.BinOp l op r pos) env) h Q :=
  fun _ _ _ e c => wpAny_BinOp (k.wp e fun _ _ r1 q1 => q1.wp rfl fun _ _ r2 q2 => q2.wp rfl fun v s3 r3 q3 => c v s3 ((r1.trans r2).trans r3) q3)

theorem r_int {i k pos} {Q : Value → Heap → Prop} (q : ∀ t, Q (.int i t) h) : Run prog w A (eval (.Constant (.int i) k pos) env) h Q :=
  fun _ _ _ e c => wpAny_Constant_int (c _ _ (Rest.refl _) (e ▸ q _))
theorem r_bool {b k pos} {Q : Value → Heap → Prop} (q : Q (.bool b) h) : Run prog w A (eval (.Constant (.bool b) k pos) env) h Q :=
  fun _ _ _ e c => wpAny_Constant_bool (c _ _ (Rest.refl _) (e ▸ q))
theorem r_str {x k pos} {Q : Value → Heap → Prop} (q : ∀ t, Q (.str x t) h) : Run prog w A (eval (.Constant (.str x) k pos) env) h Q :=
  fun _ _ _ e c => wpAny_Constant_str (c _ _ (Rest.refl _) (e ▸ q _))

theorem r_add {a b : Int} {t u : Tok} {Q : Value → Heap → Prop} (q : ∀ t, Q (.int (a + b) t) h) : Run prog w A (binaryOp .Add (.int a t) (.int b u)) h Q :=
  fun _ _ _ e c => PyProof.Rows.add_int (c _ _ (Rest.refl _) (e ▸ q _))
theorem r_sub {a b : Int} {t u : Tok} {Q : Value → Heap → Prop} (q : ∀ t, Q (.int (a - b) t) h) : Run prog w A (binaryOp .Sub (.int a t) (.int b u)) h Q :=
  fun _ _ _ e c => PyProof.Rows.sub_int (c _ _ (Rest.refl _) (e ▸ q _))
theorem r_lt {a b : Int} {t u : Tok} {Q : Value → Heap → Prop} (q : Q (.bool (decide (a < b))) h) : Run prog w A (compareOp .Lt (.int a t) (.int b u)) h Q :=
  fun _ _ _ e c => PyProof.Rows.lt_int (c _ _ (Rest.refl _) (e ▸ q))
theorem r_gt {a b : Int} {t u : Tok} {Q : Value → Heap → Prop} (q : Q (.bool (decide (b < a))) h) : Run prog w A (compareOp .Gt (.int a t) (.int b u)) h Q :=
  fun _ _ _ e c => PyProof.Rows.gt_int (c _ _ (Rest.refl _) (e ▸ q))
theorem r_iadd {a b : Int} {t u : Tok} {Q : Value → Heap → Prop} (q : ∀ t, Q (.int (a + b) t) h) : Run prog w A (inplaceOp .Add (.int a t) (.int b u)) h Q :=
  fun _ _ _ e c => wpAny_iadd_int (c _ _ (Rest.refl _) (e ▸ q _))

end
end

/-! ### Q1 -/
noncomputable section
open PySem PySem.W PyProof.Rows
set_option Elab.async false

/-! ## heaps, chunks, frames -/
noncomputable abbrev Ch := Addr × (Obj → Prop)
noncomputable def Has (h : Heap) (c : Ch) : Prop := ∃ o, h.get? c.1 = some o ∧ c.2 o
noncomputable def Sub (G h : Heap) : Prop := ∀ b o, G.get? b = some o → h.get? b = some o
theorem Sub.refl (h : Heap) : Sub h h := fun _ _ e => e
theorem Sub.trans {a b c : Heap} (x : Sub a b) (y : Sub b c) : Sub a c := fun p o e => y p o (x p o e)
theorem Sub.push (h : Heap) (o : Obj) : Sub h (h.push o) := fun _ _ e => Heap.get?_push_of_some _ e
theorem Sub.has {a b : Heap} (x : Sub a b) {c : Ch} (y : Has a c) : Has b c := let ⟨o, e, p⟩ := y; ⟨o, x _ _ e, p⟩
theorem Sub.none {a b : Heap} (x : Sub a b) {p : Addr} (e : b.get? p = none) : a.get? p = none := by
  cases q : a.get? p with
  | none => rfl
  | some o => rw [x _ _ q] at e; cases e
theorem has_same {h h' : Heap} {a : Addr} (s : Heap.SameBut a h h') {c : Ch} (ne : c.1 ≠ a) (y : Has h c) : Has h' c := let ⟨o, e, p⟩ := y; ⟨o, (s.2 _ ne).trans e, p⟩

noncomputable def Own (G h : Heap) (l : List Ch) : Prop := (∀ c ∈ l, Has h c ∧ G.get? c.1 = none) ∧ (l.map (·.1)).Nodup

noncomputable def look (x : Str) : List (Str × Value) → Option Value
  | [] => none
  | (y, u) :: r => if y = x then some u else look x r
noncomputable def put (x : Str) (v : Value) : List (Str × Value) → List (Str × Value)
  | [] => [(x, v)]
  | (y, u) :: r => if y = x then (x, v) :: r else (y, u) :: put x v r
theorem look_put (x : Str) (v : Value) (y : Str) : ∀ lo, look y (put x v lo) = if y = x then some v else look y lo
  | [] => by
    unfold put look look
    by_cases h : y = x
    · subst h; simp
    · rw [if_neg (Ne.symm h), if_neg h]
  | (z, u) :: r => by
    have ih := look_put x v y r
    unfold put
    by_cases h : z = x
    · subst h
      simp only [if_true, look]
      by_cases q : y = z
      · subst q; simp
      · rw [if_neg (Ne.symm q), if_neg q, if_neg (Ne.symm q)]
    · simp only [if_neg h, look]
      by_cases q : z = y
      · subst q; simp [h]
      · rw [if_neg q, if_neg q, ih]
theorem lookup_look (x : Str) : ∀ lo : List (Str × Value), lo.lookup x = look x lo
  | [] => rfl
  | (y, u) :: r => by
    unfold look
    rw [List.lookup_cons, lookup_look x r]
    by_cases h : y = x
    · subst h; simp
    · rw [if_neg h]
      have : (x == y) = false := by simpa using Ne.symm h
      rw [this]

structure St (G B : Heap) (L : Addr) (h : Heap) (lo : List (Str × Value)) (nw : List Ch) : Prop where
  ns : ∃ m, h.Ns L m ∧ ∀ x v, look x lo = some v → m x = some v
  gb : Sub G B
  keep : Sub B h
  above : B.objs.size ≤ L
  own : Own B h nw
  off : ∀ c ∈ nw, c.1 ≠ L

theorem St.bl {G B : Heap} {L : Addr} {h : Heap} {lo nw} (S : St G B L h lo nw) : B.get? L = none := Heap.get?_none_of_le S.above
theorem St.gh {G B : Heap} {L : Addr} {h : Heap} {lo nw} (S : St G B L h lo nw) : Sub G h := S.gb.trans S.keep

/-- picking chunks -/
noncomputable def Pick (c : Ch) (nw rest : List Ch) : Prop := nw.Perm (c :: rest)
theorem Pick.head {c : Ch} {l : List Ch} : Pick c (c :: l) l := List.Perm.refl _
theorem Pick.tail {c d : Ch} {l r : List Ch} (p : Pick c l r) : Pick c (d :: l) (d :: r) := (List.Perm.cons d p).trans (List.Perm.swap c d r)

theorem Own.perm {G h : Heap} {l l' : List Ch} (O : Own G h l) (p : l.Perm l') : Own G h l' :=
  ⟨fun c hc => O.1 c (p.mem_iff.mpr hc), (p.map _).nodup_iff.mp O.2⟩
theorem Own.has {G h : Heap} {c : Ch} {l : List Ch} (O : Own G h (c :: l)) : Has h c := (O.1 c (.head _)).1
theorem Own.tail {G h : Heap} {c : Ch} {l : List Ch} (O : Own G h (c :: l)) : Own G h l := ⟨fun d hd => O.1 d (.tail _ hd), (List.nodup_cons.mp O.2).2⟩
theorem Own.left {G h : Heap} {l r : List Ch} (O : Own G h (l ++ r)) : Own G h l := ⟨fun d hd => O.1 d (List.mem_append_left _ hd), by
  have := O.2; rw [List.map_append] at this; exact (List.nodup_append.mp this).1⟩
theorem Own.right {G h : Heap} {l r : List Ch} (O : Own G h (l ++ r)) : Own G h r := ⟨fun d hd => O.1 d (List.mem_append_right _ hd), by
  have := O.2; rw [List.map_append] at this; exact (List.nodup_append.mp this).2.1⟩
theorem Own.apart {G h : Heap} {l r : List Ch} (O : Own G h (l ++ r)) {c d : Ch} (hc : c ∈ l) (hd : d ∈ r) : c.1 ≠ d.1 := by
  have := O.2; rw [List.map_append] at this
  exact (List.nodup_append.mp this).2.2 _ (List.mem_map_of_mem hc) _ (List.mem_map_of_mem hd)
theorem Own.base {G G' h : Heap} {l : List Ch} (O : Own G h l) (k : ∀ c ∈ l, G'.get? c.1 = none) : Own G' h l := ⟨fun c hc => ⟨(O.1 c hc).1, k c hc⟩, O.2⟩
theorem Own.nil {G h : Heap} : Own G h [] := ⟨(fun _ q => nomatch q), List.Pairwise.nil⟩

section
variable {G B h h' : Heap} {L : Addr} {lo : List (Str × Value)} {nw rest : List Ch}

theorem St.perm (S : St G B L h lo nw) {nw'} (p : nw.Perm nw') : St G B L h lo nw' :=
  ⟨S.ns, S.gb, S.keep, S.above, S.own.perm p, fun c hc => S.off c (p.mem_iff.mpr hc)⟩
theorem St.drop (S : St G B L h lo (nw ++ rest)) : St G B L h lo nw := ⟨S.ns, S.gb, S.keep, S.above, S.own.left, fun c hc => S.off c (List.mem_append_left _ hc)⟩
theorem St.drop1 {c : Ch} (S : St G B L h lo (c :: nw)) : St G B L h lo nw := ⟨S.ns, S.gb, S.keep, S.above, S.own.tail, fun c hc => S.off c (.tail _ hc)⟩
theorem St.has {c : Ch} (S : St G B L h lo nw) (p : Pick c nw rest) : Has h c := (S.own.perm p).has
theorem St.weak (S : St G B L h lo nw) {lo'} (k : ∀ x v, look x lo' = some v → look x lo = some v) : St G B L h lo' nw :=
  ⟨let ⟨m, a, b⟩ := S.ns; ⟨m, a, fun x v e => b x v (k x v e)⟩, S.gb, S.keep, S.above, S.own, S.off⟩

/-- a change of one owned chunk -/
theorem St.change {a : Addr} {P P' : Obj → Prop} (S : St G B L h lo nw) (p : Pick (a, P) nw rest) (s : Heap.SameBut a h h') (k : Has h' (a, P')) : St G B L h' lo ((a, P') :: rest) := by
  have T := S.perm p
  have ha := T.own.1 (a, P) (.head _)
  have hL := T.off (a, P) (.head _)
  obtain ⟨m, hm, hl⟩ := T.ns
  refine ⟨⟨m, hm.sameBut s (Ne.symm hL), hl⟩, S.gb, fun b o e => ?_, S.above, ⟨fun c hc => ?_, T.own.2⟩, fun c hc => ?_⟩
  · refine (s.2 b fun q => ?_).trans (S.keep b o e)
    rw [q] at e; rw [ha.2] at e; cases e
  · rcases List.mem_cons.mp hc with rfl | hc
    · exact ⟨k, ha.2⟩
    · have n := T.own.1 c (.tail _ hc)
      refine ⟨has_same s (fun q => ?_) n.1, n.2⟩
      exact (List.nodup_cons.mp T.own.2).1 (q ▸ List.mem_map_of_mem (f := (·.1)) hc)
  · rcases List.mem_cons.mp hc with rfl | hc
    · exact hL
    · exact T.off c (.tail _ hc)

/-- a new object -/
theorem St.push (S : St G B L h lo nw) (o : Obj) (hf : o.isFreed = false) {P : Obj → Prop} (k : P o) : St G B L (h.push o) lo ((h.objs.size, P) :: nw) := by
  obtain ⟨m, hm, hl⟩ := S.ns
  have hLs : L < h.objs.size := hm.lt
  have hB : B.get? h.objs.size = Option.none := S.keep.none (Heap.get?_none_of_le (Nat.le_refl _))
  refine ⟨⟨m, hm.keeps (Sub.push h o), hl⟩, S.gb, S.keep.trans (Sub.push h o), S.above, ⟨fun c hc => ?_, ?_⟩, fun c hc => ?_⟩
  · rcases List.mem_cons.mp hc with rfl | hc
    · exact ⟨⟨o, Heap.get?_push_size _ hf, k⟩, hB⟩
    · exact ⟨(Sub.push h o).has (S.own.1 c hc).1, (S.own.1 c hc).2⟩
  · refine List.nodup_cons.mpr ⟨fun q => ?_, S.own.2⟩
    obtain ⟨c, hc, e⟩ := List.mem_map.mp q
    obtain ⟨o', e', _⟩ := (S.own.1 c hc).1
    have := Heap.lt_size e'
    rw [e] at this; exact Nat.lt_irrefl _ this
  · rcases List.mem_cons.mp hc with rfl | hc
    · exact Nat.ne_of_gt hLs
    · exact S.off c hc
/-- growth elsewhere -/
theorem St.grow (S : St G B L h lo nw) (k : Sub h h') : St G B L h' lo nw := by
  obtain ⟨m, hm, hl⟩ := S.ns
  exact ⟨⟨m, hm.keeps k, hl⟩, S.gb, S.keep.trans k, S.above, ⟨fun c hc => ⟨k.has (S.own.1 c hc).1, (S.own.1 c hc).2⟩, S.own.2⟩, S.off⟩

theorem St.store {m' : Str → Option Value} {m : Str → Option Value} {x : Str} {v : Value} (S : St G B L h lo nw) (hm' : h'.Ns L m') (s : Heap.SameBut L h h') (hl : ∀ x v, look x lo = some v → m x = some v)
    (e : m' = fun y => if y = x then some v else m y) : St G B L h' (put x v lo) nw := by
  refine ⟨⟨m', hm', fun y u q => ?_⟩, S.gb, fun b o q => ?_, S.above, ⟨fun c hc => ⟨has_same s (S.off c hc) (S.own.1 c hc).1, (S.own.1 c hc).2⟩, S.own.2⟩, S.off⟩
  · rw [look_put] at q
    rw [e]
    by_cases z : y = x
    · simp only [if_pos z] at q ⊢; exact q
    · simp only [if_neg z] at q ⊢; exact hl y u q
  · refine (s.2 b fun z => ?_).trans (S.keep b o q)
    rw [z, S.bl] at q; cases q
end

/-! ## names -/
section
variable {prog : Program} {w : World} {A : Around} {G B h : Heap} {env : Env} {lo : List (Str × Value)} {nw : List Ch}

theorem r_local {x : Str} {pos : Pos} {v : Value} {Q : Value → Heap → Prop} (S : St G B env.locals h lo nw) (hv : look x lo = some v) (q : Q v h)
    (hk : env.scope.kind = .function := by rfl) (hl : env.kindOf x = some .local := by rfl) (hd : (x == ("__debug__" : Str)) = false := by decide) : Run prog w A (eval (.Name x pos) env) h Q :=
  fun s _ _ e c => by
    obtain ⟨m, hm, hlo⟩ := S.ns
    subst e
    exact wpAny_Name (wpAny_loadName_local hk hl hm (hlo _ _ hv) (c _ _ (Rest.refl _) q)) hd
theorem r_loadLocal {x : Str} {v : Value} {Q : Value → Heap → Prop} (S : St G B env.locals h lo nw) (hv : look x lo = some v) (q : Q v h)
    (hk : env.scope.kind = .function := by rfl) (hl : env.kindOf x = some .local := by rfl) : Run prog w A (loadName env x) h Q :=
  fun s _ _ e c => by
    obtain ⟨m, hm, hlo⟩ := S.ns
    subst e
    exact wpAny_loadName_local hk hl hm (hlo _ _ hv) (c _ _ (Rest.refl _) q)
theorem r_store {x : Str} {v : Value} {Q : Unit → Heap → Prop} (S : St G B env.locals h lo nw) (q : ∀ h', St G B env.locals h' (put x v lo) nw → Q () h')
    (hk : env.scope.kind = .function := by rfl) (hl : env.kindOf x = some .local := by rfl) : Run prog w A (storeName env x v) h Q :=
  fun s _ _ e c => by
    obtain ⟨m, hm, hlo⟩ := S.ns
    subst e
    refine wpAny_storeName_local hl hm (fun h' hn hs => c _ _ ⟨rfl, rfl, rfl⟩ (q h' (S.store hn hs hlo rfl))) ?_
    show (env.scope.kind == .class || (env.scope.kind == .module && env.locals != env.globals)) = false
    rw [hk]; rfl
theorem r_free {x : Str} {pos : Pos} {c : Addr} {v : Value} {Q : Value → Heap → Prop} (hc : env.cells.lookup x = some c) (hv : h.IsCell c (some v)) (q : Q v h)
    (hk : env.scope.kind = .function := by rfl) (hl : env.kindOf x = some .free := by rfl) (hd : (x == ("__debug__" : Str)) = false := by decide) (hn : (x == ("__classdict__" : Str)) = false := by decide) :
    Run prog w A (eval (.Name x pos) env) h Q :=
  fun s _ _ e k => by
    subst e
    exact wpAny_Name (wpAny_loadName_free hk hl hc hv (k _ _ (Rest.refl _) q) hn) hd
theorem r_cell {x : Str} {pos : Pos} {c : Addr} {v : Value} {Q : Value → Heap → Prop} (hc : env.cells.lookup x = some c) (hv : h.IsCell c (some v)) (q : Q v h)
    (hk : env.scope.kind = .function := by rfl) (hl : env.kindOf x = some .cell := by rfl) (hd : (x == ("__debug__" : Str)) = false := by decide) :
    Run prog w A (eval (.Name x pos) env) h Q :=
  fun s _ _ e k => by
    subst e
    exact wpAny_Name (wpAny_loadName_cell hk hl hc hv (k _ _ (Rest.refl _) q)) hd

structure Gl (K : Frag) (G : Heap) : Prop where
  kin : K.In G
  glob : ∃ mg mb, G.Ns mainGlobals mg ∧ G.Ns builtinsNs mb ∧ ∀ x : Str, x ≠ "__name__" → mb x = bootBuiltins x
  nolimit : G.NoLimit

theorem r_global {K : Frag} {x : Str} {pos : Pos} {v : Value} {Q : Value → Heap → Prop} (gl : Gl K G) (gh : Sub G h) (e : nsIn K mainGlobals x = some (some v)) (q : Q v h)
    (hk : env.scope.kind = .function := by rfl) (hl : env.kindOf x = some .globalImplicit := by rfl) (hg : env.globals = mainGlobals := by rfl) (hd : (x == ("__debug__" : Str)) = false := by decide) :
    Run prog w A (eval (.Name x pos) env) h Q :=
  fun s _ _ es k => by
    subst es
    obtain ⟨mg, mb, a, b, c⟩ := gl.glob
    exact Calls.Name_function_global hk hl (Calls.loadGlobal_global (hg ▸ a.keeps gh) (mg_of gl.kin a e) (k _ _ (Rest.refl _) q)) hd
theorem r_builtin {K : Frag} {x : Str} {pos : Pos} {v : Value} {Q : Value → Heap → Prop} (gl : Gl K G) (gh : Sub G h) (e : nsIn K mainGlobals x = some none) (hv : bootBuiltins x = some v) (q : Q v h)
    (hn : x ≠ "__name__" := by decide) (hk : env.scope.kind = .function := by rfl) (hl : env.kindOf x = some .globalImplicit := by rfl) (hg : env.globals = mainGlobals := by rfl) (hb : env.builtins = builtinsNs := by rfl)
    (hd : (x == ("__debug__" : Str)) = false := by decide) : Run prog w A (eval (.Name x pos) env) h Q :=
  fun s _ _ es k => by
    subst es
    obtain ⟨mg, mb, a, b, c⟩ := gl.glob
    exact Calls.Name_function_global hk hl (Calls.loadGlobal_builtin (hg ▸ a.keeps gh) (mg_none_of gl.kin a e) (hb ▸ b.keeps gh) ((c x hn).trans hv) (k _ _ (Rest.refl _) q)) hd
end

/-! ## calls of the text's own functions -/
structure FnAst where
  name : Str
  params : Arguments
  body : List Stmt
  scope : Scope
noncomputable def IsFn (h : Heap) (f : Addr) (a : FnAst) (qual : Str) (cl : List (Str × Addr)) : Prop :=
  ∃ o doc pm an cdv ct, h.get? f = some o ∧ o.data = .func (fnX a.name qual a.params a.body a.scope cl .none .none doc pm an cdv ct) ∧ h.CodeRec cdv qual
theorem IsFn.sub {h h' : Heap} {f a qual cl} (x : IsFn h f a qual cl) (s : Sub h h') : IsFn h' f a qual cl :=
  let ⟨o, doc, pm, an, cdv, ct, e, d, c⟩ := x
  ⟨o, doc, pm, an, cdv, ct, s _ _ e, d, let ⟨c, oc, vs, t, p, q, r, u⟩ := c; ⟨c, oc, vs, t, p, s _ _ q, r, u⟩⟩

noncomputable def addrs (l : List Ch) : List Addr := l.map (·.1)
structure Post (G h : Heap) (sub sub' : List Ch) (h' : Heap) : Prop where
  own : Own G h' sub'
  keep : ∀ b o, h.get? b = some o → b ∉ addrs sub → h'.get? b = some o
  fresh : ∀ c ∈ sub', c.1 ∈ addrs sub ∨ h.get? c.1 = none
structure Bof (h : Heap) (sub : List Ch) (B : Heap) : Prop where
  incl : Sub B h
  keep : ∀ b o, h.get? b = some o → b ∉ addrs sub → B.get? b = some o
  none : ∀ b ∈ addrs sub, B.get? b = none

noncomputable def retOf : Flow → Value
  | .ret v => v
  | _ => .none

section
variable {prog : Program} {w : World} {A : Around} {G h : Heap} {K : Frag}

theorem bof_hide (h : Heap) (sub : List Ch) : Bof h sub (hideAll h (addrs sub)) :=
  ⟨fun _ _ e => of_hideAll _ e, fun _ _ e n => hideAll_get _ e n, fun _ hb => hideAll_none _ hb⟩

theorem call_fn {f : Addr} {a : FnAst} {qual : Str} {cl : List (Str × Addr)} {args : List Value} {binds : List (Str × Value)} {sub : List Ch} {R : Value → List Ch → Prop}
    (room : A.depth < recursionLimit) (gl : Gl K G) (gh : Sub G h) (O : Own G h sub) (hf : IsFn h f a qual cl)
    (hbind : ∀ doc pm an cdv ct, bindArgs (fnX a.name qual a.params a.body a.scope cl .none .none doc pm an cdv ct) ⟨args, []⟩ = pure binds)
    (hcell : ∀ x ∈ a.scope.names, x.2 ≠ .cell) (hloc : ∀ x ∈ binds, a.scope.names.lookup x.1 = some .local)
    (hco : a.scope.isCoroutine = false) (hgen : a.scope.isGenerator = false) (hk : a.scope.kind = .function)
    (body : ∀ B L h₁ cdv, Bof h sub B → St G B L h₁ binds.reverse sub →
      Run prog w (A.deeper (envX qual a.scope L f cdv cl)) (execs a.body (envX qual a.scope L f cdv cl)) h₁ fun fl h' => ∃ sub' lo', R (retOf fl) sub' ∧ St G B L h' lo' sub') :
    Run prog w A (call (.ref f) args) h fun v h' => ∃ sub', R v sub' ∧ Post G h sub sub' h' := by
  intro s E Q' e k
  subst e
  obtain ⟨o, doc, pm, an, cdv, ct, ho, hd, hcd⟩ := hf
  have bo := bof_hide s.heap sub
  have gb : Sub G (hideAll s.heap (addrs sub)) := fun b ob eb => bo.keep b ob (gh b ob eb) fun q => by
    obtain ⟨c, hc, ec⟩ := List.mem_map.mp q
    have := (O.1 c hc).2
    rw [ec, eb] at this; cases this
  refine wpAny_call (codeAny_call_def (fd := fnX a.name qual a.params a.body a.scope cl .none .none doc pm an cdv ct) (body := a.body) (binds := binds) room ho hd (gl.nolimit.keeps gh) hcd rfl
    (BindsTo.of_eq (hbind _ _ _ _ _)) hcell hloc (fun h₁ hns hk₁ => ?_) hco hgen hk)
  have S : St G (hideAll s.heap (addrs sub)) s.heap.objs.size h₁ binds.reverse sub := by
    refine ⟨⟨_, hns, fun x v q => ?_⟩, gb, bo.incl.trans hk₁, Nat.le_of_eq (hideAll_size _ _), ⟨fun c hc => ⟨Sub.has hk₁ (O.1 c hc).1, bo.none _ (List.mem_map_of_mem hc)⟩, O.2⟩, fun c hc => ?_⟩
    · show binds.reverse.lookup x = some v
      rw [lookup_look]; exact q
    · obtain ⟨o', e', _⟩ := (O.1 c hc).1
      exact Nat.ne_of_lt (Heap.lt_size e')
  refine (body _ _ h₁ cdv bo S).wp rfl fun fl s' re q => ?_
  obtain ⟨sub', lo', hr, T⟩ := q
  refine k _ s' ⟨re.1, re.2.1, re.2.2⟩ ⟨sub', (by cases fl <;> exact hr), ?_, fun b ob eb nb => T.keep _ _ (bo.keep b ob eb nb), fun c hc => ?_⟩
  · exact T.own.base fun c hc => gb.none (T.own.1 c hc).2
  · have hn := (T.own.1 c hc).2
    by_cases q : c.1 ∈ addrs sub
    · exact .inl q
    · right
      cases z : s.heap.get? c.1 with
      | none => rfl
      | some ob => rw [bo.keep _ _ z q] at hn; cases hn

/-- at the caller's -/
theorem St.call {B : Heap} {L : Addr} {h' : Heap} {lo nw sub rest sub'} (S : St G B L h lo nw) (p : nw.Perm (sub ++ rest)) (P : Post G h sub sub' h') : St G B L h' lo (sub' ++ rest) := by
  have T := S.perm p
  obtain ⟨m, hm, hl⟩ := T.ns
  have nL : L ∉ addrs sub := fun q => by
    obtain ⟨c, hc, e⟩ := List.mem_map.mp q
    exact T.off c (List.mem_append_left _ hc) e
  have hmL : h'.Ns L m := by
    obtain ⟨oL, es, ep, a, b, c, d⟩ := hm
    exact ⟨oL, es, ep, P.keep _ _ a nL, b, c, d⟩
  have nB : ∀ b o, B.get? b = some o → b ∉ addrs sub := fun b o e q => by
    obtain ⟨c, hc, ec⟩ := List.mem_map.mp q
    have := (T.own.1 c (List.mem_append_left _ hc)).2
    rw [ec, e] at this; cases this
  have fr : ∀ c ∈ sub', B.get? c.1 = none := fun c hc => by
    rcases P.fresh c hc with q | q
    · cases z : B.get? c.1 with
      | none => rfl
      | some o => exact absurd q (nB _ _ z)
    · exact S.keep.none q
  refine ⟨⟨m, hmL, hl⟩, S.gb, fun b o e => P.keep b o (S.keep b o e) (nB b o e), S.above, ⟨fun c hc => ?_, ?_⟩, fun c hc => ?_⟩
  · rcases List.mem_append.mp hc with hc | hc
    · exact ⟨(P.own.1 c hc).1, fr c hc⟩
    · have n := T.own.1 c (List.mem_append_right _ hc)
      obtain ⟨o, e, q⟩ := n.1
      refine ⟨⟨o, P.keep _ _ e fun z => ?_, q⟩, n.2⟩
      obtain ⟨d, hd, ed⟩ := List.mem_map.mp z
      exact T.own.apart hd hc ed
  · rw [List.map_append]
    refine List.nodup_append.mpr ⟨P.own.2, T.own.right.2, fun a ha b hb q => ?_⟩
    subst q
    obtain ⟨c, hc, rfl⟩ := List.mem_map.mp ha
    obtain ⟨d, hd, ed⟩ := List.mem_map.mp hb
    rcases P.fresh c hc with z | z
    · obtain ⟨c', hc', ec'⟩ := List.mem_map.mp z
      exact T.own.apart hc' hd (ec'.trans ed.symm)
    · obtain ⟨o, e, _⟩ := (T.own.1 d (List.mem_append_right _ hd)).1
      rw [ed, z] at e; cases e
  · rcases List.mem_append.mp hc with hc | hc
    · rcases P.fresh c hc with z | z
      · intro q; exact nL (q ▸ z)
      · intro q
        obtain ⟨oL, es, ep, a, _⟩ := hm
        rw [q, a] at z; cases z
    · exact T.off c (List.mem_append_right _ hc)
theorem r_callee {B : Heap} {L : Addr} {lo nw sub rest} {t : Sem Value} {R : Value → List Ch → Prop} {Q : Value → Heap → Prop} (S : St G B L h lo nw) (p : nw.Perm (sub ++ rest))
    (c : Run prog w A t h fun v h' => ∃ sub', R v sub' ∧ Post G h sub sub' h') (k : ∀ v h' sub', R v sub' → St G B L h' lo (sub' ++ rest) → Q v h') : Run prog w A t h Q :=
  c.mono fun v h' ⟨sub', hr, P⟩ => k v h' sub' hr (S.call p P)
end
end

/-! ### Q2 -/
noncomputable section
open PySem PySem.W PyProof.Rows
set_option Elab.async false
set_option maxRecDepth 100000

/-! ## the text's functions, drawn from the given program -/
noncomputable def topS (i : Nat) : Stmt := PySem.Challenge.pw_sm0053_01.main.body.getD i (.Pass ⟨0, 0, 0, 0⟩)
noncomputable def fnOfS : Stmt → FnAst
  | .FunctionDef n a b _ _ _ s _ _ _ => ⟨n, a, b, s⟩
  | _ => ⟨"", ⟨[], [], none, [], [], none, []⟩, [], ⟨.function, [], false, false, []⟩⟩
noncomputable def clsB : Stmt → List Stmt
  | .ClassDef _ _ _ b _ _ _ _ _ _ _ => b
  | _ => []
noncomputable def noE : Expr := .Constant .none 0 ⟨0, 0, 0, 0⟩
noncomputable def stV : Stmt → Expr
  | .Assign _ e _ => e
  | .Return (some e) _ => e
  | .If e _ _ _ => e
  | _ => noE
noncomputable def exL : Expr → List Expr
  | .Call _ l _ _ => l
  | .BoolOp _ l _ => l
  | .Tuple l _ _ => l
  | _ => []
noncomputable def exA : Expr → Expr
  | .Compare e _ _ _ => e
  | .Subscript e _ _ => e
  | _ => noE
noncomputable def methS (i : Nat) : FnAst := fnOfS ((clsB (topS 2)).getD i (.Pass ⟨0, 0, 0, 0⟩))
noncomputable def A_init : FnAst := methS 0
noncomputable def A_two : FnAst := methS 1
noncomputable def A_mid : FnAst := methS 2
noncomputable def A_up : FnAst := methS 3
noncomputable def A_down : FnAst := methS 4
noncomputable def A_part : FnAst := methS 5
noncomputable def A_sort : FnAst := methS 6
noncomputable def A_take : FnAst := fnOfS (topS 4)
noncomputable def A_rank : FnAst := fnOfS (topS 5)
noncomputable def A_ranks : FnAst := fnOfS (topS 6)
noncomputable def A_sorted : FnAst := fnOfS (topS 7)
noncomputable def A_merged : FnAst := fnOfS (topS 8)
noncomputable def A_law : FnAst := fnOfS (topS 9)

/-- what the walk asks of the written part -/
structure KF (K : Frag) : Prop where
  ga : findIn K (.ref 93) "__getattribute__" = some (some (.builtin "object.__getattribute__"))
  gk : findIn K (.ref 93) "__getattr__" = some none
  hasd : hasDictIn K 93 = true
  n_get : findIn K (.ref 93) "get" = some none
  n_put : findIn K (.ref 93) "put" = some none
  n_less : findIn K (.ref 93) "less" = some none
  n_hold : findIn K (.ref 93) "hold" = some none
  n_drop : findIn K (.ref 93) "drop" = some none
  m_two : findIn K (.ref 93) "order_two" = some (some (.ref 55))
  m_mid : findIn K (.ref 93) "order_middle" = some (some (.ref 62))
  m_up : findIn K (.ref 93) "go_up" = some (some (.ref 69))
  m_down : findIn K (.ref 93) "go_down" = some (some (.ref 76))
  m_part : findIn K (.ref 93) "part" = some (some (.ref 83))
  m_sort : findIn K (.ref 93) "sort" = some (some (.ref 90))
  t_two : typeIn K (.ref 55) = some (.type "function")
  t_mid : typeIn K (.ref 62) = some (.type "function")
  t_up : typeIn K (.ref 69) = some (.type "function")
  t_down : typeIn K (.ref 76) = some (.type "function")
  t_part : typeIn K (.ref 83) = some (.type "function")
  t_sort : typeIn K (.ref 90) = some (.type "function")
  f_two : ∀ h, K.In h → IsFn h 55 A_two "Quicksort.order_two" []
  f_mid : ∀ h, K.In h → IsFn h 62 A_mid "Quicksort.order_middle" []
  f_up : ∀ h, K.In h → IsFn h 69 A_up "Quicksort.go_up" []
  f_down : ∀ h, K.In h → IsFn h 76 A_down "Quicksort.go_down" []
  f_part : ∀ h, K.In h → IsFn h 83 A_part "Quicksort.part" []
  f_sort : ∀ h, K.In h → IsFn h 90 A_sort "Quicksort.sort" []
  g_len : nsIn K mainGlobals "len" = some none
  g_list : nsIn K mainGlobals "list" = some none
  g_range : nsIn K mainGlobals "range" = some none
  g_dict : nsIn K mainGlobals "dict" = some none
  g_enumerate : nsIn K mainGlobals "enumerate" = some none
  g_sorted : nsIn K mainGlobals "sorted" = some none
  g_take : nsIn K mainGlobals "_law_take" = some (some (.ref 104))
  g_rank : nsIn K mainGlobals "_law_rank" = some (some (.ref 111))
  g_ranks : nsIn K mainGlobals "_law_ranks" = some (some (.ref 116))
  g_lsorted : nsIn K mainGlobals "_law_sorted" = some (some (.ref 121))
  g_merged : nsIn K mainGlobals "_law_merged" = some (some (.ref 128))
  g_Quicksort : nsIn K mainGlobals "Quicksort" = some (some (.ref 93))
  f_take : ∀ h, K.In h → IsFn h 104 A_take "_law_take" []
  f_rank : ∀ h, K.In h → IsFn h 111 A_rank "_law_rank" []
  f_ranks : ∀ h, K.In h → IsFn h 116 A_ranks "_law_ranks" []
  f_lsorted : ∀ h, K.In h → IsFn h 121 A_sorted "_law_sorted" []
  f_merged : ∀ h, K.In h → IsFn h 128 A_merged "_law_merged" []
  f_init : ∀ h, K.In h → IsFn h 48 A_init "Quicksort.__init__" []
  makes : makesIn K 93 = true
  m_init : findIn K (.ref 93) "__init__" = some (some (.ref 48))
  i_init : isFn K (.ref 48) = true
  setattr : findIn K (.ref 93) "__setattr__" = some (some (.builtin "object.__setattr__"))
  plain : plainOver K 93 = true
  k_get : takerIn K 93 "get" = some none
  k_put : takerIn K 93 "put" = some none
  k_less : takerIn K 93 "less" = some none
  k_hold : takerIn K 93 "hold" = some none
  k_drop : takerIn K 93 "drop" = some none

structure QF where
  get : Addr
  put : Addr
  less : Addr
  hold : Addr
  drop : Addr
noncomputable def QVals (es : List DictEntry) (c : QF) : Prop :=
  getL "get" es = some (some (.ref c.get)) ∧ getL "put" es = some (some (.ref c.put)) ∧ getL "less" es = some (some (.ref c.less)) ∧ getL "hold" es = some (some (.ref c.hold)) ∧ getL "drop" es = some (some (.ref c.drop)) ∧
  getL "order_two" es = some none ∧ getL "order_middle" es = some none ∧ getL "go_up" es = some none ∧ getL "go_down" es = some none ∧ getL "part" es = some none ∧ getL "sort" es = some none
noncomputable def IsQ (h : Heap) (x : Addr) (c : QF) : Prop := ∃ dx sl es n, h.get? x = some ⟨.ref 93, some dx, .plain, sl⟩ ∧ h.get? dx = some (dictOf es n) ∧ QVals es c
theorem IsQ.sub {h h' : Heap} {x c} (q : IsQ h x c) (s : Sub h h') : IsQ h' x c := let ⟨dx, sl, es, n, a, b, d⟩ := q; ⟨dx, sl, es, n, s _ _ a, s _ _ b, d⟩

noncomputable def IsFun (h : Heap) (f : Addr) : Prop := ∃ o fd, h.get? f = some o ∧ o.data = .func fd
theorem IsFun.sub {h h' : Heap} {f} (q : IsFun h f) (s : Sub h h') : IsFun h' f := let ⟨o, fd, a, b⟩ := q; ⟨o, fd, s _ _ a, b⟩
theorem IsFn.fun {h : Heap} {f a qual cl} (x : IsFn h f a qual cl) : IsFun h f := let ⟨o, _, _, _, _, _, e, d, _⟩ := x; ⟨o, _, e, d⟩

section
variable {prog : Program} {w : World} {A : Around} {G h : Heap} {K : Frag} {env : Env}

theorem r_getOwn {x : Addr} {C dx : Addr} {sl : Array (Option Value)} {es : List DictEntry} {n : Nat} {name : Str} {v : Value} {pl : Sem Bool} {Q : Value × List Value → Heap → Prop} (X : K.In h)
    (hx : h.get? x = some ⟨.ref C, some dx, .plain, sl⟩) (hd : h.get? dx = some (dictOf es n))
    (ga : findIn K (.ref C) "__getattribute__" = some (some (.builtin "object.__getattribute__"))) (gk : findIn K (.ref C) "__getattr__" = some none) (hasd : hasDictIn K C = true)
    (hn : findIn K (.ref C) name = some none) (hl : getL name es = some (some v)) (hh : handedIn v = true) (q : Q (v, []) h) : Run prog w A (getMethod (.ref x) name pl) h Q := by
  intro s E Q' e k
  subst e
  have I : InstAt s.heap x ⟨.ref C, some dx, .plain, sl⟩ C (some (dictOf es n)) := ⟨hx, rfl, rfl, hd⟩
  refine method_usual X I ga gk hn rfl (get_value X I ga (findObj_own hasd hn rfl hl) hh (k _ _ ⟨rfl, rfl, rfl⟩ q))
theorem r_getFn {x : Addr} {C dx f : Addr} {sl : Array (Option Value)} {es : List DictEntry} {n : Nat} {name : Str} {pl : Sem Bool} {Q : Value × List Value → Heap → Prop} (X : K.In h)
    (hx : h.get? x = some ⟨.ref C, some dx, .plain, sl⟩) (hd : h.get? dx = some (dictOf es n))
    (ga : findIn K (.ref C) "__getattribute__" = some (some (.builtin "object.__getattribute__"))) (gk : findIn K (.ref C) "__getattr__" = some none)
    (hf : findIn K (.ref C) name = some (some (.ref f))) (ht : typeIn K (.ref f) = some (.type "function")) (hl : getL name es = some none) (q : Q (.ref f, [.ref x]) h) : Run prog w A (getMethod (.ref x) name pl) h Q := by
  intro s E Q' e k
  subst e
  have I : InstAt s.heap x ⟨.ref C, some dx, .plain, sl⟩ C (some (dictOf es n)) := ⟨hx, rfl, rfl, hd⟩
  refine method_fn X I ga gk hf ht ?_ (k _ _ ⟨rfl, rfl, rfl⟩ q)
  show (lookIn name (dictOf es n)).map (·.isSome) = some false
  rw [lookIn_dict, hl]; rfl

section
variable {x : Addr} {c : QF} {pl : Sem Bool} {Q : Value × List Value → Heap → Prop}
theorem q_get (gl : Gl K G) (kf : KF K) (gh : Sub G h) (iq : IsQ G x c) (q : Q (.ref c.get, []) h) : Run prog w A (getMethod (.ref x) "get" pl) h Q :=
  let ⟨_, _, _, _, a, b, v⟩ := iq.sub gh; r_getOwn (gl.kin.keeps gh) a b kf.ga kf.gk kf.hasd kf.n_get v.1 rfl q
theorem q_put (gl : Gl K G) (kf : KF K) (gh : Sub G h) (iq : IsQ G x c) (q : Q (.ref c.put, []) h) : Run prog w A (getMethod (.ref x) "put" pl) h Q :=
  let ⟨_, _, _, _, a, b, v⟩ := iq.sub gh; r_getOwn (gl.kin.keeps gh) a b kf.ga kf.gk kf.hasd kf.n_put v.2.1 rfl q
theorem q_less (gl : Gl K G) (kf : KF K) (gh : Sub G h) (iq : IsQ G x c) (q : Q (.ref c.less, []) h) : Run prog w A (getMethod (.ref x) "less" pl) h Q :=
  let ⟨_, _, _, _, a, b, v⟩ := iq.sub gh; r_getOwn (gl.kin.keeps gh) a b kf.ga kf.gk kf.hasd kf.n_less v.2.2.1 rfl q
theorem q_hold (gl : Gl K G) (kf : KF K) (gh : Sub G h) (iq : IsQ G x c) (q : Q (.ref c.hold, []) h) : Run prog w A (getMethod (.ref x) "hold" pl) h Q :=
  let ⟨_, _, _, _, a, b, v⟩ := iq.sub gh; r_getOwn (gl.kin.keeps gh) a b kf.ga kf.gk kf.hasd kf.n_hold v.2.2.2.1 rfl q
theorem q_drop (gl : Gl K G) (kf : KF K) (gh : Sub G h) (iq : IsQ G x c) (q : Q (.ref c.drop, []) h) : Run prog w A (getMethod (.ref x) "drop" pl) h Q :=
  let ⟨_, _, _, _, a, b, v⟩ := iq.sub gh; r_getOwn (gl.kin.keeps gh) a b kf.ga kf.gk kf.hasd kf.n_drop v.2.2.2.2.1 rfl q
theorem q_two (gl : Gl K G) (kf : KF K) (gh : Sub G h) (iq : IsQ G x c) (q : Q (.ref 55, [.ref x]) h) : Run prog w A (getMethod (.ref x) "order_two" pl) h Q :=
  let ⟨_, _, _, _, a, b, v⟩ := iq.sub gh; r_getFn (gl.kin.keeps gh) a b kf.ga kf.gk kf.m_two kf.t_two v.2.2.2.2.2.1 q
theorem q_mid (gl : Gl K G) (kf : KF K) (gh : Sub G h) (iq : IsQ G x c) (q : Q (.ref 62, [.ref x]) h) : Run prog w A (getMethod (.ref x) "order_middle" pl) h Q :=
  let ⟨_, _, _, _, a, b, v⟩ := iq.sub gh; r_getFn (gl.kin.keeps gh) a b kf.ga kf.gk kf.m_mid kf.t_mid v.2.2.2.2.2.2.1 q
theorem q_up (gl : Gl K G) (kf : KF K) (gh : Sub G h) (iq : IsQ G x c) (q : Q (.ref 69, [.ref x]) h) : Run prog w A (getMethod (.ref x) "go_up" pl) h Q :=
  let ⟨_, _, _, _, a, b, v⟩ := iq.sub gh; r_getFn (gl.kin.keeps gh) a b kf.ga kf.gk kf.m_up kf.t_up v.2.2.2.2.2.2.2.1 q
theorem q_down (gl : Gl K G) (kf : KF K) (gh : Sub G h) (iq : IsQ G x c) (q : Q (.ref 76, [.ref x]) h) : Run prog w A (getMethod (.ref x) "go_down" pl) h Q :=
  let ⟨_, _, _, _, a, b, v⟩ := iq.sub gh; r_getFn (gl.kin.keeps gh) a b kf.ga kf.gk kf.m_down kf.t_down v.2.2.2.2.2.2.2.2.1 q
theorem q_part (gl : Gl K G) (kf : KF K) (gh : Sub G h) (iq : IsQ G x c) (q : Q (.ref 83, [.ref x]) h) : Run prog w A (getMethod (.ref x) "part" pl) h Q :=
  let ⟨_, _, _, _, a, b, v⟩ := iq.sub gh; r_getFn (gl.kin.keeps gh) a b kf.ga kf.gk kf.m_part kf.t_part v.2.2.2.2.2.2.2.2.2.1 q
theorem q_sort (gl : Gl K G) (kf : KF K) (gh : Sub G h) (iq : IsQ G x c) (q : Q (.ref 90, [.ref x]) h) : Run prog w A (getMethod (.ref x) "sort" pl) h Q :=
  let ⟨_, _, _, _, a, b, v⟩ := iq.sub gh; r_getFn (gl.kin.keeps gh) a b kf.ga kf.gk kf.m_sort kf.t_sort v.2.2.2.2.2.2.2.2.2.2 q
end

/-! ## calls: the arguments -/
theorem r_args0 {pos : Pos} {Q : List Value → Heap → Prop} (q : Q [] h) : Run prog w A (spliced (backTo pos (starEach [] env))) h Q :=
  fun _ _ _ e k => spliced_none (k _ _ (Rest.refl _) (e ▸ q))
theorem r_args {pos : Pos} {e : Expr} {rest : List Expr} {Q : List Value → Heap → Prop}
    (q : Run prog w A (eval e env) h fun v h₁ => Run prog w A (spliced (backTo pos (starEach rest env))) h₁ fun vs h₂ => Q (v :: vs) h₂)
    (he : starEach (e :: rest) env = (false, eval e env) :: starEach rest env := by rfl) : Run prog w A (spliced (backTo pos (starEach (e :: rest) env))) h Q :=
  fun _ _ _ es k => spliced_more (q.wp es fun _ _ r1 q1 => q1.wp rfl fun _ _ r2 q2 => k _ _ (r1.trans r2) q2) he
theorem r_Tuple {elts : List Expr} {n : Nat} {pos : Pos} {Q : Value → Heap → Prop} (q : Run prog w A (spliced (backTo pos (starEach elts env))) h fun vs h₁ => Run prog w A (newTuple vs) h₁ Q) :
    Run prog w A (eval (.Tuple elts n pos) env) h Q :=
  fun _ _ _ es k => PyProof.Rows.Tuple_ (q.wp es fun _ _ r1 q1 => q1.wp rfl fun _ _ r2 q2 => k _ _ (r1.trans r2) q2)
theorem r_List {elts : List Expr} {pos : Pos} {Q : Value → Heap → Prop} (q : Run prog w A (spliced (backTo pos (starEach elts env))) h fun vs h₁ => Run prog w A (newList vs) h₁ Q) :
    Run prog w A (eval (.List elts pos) env) h Q :=
  fun _ _ _ es k => PyProof.Rows.List_ (q.wp es fun _ _ r1 q1 => q1.wp rfl fun _ _ r2 q2 => k _ _ (r1.trans r2) q2)

theorem r_Method {o : Expr} {name : Str} {apos pos : Pos} {args : List Expr} {pl : Sem Bool} {Q : Value → Heap → Prop}
    (q : Run prog w A (eval o env) h fun ov h₁ => Run prog w A (getMethod ov name pl) h₁ fun fx h₂ => Run prog w A (callWith pos fx.1 fx.2 (backTo pos (starEach args env)) []) h₂ Q)
    (he : eval (.Call (.Attribute o name apos) args [] pos) env = (do
      let ov ← eval o env
      standAt apos.atName
      let (f, first) ← holding [ov] (getMethod ov name pl)
      callWith pos f first (backTo pos (starEach args env)) []) := by rfl) : Run prog w A (eval (.Call (.Attribute o name apos) args [] pos) env) h Q :=
  fun _ _ _ es k => MethodCall_ (q.wp es fun _ _ r1 q1 => q1.wp rfl fun _ _ r2 q2 => q2.wp rfl fun _ _ r3 q3 => k _ _ ((r1.trans r2).trans r3) q3) he
theorem r_Call {func : Expr} {args : List Expr} {pos : Pos} {Q : Value → Heap → Prop}
    (q : Run prog w A (eval func env) h fun f h₁ => Run prog w A (callWith pos f [] (backTo pos (starEach args env)) []) h₁ Q)
    (he : eval (.Call func args [] pos) env = (do callWith pos (← eval func env) [] (backTo pos (starEach args env)) (backToKw pos (keywordEach [] env))) := by rfl) :
    Run prog w A (eval (.Call func args [] pos) env) h Q :=
  fun _ _ _ es k => Call_ (q.wp es fun _ _ r1 q1 => q1.wp rfl fun _ _ r2 q2 => k _ _ (r1.trans r2) q2) he

theorem keeps_fun {M : Model} {f : Addr} (h : Heap) (X : IsFun h f) : ∃ k, (k = Keeper.frame ∨ k = Keeper.machine ∨ k = Keeper.boundFrame) ∧ Looks M h (keeperOf (.ref f)) k := by
  obtain ⟨o, fd, a, b⟩ := X
  refine ⟨.frame, .inl rfl, ?_⟩
  obtain ⟨oc, od, dt, sl⟩ := o
  dsimp only at b
  subst b
  exact (Looks.ld (part := none) a).andThen .now
/-- a function of the text, or a closure; at least one argument -/
theorem r_fn {pos : Pos} {f : Addr} {first : List Value} {e : Expr} {rest : List Expr} {Q : Value → Heap → Prop}
    (q : Run prog w A (spliced (backTo pos (starEach (e :: rest) env))) h fun vs h₁ => IsFun h₁ f ∧ Run prog w A (call (.ref f) (first ++ vs)) h₁ Q)
    (he : starEach (e :: rest) env = (false, eval e env) :: starEach rest env := by rfl) (hplain : (backTo pos (starEach rest env)).any (·.1) = false := by rfl) :
    Run prog w A (callWith pos (.ref f) first (backTo pos (starEach (e :: rest) env)) []) h Q := by
  intro s E Q' es k
  rw [he] at q ⊢
  exact callWith_of (by show ((false || (backTo pos (starEach rest env)).any (·.1)) || false) = false; rw [hplain]; rfl) keeps_fun
    (Calls.evalArgs_plain (q.wp es fun _ _ r1 q1 => ⟨q1.1, q1.2.wp rfl fun _ _ r2 q2 => k _ _ (r1.trans r2) q2⟩))
theorem r_fn0 {pos : Pos} {f : Addr} {first : List Value} {Q : Value → Heap → Prop} (hf : IsFun h f) (q : Run prog w A (call (.ref f) (first ++ [])) h Q) :
    Run prog w A (callWith pos (.ref f) first (backTo pos (starEach [] env)) []) h Q := by
  intro s E Q' es k
  exact callWith_of rfl keeps_fun (PyProof.Rows.evalArgs_nil3 ⟨es ▸ hf, q.wp es k⟩)
theorem r_blt {pos : Pos} {id : String} {first : List Value} {e : Expr} {rest : List Expr} {Q : Value → Heap → Prop}
    (q : Run prog w A (spliced (backTo pos (starEach (e :: rest) env))) h fun vs h₁ => Run prog w A (call (.builtin id) (first ++ vs)) h₁ Q)
    (he : starEach (e :: rest) env = (false, eval e env) :: starEach rest env := by rfl) (hplain : (backTo pos (starEach rest env)).any (·.1) = false := by rfl) :
    Run prog w A (callWith pos (.builtin id) first (backTo pos (starEach (e :: rest) env)) []) h Q := by
  intro s E Q' es k
  rw [he] at q ⊢
  exact Calls.callWith_builtin (by show (false || (backTo pos (starEach rest env)).any (·.1)) = false; rw [hplain]; rfl)
    (Calls.evalArgs_plain (q.wp es fun _ _ r1 q1 => q1.wp rfl fun _ _ r2 q2 => k _ _ (r1.trans r2) q2))
theorem r_blt0 {pos : Pos} {id : String} {first : List Value} {Q : Value → Heap → Prop} (q : Run prog w A (call (.builtin id) (first ++ [])) h Q) :
    Run prog w A (callWith pos (.builtin id) first (backTo pos (starEach [] env)) []) h Q :=
  fun _ _ _ es k => Calls.callWith_builtin rfl (PyProof.Rows.evalArgs_nil3 (q.wp es k))
theorem r_typ {pos : Pos} {id : String} {first : List Value} {e : Expr} {rest : List Expr} {Q : Value → Heap → Prop}
    (q : Run prog w A (spliced (backTo pos (starEach (e :: rest) env))) h fun vs h₁ => Run prog w A (call (.type id) (first ++ vs)) h₁ Q)
    (he : starEach (e :: rest) env = (false, eval e env) :: starEach rest env := by rfl) (hplain : (backTo pos (starEach rest env)).any (·.1) = false := by rfl) :
    Run prog w A (callWith pos (.type id) first (backTo pos (starEach (e :: rest) env)) []) h Q := by
  intro s E Q' es k
  rw [he] at q ⊢
  exact PyProof.Rows.callWith_type (by show (false || (backTo pos (starEach rest env)).any (·.1)) = false; rw [hplain]; rfl)
    (Calls.evalArgs_plain (q.wp es fun _ _ r1 q1 => q1.wp rfl fun _ _ r2 q2 => k _ _ (r1.trans r2) q2))

/-! ## new objects -/
noncomputable def LstP (items : List Value) (o : Obj) : Prop := ∃ n, o = { cls := .type "list", dict := none, data := .seq items.toArray n, slots := #[] }
noncomputable def TupP (items : List Value) (o : Obj) : Prop := ∃ n, o = { cls := .type "tuple", dict := none, data := .seq items.toArray n, slots := #[] }
theorem r_newTuple {B : Heap} {L : Addr} {lo nw} {vs : List Value} {Q : Value → Heap → Prop} (S : St G B L h lo nw) (q : ∀ a h', St G B L h' lo ((a, TupP vs) :: nw) → Q (.ref a) h') (hsz : vs.length ≤ sizeLine := by size_fits) :
    Run prog w A (newTuple vs) h Q :=
  fun s _ _ es k => wpAny_newTuple (k _ _ ⟨rfl, rfl, rfl⟩ (by subst es; exact q _ _ (S.push _ rfl ⟨0, rfl⟩))) hsz
theorem r_newList {B : Heap} {L : Addr} {lo nw} {vs : List Value} {Q : Value → Heap → Prop} (S : St G B L h lo nw) (q : ∀ a h', St G B L h' lo ((a, LstP vs) :: nw) → Q (.ref a) h') (hsz : vs.length ≤ sizeLine := by size_fits) :
    Run prog w A (newList vs) h Q :=
  fun s _ _ es k => wpAny_newList (k _ _ ⟨rfl, rfl, rfl⟩ (by subst es; exact q _ _ (S.push _ rfl ⟨0, rfl⟩))) hsz

/-! ## statements -/
theorem r_nil {Q : Flow → Heap → Prop} (q : Q .next h) : Run prog w A (execs [] env) h Q := fun _ _ _ es k => wpAny_execs_nil (k _ _ (Rest.refl _) (es ▸ q))
noncomputable def Onward (prog : Program) (w : World) (A : Around) (env : Env) (rest : List Stmt) (Q : Flow → Heap → Prop) (f : Flow) (h : Heap) : Prop := match f with
  | .next => Run prog w A (execs rest env) h Q
  | f => Q f h
theorem r_cons {st : Stmt} {rest : List Stmt} {Q : Flow → Heap → Prop} (q : Run prog w A (exec st env) h (Onward prog w A env rest Q)) : Run prog w A (execs (st :: rest) env) h Q :=
  fun _ _ _ es k => wpAny_execs_cons (q.wp es fun f s' r q1 => by
    cases f with
    | next => exact (show Run prog w A (execs rest env) s'.heap Q from q1).wp rfl fun _ _ r2 q2 => k _ _ (r.trans r2) q2
    | brk => exact k _ _ r q1
    | cont => exact k _ _ r q1
    | ret v => exact k _ _ r q1)
theorem r_Return {e : Expr} {pos : Pos} {Q : Flow → Heap → Prop} (q : Run prog w A (eval e env) h fun v h' => Q (.ret v) h') : Run prog w A (exec (.Return (some e) pos) env) h Q :=
  fun _ _ _ es k => wpAny_Return_some (q.wp es fun _ _ r q1 => k _ _ r q1)
theorem r_ReturnN {pos : Pos} {Q : Flow → Heap → Prop} (q : Q (.ret .none) h) : Run prog w A (exec (.Return none pos) env) h Q :=
  fun _ _ _ es k => wpAny_Return_none (k _ _ (Rest.refl _) (es ▸ q))
theorem r_Break {pos : Pos} {Q : Flow → Heap → Prop} (q : Q .brk h) : Run prog w A (exec (.Break pos) env) h Q :=
  fun _ _ _ es k => wpAny_Break (k _ _ (Rest.refl _) (es ▸ q))
theorem r_Expr {e : Expr} {pos : Pos} {Q : Flow → Heap → Prop} (q : Run prog w A (eval e env) h fun v h' => v = .none ∧ Q .next h')
    (hi : interactive env = false := by rfl) (hs : swapsWith e none pos.line env = pure false := by rfl) : Run prog w A (exec (.Expr e pos) env) h Q :=
  fun _ _ _ es k => wpAny_Expr (q.wp es fun v _ r q1 => by obtain ⟨rfl, q1⟩ := q1; exact k _ _ r q1) hi hs
theorem r_If {test : Expr} {body orelse : List Stmt} {pos : Pos} {Q : Flow → Heap → Prop}
    (q : Run prog w A (isTrue test env (eval test env)) h fun b h' => if b then Run prog w A (execs body env) h' Q else Run prog w A (execs orelse env) h' Q) : Run prog w A (exec (.If test body orelse pos) env) h Q :=
  fun _ _ _ es k => wpAny_If (q.wp es fun b _ r q1 => by
    cases b
    · exact (show Run prog w A (execs orelse env) _ Q from q1).wp rfl fun _ _ r2 q2 => k _ _ (r.trans r2) q2
    · exact (show Run prog w A (execs body env) _ Q from q1).wp rfl fun _ _ r2 q2 => k _ _ (r.trans r2) q2)
theorem r_AssignName {x : Str} {pos' pos : Pos} {value : Expr} {Q : Flow → Heap → Prop} (q : Run prog w A (eval value env) h fun v h₁ => Run prog w A (storeName env x v) h₁ fun _ h₂ => Q .next h₂)
    (hs : swapsWith value (some (.Name x pos')) pos.line env = pure false := by rfl) : Run prog w A (exec (.Assign [.Name x pos'] value pos) env) h Q :=
  fun _ _ _ es k => wpAny_Assign_Name (q.wp es fun _ _ r1 q1 => q1.wp rfl fun _ _ r2 q2 => k _ _ (r1.trans r2) q2) hs
theorem r_AugName {x : Str} {op : Operator} {pos' pos : Pos} {value : Expr} {Q : Flow → Heap → Prop}
    (q : Run prog w A (loadName env x) h fun old h₁ => Run prog w A (eval value env) h₁ fun v h₂ => Run prog w A (inplaceOp op old v) h₂ fun r h₃ => Run prog w A (storeName env x r) h₃ fun _ h₄ => Q .next h₄) :
    Run prog w A (exec (.AugAssign (.Name x pos') op value pos) env) h Q :=
  fun _ _ _ es k => wpAny_AugAssign_Name (q.wp es fun _ _ r1 q1 => q1.wp rfl fun _ _ r2 q2 => q2.wp rfl fun _ _ r3 q3 => q3.wp rfl fun _ _ r4 q4 => k _ _ (((r1.trans r2).trans r3).trans r4) q4)

/-! ## tests -/
theorem r_truthB {b : Bool} {Q : Bool → Heap → Prop} (q : Q b h) : Run prog w A (truthy (.bool b)) h Q := fun _ _ _ es k => wpAny_truthy_bool (k _ _ (Rest.refl _) (es ▸ q))
theorem r_testVal {e : Expr} {whole : Sem Value} {Q : Bool → Heap → Prop} (q : Run prog w A whole h fun v h₁ => Run prog w A (truthy v) h₁ Q)
    (he : isTrue e env whole = (do let v ← whole; standAt e.pos; holding [v] (truthy v)) := by rfl) : Run prog w A (isTrue e env whole) h Q :=
  fun _ _ _ es k => wpAny_isTrue_value (q.wp es fun _ _ r1 q1 => q1.wp rfl fun _ _ r2 q2 => k _ _ (r1.trans r2) q2) he
theorem r_testCmp {l r : Expr} {op : CmpOp} {pos : Pos} {whole : Sem Value} {Q : Bool → Heap → Prop}
    (q : Run prog w A (eval l env) h fun a h₁ => Run prog w A (eval r env) h₁ fun b h₂ => Run prog w A (compareOp op a b) h₂ fun c h₃ => Run prog w A (truthy c) h₃ Q)
    (hm : behindInMarks op r = false := by with_unfolding_all rfl) : Run prog w A (isTrue (.Compare l [op] [r] pos) env whole) h Q :=
  fun _ _ _ es k => wpAny_isTrue_Compare1 (q.wp es fun _ _ r1 q1 => q1.wp rfl fun _ _ r2 q2 => q2.wp rfl fun _ _ r3 q3 => q3.wp rfl fun _ _ r4 q4 => k _ _ (((r1.trans r2).trans r3).trans r4) q4) hm
theorem r_Cmp {l r : Expr} {op : CmpOp} {pos : Pos} {Q : Value → Heap → Prop}
    (q : Run prog w A (eval l env) h fun a h₁ => Run prog w A (eval r env) h₁ fun b h₂ => Run prog w A (compareOp op a b) h₂ Q)
    (hm : behindInMarks op r = false := by with_unfolding_all rfl) : Run prog w A (eval (.Compare l [op] [r] pos) env) h Q :=
  fun _ _ _ es k => wpAny_Compare1 (q.wp es fun _ _ r1 q1 => q1.wp rfl fun _ _ r2 q2 => q2.wp rfl fun _ _ r3 q3 => k _ _ ((r1.trans r2).trans r3) q3) hm
end
end

/-! ### Q3 -/
noncomputable section
open PySem PySem.W PyProof.Rows
set_option Elab.async false
set_option maxRecDepth 100000

section
variable {prog : Program} {w : World} {A : Around} {G h : Heap} {K : Frag} {env : Env}

noncomputable def Turned (I : Nat → Heap → Prop) (Q : Flow → Heap → Prop) (n : Nat) (f : Flow) (h : Heap) : Prop := match f with
  | .next => ∃ m, m < n ∧ I m h
  | .cont => ∃ m, m < n ∧ I m h
  | .brk => Q .next h
  | .ret v => Q (.ret v) h

theorem r_While {test : Expr} {body orelse : List Stmt} {pos : Pos} {Q : Flow → Heap → Prop} (I : Nat → Heap → Prop)
    (turn : ∀ n h, I n h → Run prog w A (isTrue test env (eval test env)) h fun b h₂ =>
      if b then Run prog w A (execs body env) h₂ (Turned I Q n) else Run prog w A (execs orelse env) h₂ Q)
    (n : Nat) (hI : I n h) : Run prog w A (exec (.While test body orelse pos) env) h Q := by
  intro s E Q' es k
  subst es
  refine wpAny_While (codeAny_whileLoop (fun n s' => Rest s s' ∧ I n s'.heap) (fun n s' hI => ?_) n ⟨Rest.refl s, hI⟩)
  refine (turn n s'.heap hI.2).wp rfl fun b s2 r2 q2 => ?_
  cases b with
  | false => exact (show Run prog w A (execs orelse env) s2.heap Q from q2).wp rfl fun f s3 r3 q3 => k _ _ ((hI.1.trans r2).trans r3) q3
  | true =>
    refine (show Run prog w A (execs body env) s2.heap (Turned I Q n) from q2).wp rfl fun f s3 r3 q3 => ?_
    have r := (hI.1.trans r2).trans r3
    cases f with
    | next => obtain ⟨m, hm, q⟩ := q3; exact ⟨m, hm, r, q⟩
    | cont => obtain ⟨m, hm, q⟩ := q3; exact ⟨m, hm, r, q⟩
    | brk => exact k _ _ r q3
    | ret v => exact k _ _ r q3

/-- the same, what holds between the turns stands once -/
theorem r_While' {test : Expr} {body orelse : List Stmt} {pos : Pos} {Q : Flow → Heap → Prop} (I : Nat → Heap → Prop) (n : Nat) (hI : I n h)
    (turn : ∀ T : Nat → Flow → Heap → Prop, (∀ n m h, m < n → I m h → T n .next h) → (∀ n h, Q .next h → T n .brk h) → ∀ n h, I n h → Run prog w A (isTrue test env (eval test env)) h fun b h₂ =>
      if b then Run prog w A (execs body env) h₂ (T n) else Run prog w A (execs orelse env) h₂ Q) : Run prog w A (exec (.While test body orelse pos) env) h Q :=
  r_While I (turn (Turned I Q) (fun _ m _ l x => ⟨m, l, x⟩) (fun _ _ x => x)) n hI

/-- a for: the iterator's state is part of what holds between the turns -/
theorem r_For {target iter : Expr} {body : List Stmt} {pos : Pos} {Q : Flow → Heap → Prop}
    (q : Run prog w A (eval iter env) h fun x h₁ => Run prog w A (pyIter x) h₁ fun it h₂ => ∃ (I : Nat → Heap → Prop) (n : Nat), I n h₂ ∧
      ∀ n h, I n h → Run prog w A (pyNext it) h fun r h₃ => match r with
        | none => Q .next h₃
        | some v => Run prog w A (assign target env v) h₃ fun _ h₄ => Run prog w A (execs body env) h₄ (Turned I Q n))
    (hs : ∀ x, foldedSetIterable iter env x = pure x := by intro _; rfl) (ht : ∀ it v, letOwnedTupleGo target it v = pure () := by intro _ _; rfl) :
    Run prog w A (exec (.For target iter body [] pos) env) h Q := by
  intro s E Q' es k
  refine wpAny_For (q.wp es fun x s1 r1 q1 => q1.wp rfl fun it s2 r2 q2 => ?_) hs
  obtain ⟨I, n, hI, turn⟩ := q2
  refine codeAny_forLoop (fun n s' => Rest s2 s' ∧ I n s'.heap) (fun n s' hI => ?_) n ⟨Rest.refl _, hI⟩ (ht it)
  refine (turn n s'.heap hI.2).wp rfl fun r s3 r3 q3 => ?_
  cases r with
  | none => exact wpAny_execs_nil (k _ _ ((r1.trans r2).trans (hI.1.trans r3)) q3)
  | some v =>
    refine (show Run prog w A (assign target env v) s3.heap _ from q3).wp rfl fun _ s4 r4 q4 => q4.wp rfl fun f s5 r5 q5 => ?_
    have r := ((hI.1.trans r3).trans r4).trans r5
    cases f with
    | next => obtain ⟨m, hm, q⟩ := q5; exact ⟨m, hm, r, q⟩
    | cont => obtain ⟨m, hm, q⟩ := q5; exact ⟨m, hm, r, q⟩
    | brk => exact k _ _ ((r1.trans r2).trans r) q5
    | ret v => exact k _ _ ((r1.trans r2).trans r) q5
theorem for_turns {target : Expr} {body : List Stmt} {it : Value} {Q : Flow → Heap → Prop} {h₂ : Heap} (I : Nat → Heap → Prop) (n : Nat) (hI : I n h₂)
    (turn : ∀ T : Nat → Flow → Heap → Prop, (∀ n m h, m < n → I m h → T n .next h) → ∀ n h, I n h → Run prog w A (pyNext it) h fun r h₃ => match r with
        | none => Q .next h₃
        | some v => Run prog w A (assign target env v) h₃ fun _ h₄ => Run prog w A (execs body env) h₄ (T n)) :
    ∃ (I : Nat → Heap → Prop) (n : Nat), I n h₂ ∧ ∀ n h, I n h → Run prog w A (pyNext it) h fun r h₃ => match r with
        | none => Q .next h₃
        | some v => Run prog w A (assign target env v) h₃ fun _ h₄ => Run prog w A (execs body env) h₄ (Turned I Q n) :=
  ⟨I, n, hI, turn (Turned I Q) fun _ m _ l x => ⟨m, l, x⟩⟩
end

/-! ## the plain run, over the first places' numbers -/
structure PS where
  lie : List Nat
  deeds : List (Nat × Int)
  ans : List Bool

noncomputable abbrev Ora := List Bool → Nat → Nat → Bool
noncomputable def Fit (s : PS) : Prop := s.deeds.length ≤ 40010 ∧ s.ans.length ≤ 40010
noncomputable def rd (p : Int) (s : PS) : Option (Nat × PS) := if 0 ≤ p ∧ s.deeds.length ≤ 40000 ∧ s.ans.length ≤ 40000 then (s.lie[p.toNat]?).map fun i => (i, { s with deeds := s.deeds ++ [(0, p)] }) else none
noncomputable def wr (p : Int) (i : Nat) (s : PS) : Option PS := if 0 ≤ p ∧ p.toNat < s.lie.length ∧ s.deeds.length ≤ 40000 ∧ s.ans.length ≤ 40000 then some { s with lie := s.lie.set p.toNat i, deeds := s.deeds ++ [(1, p)] } else none
noncomputable def ask (o : Ora) (i j : Nat) (s : PS) : Bool × PS := (o s.ans i j, { s with ans := s.ans ++ [o s.ans i j] })
noncomputable def hold (s : PS) : PS := { s with deeds := s.deeds ++ [(2, 0)] }
noncomputable def drop (s : PS) : PS := { s with deeds := s.deeds ++ [(3, 0)] }

noncomputable def upLoop (o : Ora) (pv : Nat) (high : Int) : Nat → Int → Nat → PS → Option (Int × Nat × PS)
  | 0, _, _, _ => none
  | f + 1, at_, v, s => match ask o v pv s with
    | (false, s) => some (at_, v, s)
    | (true, s) => if high < at_ then none else match rd (at_ + 1) s with
      | none => none
      | some (v, s) => upLoop o pv high f (at_ + 1) v s
noncomputable def goUp (o : Ora) (pv : Nat) (at_ high : Int) (f : Nat) (s : PS) : Option (Int × Nat × PS) := match rd (at_ + 1) s with
  | none => none
  | some (v, s) => upLoop o pv high f (at_ + 1) v s
noncomputable def downLoop (o : Ora) (pv : Nat) (low : Int) : Nat → Int → Nat → PS → Option (Int × Nat × PS)
  | 0, _, _, _ => none
  | f + 1, at_, v, s => match ask o pv v s with
    | (false, s) => some (at_, v, s)
    | (true, s) => if at_ < low then none else match rd (at_ - 1) s with
      | none => none
      | some (v, s) => downLoop o pv low f (at_ - 1) v s
noncomputable def goDown (o : Ora) (pv : Nat) (at_ low : Int) (f : Nat) (s : PS) : Option (Int × Nat × PS) := match rd (at_ - 1) s with
  | none => none
  | some (v, s) => downLoop o pv low f (at_ - 1) v s
noncomputable def FitK (k : Nat) (s : PS) : Prop := s.deeds.length ≤ 40000 + k ∧ s.ans.length ≤ 40000 + k
theorem FitK.fit {k : Nat} {s : PS} (f : FitK k s) (h : k ≤ 10 := by decide) : Fit s := ⟨by have := f.1; lia, by have := f.2; lia⟩
theorem rd_fit {p : Int} {s s' : PS} {i : Nat} (e : rd p s = some (i, s')) : FitK 1 s' := by
  unfold rd at e
  split at e
  · rename_i h
    obtain ⟨j, _, e⟩ := Option.map_eq_some_iff.mp e
    cases e
    exact ⟨by show (s.deeds ++ [(0, p)]).length ≤ _; rw [List.length_append, List.length_singleton]; lia, by show s.ans.length ≤ _; lia⟩
  · cases e
theorem ask_fit {o : Ora} {i j k : Nat} {s : PS} (f : FitK k s) : FitK (k + 1) (ask o i j s).2 :=
  ⟨by have := f.1; show s.deeds.length ≤ _; lia, by have := f.2; show (s.ans ++ [_]).length ≤ _; rw [List.length_append, List.length_singleton]; lia⟩
theorem upLoop_fit {o : Ora} {pv : Nat} {high : Int} : ∀ {f : Nat} {at_ : Int} {v : Nat} {s : PS} {r : Int} {i : Nat} {s' : PS}, FitK 1 s → upLoop o pv high f at_ v s = some (r, i, s') → FitK 2 s'
  | 0, _, _, _, _, _, _, _, e => by cases e
  | f + 1, at_, v, s, r, i, s', ft, e => by
    have ha := ask_fit (o := o) (i := v) (j := pv) ft
    unfold upLoop at e
    generalize ask o v pv s = a at e ha
    obtain ⟨b, s₂⟩ := a
    cases b with
    | false => cases e; exact ha
    | true =>
      dsimp only at e
      split at e
      · cases e
      split at e
      · cases e
      rename_i e₂
      exact upLoop_fit (rd_fit e₂) e
theorem goUp_fit {o : Ora} {pv : Nat} {at_ high : Int} {f : Nat} {s : PS} {r : Int} {i : Nat} {s' : PS} (e : goUp o pv at_ high f s = some (r, i, s')) : FitK 2 s' := by
  unfold goUp at e
  split at e
  · cases e
  rename_i e₂
  exact upLoop_fit (rd_fit e₂) e
theorem downLoop_fit {o : Ora} {pv : Nat} {low : Int} : ∀ {f : Nat} {at_ : Int} {v : Nat} {s : PS} {r : Int} {i : Nat} {s' : PS}, FitK 1 s → downLoop o pv low f at_ v s = some (r, i, s') → FitK 2 s'
  | 0, _, _, _, _, _, _, _, e => by cases e
  | f + 1, at_, v, s, r, i, s', ft, e => by
    have ha := ask_fit (o := o) (i := pv) (j := v) ft
    unfold downLoop at e
    generalize ask o pv v s = a at e ha
    obtain ⟨b, s₂⟩ := a
    cases b with
    | false => cases e; exact ha
    | true =>
      dsimp only at e
      split at e
      · cases e
      split at e
      · cases e
      rename_i e₂
      exact downLoop_fit (rd_fit e₂) e
theorem goDown_fit {o : Ora} {pv : Nat} {at_ low : Int} {f : Nat} {s : PS} {r : Int} {i : Nat} {s' : PS} (e : goDown o pv at_ low f s = some (r, i, s')) : FitK 2 s' := by
  unfold goDown at e
  split at e
  · cases e
  rename_i e₂
  exact downLoop_fit (rd_fit e₂) e

/-! ## the five that are handed over -/
structure CB (prog : Program) (w : World) (G : Heap) (c : QF) (fst : Int) (val : Nat → Value) (o : Ora) (AR : PS → List Ch → Prop) : Prop where
  f_get : IsFun G c.get
  f_put : IsFun G c.put
  f_less : IsFun G c.less
  f_hold : IsFun G c.hold
  f_drop : IsFun G c.drop
  get : ∀ {A h sub ps at_ t i ps'}, Room A 8 → Sub G h → Own G h sub → AR ps sub → rd at_ ps = some (i, ps') →
    Run prog w A (call (.ref c.get) [.int (fst + at_) t]) h fun v h' => ∃ sub', (v = val i ∧ AR ps' sub') ∧ Post G h sub sub' h'
  put : ∀ {A h sub ps at_ t i ps'}, Room A 8 → Sub G h → Own G h sub → AR ps sub → wr at_ i ps = some ps' →
    Run prog w A (call (.ref c.put) [.int (fst + at_) t, val i]) h fun v h' => ∃ sub', (v = .none ∧ AR ps' sub') ∧ Post G h sub sub' h'
  less : ∀ {A h sub ps i j}, Room A 8 → Sub G h → Own G h sub → AR ps sub → Fit ps →
    Run prog w A (call (.ref c.less) [val i, val j]) h fun v h' => ∃ sub', (v = .bool (ask o i j ps).1 ∧ AR (ask o i j ps).2 sub') ∧ Post G h sub sub' h'
  hold : ∀ {A h sub ps i}, Room A 8 → Sub G h → Own G h sub → AR ps sub → Fit ps →
    Run prog w A (call (.ref c.hold) [val i]) h fun v h' => ∃ sub', (v = .none ∧ AR (hold ps) sub') ∧ Post G h sub sub' h'
  drop : ∀ {A h sub ps}, Room A 8 → Sub G h → Own G h sub → AR ps sub → Fit ps →
    Run prog w A (call (.ref c.drop) []) h fun v h' => ∃ sub', (v = .none ∧ AR (drop ps) sub') ∧ Post G h sub sub' h'
end

/-! ### Q4 -/
noncomputable section
open PySem PySem.W PyProof.Rows
set_option Elab.async false
set_option maxRecDepth 100000

section
variable {prog : Program} {w : World} {A : Around} {G B h : Heap} {K : Frag} {env : Env} {lo : List (Str × Value)} {nw rest : List Ch} {L : Addr}

theorem extBut_sub {h h' : Heap} (e : Heap.ExtBut h.objs.size h h') : Sub h h' := fun b o eb => e b o (Nat.ne_of_lt (Heap.lt_size eb)) eb
theorem TupP.is {p : Addr} {items : List Value} (x : Has h (p, TupP items)) : IsTup h p items.toArray := let ⟨o, e, n, q⟩ := x; ⟨o, e, by rw [q], n, by rw [q]⟩

theorem r_unpackItems {p : Addr} {items : List Value} {n : Nat} {Q : List Value → Heap → Prop} (hh : A.handled = none) (S : St G B L h lo nw) (ht : Has h (p, TupP items)) (hn : n = items.length)
    (q : ∀ h', St G B L h' lo nw → Sub h h' → Q items h') : Run prog w A (unpackItems (.ref p) n none) h Q := by
  intro s E Q' es k
  subst es
  have hn' : n = items.toArray.size := by simpa using hn
  subst hn'
  exact unpackItems_tuple hh (TupP.is ht) fun h' he => k _ _ ⟨rfl, rfl, rfl⟩ (by simpa using q h' (S.grow (extBut_sub he)) (extBut_sub he))
theorem r_assignTuple {elts : List Expr} {k : Nat} {pos : Pos} {p : Addr} {items : List Value} {Q : Unit → Heap → Prop} (hh : A.handled = none) (S : St G B L h lo nw) (ht : Has h (p, TupP items))
    (q : ∀ h', St G B L h' lo nw → Sub h h' → Run prog w A (assignInOrder ((assignEach elts env).map (·.2)) items) h' Q)
    (hn : (assignEach elts env).length = items.length := by rfl) (hstar : (assignEach elts env).findIdx? (·.1) = none := by rfl) : Run prog w A (assign (.Tuple elts k pos) env (.ref p)) h Q := by
  intro s E Q' es kk
  subst es
  exact assign_Tuple_tuple hh (TupP.is ht) (by simpa using hn) hstar fun h' he => by
    have := q h' (S.grow (extBut_sub he)) (extBut_sub he)
    exact (show Run prog w A (assignInOrder ((assignEach elts env).map (·.2)) items.toArray.toList) h' Q from by simpa using this).wp rfl kk
theorem r_ordNil {xs : List Value} {Q : Unit → Heap → Prop} (q : Q () h) : Run prog w A (assignInOrder [] xs) h Q := r_pure q
theorem r_ord {t : Value → Sem Unit} {ts : List (Value → Sem Unit)} {x : Value} {xs : List Value} {Q : Unit → Heap → Prop} (q : Run prog w A (t x) h fun _ h' => Run prog w A (assignInOrder ts xs) h' Q) :
    Run prog w A (assignInOrder (t :: ts) (x :: xs)) h Q := by
  unfold assignInOrder
  intro s E Q' es k
  exact wpAny_bind (wpAny_holding (q.wp es fun _ _ r1 q1 => q1.wp rfl fun _ _ r2 q2 => k _ _ (r1.trans r2) q2))
theorem r_toName {x : Str} {pos : Pos} {v : Value} {Q : Unit → Heap → Prop} (q : Run prog w A (storeName env x v) h Q) : Run prog w A (assign (.Name x pos) env v) h Q :=
  fun _ _ _ es k => PyProof.Rows.assign_Name (q.wp es k)
theorem r_bindName {x : Str} {v : Value} {Q : Unit → Heap → Prop} (q : Run prog w A (storeName env x v) h Q) : Run prog w A (bindName env x v) h Q :=
  fun _ _ _ es k => bindName_ (q.wp es k)
theorem r_AssignTup {elts : List Expr} {k : Nat} {tpos pos : Pos} {value : Expr} {Q : Flow → Heap → Prop} (q : Run prog w A (eval value env) h fun v h₁ => Run prog w A (assign (.Tuple elts k tpos) env v) h₁ fun _ h₂ => Q .next h₂)
    (hs : swapsWithSole [.Tuple elts k tpos] value pos.line env = pure false := by rfl) (hw : swappedStores [.Tuple elts k tpos] value env = pure none := by rfl) :
    Run prog w A (exec (.Assign [.Tuple elts k tpos] value pos) env) h Q :=
  fun _ _ _ es kk => Assign_Tuple (q.wp es fun _ _ r1 q1 => q1.wp rfl fun _ _ r2 q2 => kk _ _ (r1.trans r2) q2) hs hw
theorem r_AssignTupS {elts : List Expr} {k : Nat} {tpos pos : Pos} {value : Expr} {names : List Str} {Q : Flow → Heap → Prop}
    (q : Run prog w A (eval value env) h fun v h₁ => Run prog w A (unpackItems v names.length none) h₁ fun items h₂ => Run prog w A (assignInOrder (names.reverse.map fun n => bindName env n) items.reverse) h₂ fun _ h₃ => Q .next h₃)
    (hs : swapsWithSole [.Tuple elts k tpos] value pos.line env = pure false := by rfl) (hw : swappedStores [.Tuple elts k tpos] value env = pure (some names) := by rfl) :
    Run prog w A (exec (.Assign [.Tuple elts k tpos] value pos) env) h Q :=
  fun _ _ _ es kk => Assign_Tuple_swapped (q.wp es fun _ _ r1 q1 => q1.wp rfl fun _ _ r2 q2 => q2.wp rfl fun _ _ r3 q3 => kk _ _ ((r1.trans r2).trans r3) q3) hs hw

theorem onw {rest : List Stmt} {Q : Flow → Heap → Prop} (q : Run prog w A (execs rest env) h Q) : Onward prog w A env rest Q .next h := q
noncomputable def AllIn (lo : List (Str × Value)) : List (Str × Value) → Prop
  | [] => True
  | (x, v) :: r => look x lo = some v ∧ AllIn lo r
theorem AllIn.of {lo : List (Str × Value)} : ∀ {lo' : List (Str × Value)}, AllIn lo lo' → ∀ x v, look x lo' = some v → look x lo = some v
  | [], _, x, v, e => by cases e
  | (y, u) :: r, k, x, v, e => by
    unfold look at e
    by_cases h : y = x
    · subst h; rw [if_pos rfl] at e; cases e; exact k.1
    · rw [if_neg h] at e; exact AllIn.of k.2 x v e
theorem St.to {lo' : List (Str × Value)} (S : St G B L h lo nw) (k : AllIn lo lo') : St G B L h lo' nw := S.weak k.of

theorem r_isub {a b : Int} {t u : Tok} {Q : Value → Heap → Prop} (q : ∀ t, Q (.int (a - b) t) h) : Run prog w A (inplaceOp .Sub (.int a t) (.int b u)) h Q :=
  fun _ _ _ e c => PyProof.Rows.isub_int (c _ _ (Rest.refl _) (e ▸ q _))
/-- an expression that changes nothing -/
noncomputable def PE (prog : Program) (w : World) (A : Around) (env : Env) (h : Heap) (e : Expr) (P : Value → Prop) : Prop := Run prog w A (eval e env) h fun v h' => h' = h ∧ P v
theorem pe_local {x : Str} {pos : Pos} {v : Value} {P : Value → Prop} (S : St G B env.locals h lo nw) (hv : look x lo = some v) (p : P v)
    (hk : env.scope.kind = .function := by rfl) (hl : env.kindOf x = some .local := by rfl) (hd : (x == ("__debug__" : Str)) = false := by decide) : PE prog w A env h (.Name x pos) P := r_local S hv ⟨rfl, p⟩ hk hl hd
noncomputable def IntV (i : Int) (v : Value) : Prop := ∃ t, v = .int i t
theorem pe_int {i : Int} {k : Nat} {pos : Pos} : PE prog w A env h (.Constant (.int i) k pos) (IntV i) := r_int fun t => ⟨rfl, t, rfl⟩
theorem pe_add {l r : Expr} {pos : Pos} {a b c : Int} (hl : PE prog w A env h l (IntV a)) (hr : PE prog w A env h r (IntV b)) (e : a + b = c) : PE prog w A env h (.BinOp l .Add r pos) (IntV c) :=
  r_BinOp (hl.mono fun _ _ ⟨e1, t, e2⟩ => by subst e1 e2; exact hr.mono fun _ _ ⟨e3, u, e4⟩ => by subst e3 e4; exact r_add fun t => ⟨rfl, t, by rw [e]⟩)
theorem pe_sub {l r : Expr} {pos : Pos} {a b c : Int} (hl : PE prog w A env h l (IntV a)) (hr : PE prog w A env h r (IntV b)) (e : a - b = c) : PE prog w A env h (.BinOp l .Sub r pos) (IntV c) :=
  r_BinOp (hl.mono fun _ _ ⟨e1, t, e2⟩ => by subst e1 e2; exact hr.mono fun _ _ ⟨e3, u, e4⟩ => by subst e3 e4; exact r_sub fun t => ⟨rfl, t, by rw [e]⟩)
theorem pe_test {op : CmpOp} {l r : Expr} {pos : Pos} {a b : Int} {c : Bool} {whole : Sem Value} {Q : Bool → Heap → Prop} (hl : PE prog w A env h l (IntV a)) (hr : PE prog w A env h r (IntV b))
    (hc : ∀ t u, Run prog w A (compareOp op (.int a t) (.int b u)) h fun v h' => h' = h ∧ v = .bool c) (q : Q c h) (hm : behindInMarks op r = false := by with_unfolding_all rfl) :
    Run prog w A (isTrue (.Compare l [op] [r] pos) env whole) h Q :=
  r_testCmp (hl.mono fun _ _ ⟨e1, t, e2⟩ => by subst e1 e2; exact hr.mono fun _ _ ⟨e3, u, e4⟩ => by subst e3 e4; exact (hc t u).mono fun _ _ ⟨e5, e6⟩ => by subst e5 e6; exact r_truthB q) hm
theorem c_lt {a b : Int} (t u : Tok) : Run prog w A (compareOp .Lt (.int a t) (.int b u)) h fun v h' => h' = h ∧ v = .bool (decide (a < b)) := r_lt ⟨rfl, rfl⟩
theorem c_gt {a b : Int} (t u : Tok) : Run prog w A (compareOp .Gt (.int a t) (.int b u)) h fun v h' => h' = h ∧ v = .bool (decide (b < a)) := r_gt ⟨rfl, rfl⟩
end

section
variable {prog : Program} {w : World} {A : Around} {G B h : Heap} {K : Frag} {env : Env} {lo : List (Str × Value)} {c : QF} {fst : Int} {val : Nat → Value} {o : Ora} {AR : PS → List Ch → Prop} {x : Addr} {sub : List Ch} {ps ps' : PS}

theorem St.callee {L : Addr} {h' : Heap} {sub'} (S : St G B L h lo sub) (P : Post G h sub sub' h') : St G B L h' lo sub' := by
  have := S.call (rest := []) (by rw [List.append_nil]) P
  rwa [List.append_nil] at this

/-- what a method of the class stands on -/
structure Qs (prog : Program) (w : World) (K : Frag) (G : Heap) (x : Addr) (c : QF) (fst : Int) (val : Nat → Value) (o : Ora) (AR : PS → List Ch → Prop) : Prop where
  gl : Gl K G
  kf : KF K
  iq : IsQ G x c
  cb : CB prog w G c fst val o AR

theorem own_g {L : Addr} (S : St G B L h lo sub) : Own G h sub := S.own.base fun d hd => S.gb.none (S.own.1 d hd).2

theorem x_get {pl : Sem Bool} {p1 p2 p4 : Pos} {a : Expr} {at_ : Int} {i : Nat} {Q : Value → Heap → Prop} (q : Qs prog w K G x c fst val o AR) (room : Room A 8) (S : St G B env.locals h lo sub) (ar : AR ps sub)
    (hs : look "self" lo = some (.ref x)) (ha : PE prog w A env h a (IntV (fst + at_))) (e : rd at_ ps = some (i, ps'))
    (k : ∀ h' sub', AR ps' sub' → St G B env.locals h' lo sub' → Q (val i) h')
    (hk : env.scope.kind = .function := by rfl) (hl : env.kindOf "self" = some .local := by rfl) (he : starEach [a] env = (false, eval a env) :: starEach [] env := by rfl)
    (hm : eval (.Call (.Attribute (.Name "self" p1) "get" p2) [a] [] p4) env = (do
      let ov ← eval (.Name "self" p1) env
      standAt p2.atName
      let (f, first) ← holding [ov] (getMethod ov "get" pl)
      callWith p4 f first (backTo p4 (starEach [a] env)) []) := by rfl) :
    Run prog w A (eval (.Call (.Attribute (.Name "self" p1) "get" p2) [a] [] p4) env) h Q :=
  r_Method (r_local S hs (q_get q.gl q.kf S.gh q.iq (r_fn (r_args (ha.mono fun v h₁ ⟨e1, t, e2⟩ => by
    subst e1 e2
    exact r_args0 ⟨q.cb.f_get.sub S.gh, (q.cb.get room S.gh (own_g S) ar e).mono fun v h' ⟨sub', ⟨hv, ar'⟩, P⟩ => hv ▸ k h' sub' ar' (S.callee P)⟩) he) he rfl)) hk hl) hm

theorem x_put {pl : Sem Bool} {p1 p2 p4 : Pos} {a b : Expr} {at_ : Int} {i : Nat} {Q : Value → Heap → Prop} (q : Qs prog w K G x c fst val o AR) (room : Room A 8) (S : St G B env.locals h lo sub) (ar : AR ps sub)
    (hs : look "self" lo = some (.ref x)) (ha : PE prog w A env h a (IntV (fst + at_))) (hb : PE prog w A env h b (· = val i)) (e : wr at_ i ps = some ps')
    (k : ∀ h' sub', AR ps' sub' → St G B env.locals h' lo sub' → Q .none h')
    (hk : env.scope.kind = .function := by rfl) (hl : env.kindOf "self" = some .local := by rfl) (he : starEach [a, b] env = (false, eval a env) :: starEach [b] env := by rfl) (he' : starEach [b] env = (false, eval b env) :: starEach [] env := by rfl)
    (hm : eval (.Call (.Attribute (.Name "self" p1) "put" p2) [a, b] [] p4) env = (do
      let ov ← eval (.Name "self" p1) env
      standAt p2.atName
      let (f, first) ← holding [ov] (getMethod ov "put" pl)
      callWith p4 f first (backTo p4 (starEach [a, b] env)) []) := by rfl) :
    Run prog w A (eval (.Call (.Attribute (.Name "self" p1) "put" p2) [a, b] [] p4) env) h Q :=
  r_Method (r_local S hs (q_put q.gl q.kf S.gh q.iq (r_fn (r_args (ha.mono fun v h₁ ⟨e1, t, e2⟩ => by
    subst e1 e2
    exact r_args (hb.mono fun v h₁ ⟨e3, e4⟩ => by
      subst e3 e4
      exact r_args0 ⟨q.cb.f_put.sub S.gh, (q.cb.put room S.gh (own_g S) ar e).mono fun v h' ⟨sub', ⟨hv, ar'⟩, P⟩ => hv ▸ k h' sub' ar' (S.callee P)⟩) he') he) he (by rw [he']; rfl))) hk hl) hm

theorem x_less {pl : Sem Bool} {p1 p2 p4 : Pos} {a b : Expr} {i j : Nat} {Q : Value → Heap → Prop} (q : Qs prog w K G x c fst val o AR) (room : Room A 8) (S : St G B env.locals h lo sub) (ar : AR ps sub) (ft : Fit ps)
    (hs : look "self" lo = some (.ref x)) (ha : PE prog w A env h a (· = val i)) (hb : PE prog w A env h b (· = val j))
    (k : ∀ h' sub', AR (ask o i j ps).2 sub' → St G B env.locals h' lo sub' → Q (.bool (ask o i j ps).1) h')
    (hk : env.scope.kind = .function := by rfl) (hl : env.kindOf "self" = some .local := by rfl) (he : starEach [a, b] env = (false, eval a env) :: starEach [b] env := by rfl) (he' : starEach [b] env = (false, eval b env) :: starEach [] env := by rfl)
    (hm : eval (.Call (.Attribute (.Name "self" p1) "less" p2) [a, b] [] p4) env = (do
      let ov ← eval (.Name "self" p1) env
      standAt p2.atName
      let (f, first) ← holding [ov] (getMethod ov "less" pl)
      callWith p4 f first (backTo p4 (starEach [a, b] env)) []) := by rfl) :
    Run prog w A (eval (.Call (.Attribute (.Name "self" p1) "less" p2) [a, b] [] p4) env) h Q :=
  r_Method (r_local S hs (q_less q.gl q.kf S.gh q.iq (r_fn (r_args (ha.mono fun v h₁ ⟨e1, e2⟩ => by
    subst e1 e2
    exact r_args (hb.mono fun v h₁ ⟨e3, e4⟩ => by
      subst e3 e4
      exact r_args0 ⟨q.cb.f_less.sub S.gh, (q.cb.less room S.gh (own_g S) ar ft).mono fun v h' ⟨sub', ⟨hv, ar'⟩, P⟩ => hv ▸ k h' sub' ar' (S.callee P)⟩) he') he) he (by rw [he']; rfl))) hk hl) hm

theorem x_hold {pl : Sem Bool} {p1 p2 p4 : Pos} {a : Expr} {i : Nat} {Q : Value → Heap → Prop} (q : Qs prog w K G x c fst val o AR) (room : Room A 8) (S : St G B env.locals h lo sub) (ar : AR ps sub) (ft : Fit ps)
    (hs : look "self" lo = some (.ref x)) (ha : PE prog w A env h a (· = val i))
    (k : ∀ h' sub', AR (hold ps) sub' → St G B env.locals h' lo sub' → Q .none h')
    (hk : env.scope.kind = .function := by rfl) (hl : env.kindOf "self" = some .local := by rfl) (he : starEach [a] env = (false, eval a env) :: starEach [] env := by rfl)
    (hm : eval (.Call (.Attribute (.Name "self" p1) "hold" p2) [a] [] p4) env = (do
      let ov ← eval (.Name "self" p1) env
      standAt p2.atName
      let (f, first) ← holding [ov] (getMethod ov "hold" pl)
      callWith p4 f first (backTo p4 (starEach [a] env)) []) := by rfl) :
    Run prog w A (eval (.Call (.Attribute (.Name "self" p1) "hold" p2) [a] [] p4) env) h Q :=
  r_Method (r_local S hs (q_hold q.gl q.kf S.gh q.iq (r_fn (r_args (ha.mono fun v h₁ ⟨e1, e2⟩ => by
    subst e1 e2
    exact r_args0 ⟨q.cb.f_hold.sub S.gh, (q.cb.hold room S.gh (own_g S) ar ft).mono fun v h' ⟨sub', ⟨hv, ar'⟩, P⟩ => hv ▸ k h' sub' ar' (S.callee P)⟩) he) he rfl)) hk hl) hm
theorem x_drop {pl : Sem Bool} {p1 p2 p4 : Pos} {Q : Value → Heap → Prop} (q : Qs prog w K G x c fst val o AR) (room : Room A 8) (S : St G B env.locals h lo sub) (ar : AR ps sub) (ft : Fit ps)
    (hs : look "self" lo = some (.ref x))
    (k : ∀ h' sub', AR (drop ps) sub' → St G B env.locals h' lo sub' → Q .none h')
    (hk : env.scope.kind = .function := by rfl) (hl : env.kindOf "self" = some .local := by rfl)
    (hm : eval (.Call (.Attribute (.Name "self" p1) "drop" p2) [] [] p4) env = (do
      let ov ← eval (.Name "self" p1) env
      standAt p2.atName
      let (f, first) ← holding [ov] (getMethod ov "drop" pl)
      callWith p4 f first (backTo p4 (starEach [] env)) []) := by rfl) :
    Run prog w A (eval (.Call (.Attribute (.Name "self" p1) "drop" p2) [] [] p4) env) h Q :=
  r_Method (r_local S hs (q_drop q.gl q.kf S.gh q.iq (r_fn0 (q.cb.f_drop.sub S.gh)
    ((q.cb.drop room S.gh (own_g S) ar ft).mono fun v h' ⟨sub', ⟨hv, ar'⟩, P⟩ => hv ▸ k h' sub' ar' (S.callee P)))) hk hl) hm

noncomputable def PairOut (AR : PS → List Ch → Prop) (ps : PS) (a b : Value → Prop) (v : Value) (sub : List Ch) : Prop :=
  ∃ p u u' sub', v = .ref p ∧ a u ∧ b u' ∧ sub = (p, TupP [u, u']) :: sub' ∧ AR ps sub'
end
end

local macro_rules | `(tactic| walk_at "nx") => `(tactic| (refine onw ?_; refine r_cons ?_))

/-! ### W1 -/
noncomputable section
open PySem PySem.W PyProof.Rows
set_option Elab.async false
set_option maxRecDepth 100000
section
variable {prog : Program} {w : World} {A : Around} {G h : Heap} {K : Frag} {c : QF} {fst : Int} {val : Nat → Value} {o : Ora} {AR : PS → List Ch → Prop} {x : Addr} {sub : List Ch} {ps ps' : PS}

set_option maxHeartbeats 4000000 in
theorem up_spec (q : Qs prog w K G x c fst val o AR) {pv : Nat} {at_ high : Int} {t1 t2 : Tok} {f : Nat} {r : Int} {i : Nat} (room : Room A 10) (gh : Sub G h) (O : Own G h sub) (ar : AR ps sub)
    (e : goUp o pv at_ high f ps = some (r, i, ps')) :
    Run prog w A (call (.ref 69) [.ref x, val pv, .int (fst + at_) t1, .int (fst + high) t2]) h fun v h' => ∃ sub', PairOut AR ps' (IntV (fst + r)) (· = val i) v sub' ∧ Post G h sub sub' h' := by
  refine call_fn (binds := [("self", .ref x), ("pivot", val pv), ("at", .int (fst + at_) t1), ("high", .int (fst + high) t2)]) room.lt q.gl gh O (q.kf.f_up h (q.gl.kin.keeps gh)) (by intros; rfl) (by decide) (locs rfl) rfl rfl rfl ?_
  intro B L h₁ cdv bo S
  have rm : Room (A.deeper (envX "Quicksort.go_up" A_up.scope L 69 cdv [])) 8 := (room.less (by lia : 9 ≤ 10)).deeper _
  refine Run.gen fun Q hQ => ?_
  refine r_cons (r_AugName (r_loadLocal S rfl (r_int fun t => (r_iadd fun t => ?_))))
  rw [Int.add_assoc]
  refine r_store S fun h S => ?_
  unfold goUp at e
  split at e
  · cases e
  rename_i v₁ ps₁ e₁
  walk_at "nx"
  refine r_AssignName ?_
  refine x_get q rm S ar rfl (pe_local S rfl ⟨t, rfl⟩) e₁ fun h sub ar S => ?_
  refine r_store S fun h S => ?_
  walk_at "nx"
  refine r_While' (fun n h => ∀ C : Prop, (∀ at_ v ps sub t, AR ps sub → FitK 1 ps → St G B L h [("self", .ref x), ("pivot", val pv), ("at", .int (fst + at_) t), ("high", .int (fst + high) t2), ("value", val v)] sub → upLoop o pv high n at_ v ps = some (r, i, ps') → C) → C) f
    (fun _ k => k (at_ + 1) v₁ ps₁ sub t ar (rd_fit e₁) (S.to ⟨rfl, rfl, rfl, rfl, rfl, trivial⟩) e) fun T nx bk n h hI => hI _ fun at_ v ps sub t ar ft S e => ?_
  clear hI
  cases n with
  | zero => cases e
  | succ n =>
    unfold upLoop at e
    refine r_testVal ?_
    refine x_less q rm S ar ft.fit rfl (pe_local S rfl rfl) (pe_local S rfl rfl) fun h sub ar S => ?_
    refine r_truthB ?_
    generalize ask o v pv ps = a at e ar ⊢
    obtain ⟨b, ps₂⟩ := a
    cases b with
    | false =>
      dsimp only at e ar ⊢
      cases e
      rw [if_neg (by decide)]
      refine r_nil ?_
      walk_at "nx"
      refine r_Return ?_
      refine r_Tuple ?_
      refine r_args (r_local S rfl ?_)
      refine r_args (r_local S rfl ?_)
      refine r_args0 ?_
      refine r_newTuple S fun p h S => ?_
      exact hQ _ _ ⟨_, _, ⟨p, _, _, sub, rfl, ⟨t, rfl⟩, rfl, rfl, ar⟩, S⟩
    | true =>
      dsimp only at e ar ⊢
      rw [if_pos rfl]
      split at e
      · cases e
      rename_i hlt
      split at e
      · cases e
      rename_i v₂ ps₃ e₂
      refine r_cons (r_If ?_)
      refine pe_test (pe_local S rfl ⟨_, rfl⟩) (pe_local S rfl ⟨_, rfl⟩) c_gt ?_
      rw [decide_eq_false (by lia), if_neg (by decide)]
      refine r_nil ?_
      walk_at "nx"
      refine r_AugName (r_loadLocal S rfl (r_int fun t => (r_iadd fun t => ?_)))
      rw [Int.add_assoc]
      refine r_store S fun h S => ?_
      walk_at "nx"
      refine r_AssignName ?_
      refine x_get q rm S ar rfl (pe_local S rfl ⟨t, rfl⟩) e₂ fun h sub ar S => ?_
      refine r_store S fun h S => ?_
      refine onw (r_nil ?_)
      exact nx _ n _ (Nat.lt_succ_self n) fun _ k => k (at_ + 1) v₂ ps₃ sub t ar (rd_fit e₂) (S.to ⟨rfl, rfl, rfl, rfl, rfl, trivial⟩) e

set_option maxHeartbeats 4000000 in
theorem down_spec (q : Qs prog w K G x c fst val o AR) {pv : Nat} {at_ low : Int} {t1 t2 : Tok} {f : Nat} {r : Int} {i : Nat} (room : Room A 10) (gh : Sub G h) (O : Own G h sub) (ar : AR ps sub)
    (e : goDown o pv at_ low f ps = some (r, i, ps')) :
    Run prog w A (call (.ref 76) [.ref x, val pv, .int (fst + at_) t1, .int (fst + low) t2]) h fun v h' => ∃ sub', PairOut AR ps' (IntV (fst + r)) (· = val i) v sub' ∧ Post G h sub sub' h' := by
  refine call_fn (binds := [("self", .ref x), ("pivot", val pv), ("at", .int (fst + at_) t1), ("low", .int (fst + low) t2)]) room.lt q.gl gh O (q.kf.f_down h (q.gl.kin.keeps gh)) (by intros; rfl) (by decide) (locs rfl) rfl rfl rfl ?_
  intro B L h₁ cdv bo S
  have rm : Room (A.deeper (envX "Quicksort.go_down" A_down.scope L 76 cdv [])) 8 := (room.less (by lia : 9 ≤ 10)).deeper _
  refine Run.gen fun Q hQ => ?_
  refine r_cons (r_AugName (r_loadLocal S rfl (r_int fun t => (r_isub fun t => ?_))))
  rw [Int.add_sub_assoc]
  refine r_store S fun h S => ?_
  unfold goDown at e
  split at e
  · cases e
  rename_i v₁ ps₁ e₁
  walk_at "nx"
  refine r_AssignName ?_
  refine x_get q rm S ar rfl (pe_local S rfl ⟨t, rfl⟩) e₁ fun h sub ar S => ?_
  refine r_store S fun h S => ?_
  walk_at "nx"
  refine r_While' (fun n h => ∀ C : Prop, (∀ at_ v ps sub t, AR ps sub → FitK 1 ps → St G B L h [("self", .ref x), ("pivot", val pv), ("at", .int (fst + at_) t), ("low", .int (fst + low) t2), ("value", val v)] sub → downLoop o pv low n at_ v ps = some (r, i, ps') → C) → C) f
    (fun _ k => k (at_ - 1) v₁ ps₁ sub t ar (rd_fit e₁) (S.to ⟨rfl, rfl, rfl, rfl, rfl, trivial⟩) e) fun T nx bk n h hI => hI _ fun at_ v ps sub t ar ft S e => ?_
  clear hI
  cases n with
  | zero => cases e
  | succ n =>
    unfold downLoop at e
    refine r_testVal ?_
    refine x_less q rm S ar ft.fit rfl (pe_local S rfl rfl) (pe_local S rfl rfl) fun h sub ar S => ?_
    refine r_truthB ?_
    generalize ask o pv v ps = a at e ar ⊢
    obtain ⟨b, ps₂⟩ := a
    cases b with
    | false =>
      dsimp only at e ar ⊢
      cases e
      rw [if_neg (by decide)]
      refine r_nil ?_
      walk_at "nx"
      refine r_Return ?_
      refine r_Tuple ?_
      refine r_args (r_local S rfl ?_)
      refine r_args (r_local S rfl ?_)
      refine r_args0 ?_
      refine r_newTuple S fun p h S => ?_
      exact hQ _ _ ⟨_, _, ⟨p, _, _, sub, rfl, ⟨t, rfl⟩, rfl, rfl, ar⟩, S⟩
    | true =>
      dsimp only at e ar ⊢
      rw [if_pos rfl]
      split at e
      · cases e
      rename_i hlt
      split at e
      · cases e
      rename_i v₂ ps₃ e₂
      refine r_cons (r_If ?_)
      refine pe_test (pe_local S rfl ⟨_, rfl⟩) (pe_local S rfl ⟨_, rfl⟩) c_lt ?_
      rw [decide_eq_false (by lia), if_neg (by decide)]
      refine r_nil ?_
      walk_at "nx"
      refine r_AugName (r_loadLocal S rfl (r_int fun t => (r_isub fun t => ?_)))
      rw [Int.add_sub_assoc]
      refine r_store S fun h S => ?_
      walk_at "nx"
      refine r_AssignName ?_
      refine x_get q rm S ar rfl (pe_local S rfl ⟨t, rfl⟩) e₂ fun h sub ar S => ?_
      refine r_store S fun h S => ?_
      refine onw (r_nil ?_)
      exact nx _ n _ (Nat.lt_succ_self n) fun _ k => k (at_ - 1) v₂ ps₃ sub t ar (rd_fit e₂) (S.to ⟨rfl, rfl, rfl, rfl, rfl, trivial⟩) e
end
end

/-! ### Q5 -/
noncomputable section
open PySem PySem.W PyProof.Rows
set_option Elab.async false
set_option maxRecDepth 100000
/-! ## the plain run, the rest -/
noncomputable def two (o : Ora) (low high : Int) (s : PS) : Option PS := match rd low s with
  | none => none
  | some (one, s) => match rd high s with
    | none => none
    | some (other, s) => match ask o other one s with
      | (false, s) => some s
      | (true, s) => match wr low other s with
        | none => none
        | some s => wr high one s
noncomputable def mid (o : Ora) (low m high : Int) (s : PS) : Option PS := match rd m s with
  | none => none
  | some (one, s) => match rd low s with
    | none => none
    | some (first, s) => match ask o one first s with
      | (true, s) => (match wr m first s with
        | none => none
        | some s => wr low one s)
      | (false, s) => match rd high s with
        | none => none
        | some (last, s) => match ask o last one s with
          | (false, s) => some s
          | (true, s) => match wr m last s with
            | none => none
            | some s => wr high one s
noncomputable def finish (high up : Int) (s : PS) : Option PS := match rd (high - 1) s with
  | none => none
  | some (last, s) => match rd up s with
    | none => none
    | some (here, s) => match wr (high - 1) here s with
      | none => none
      | some s => wr up last s
noncomputable def partLoop (o : Ora) (F : Nat) (pv : Nat) (low high : Int) : Nat → Int → Int → PS → Option (Int × PS)
  | 0, _, _, _ => none
  | f + 1, up, down, s => match goUp o pv up high F s with
    | none => none
    | some (up, one, s) => match goDown o pv down low F (hold s) with
      | none => none
      | some (down, other, s) => if down < up then (finish high up (drop s)).map fun s => (up, s) else match wr up other (drop s) with
        | none => none
        | some s => match wr down one s with
          | none => none
          | some s => partLoop o F pv low high f up down s
noncomputable def part (o : Ora) (F : Nat) (low high : Int) (s : PS) : Option (Int × PS) := match rd ((low + high) / 2) s with
  | none => none
  | some (pv, s) => match rd (high - 1) s with
    | none => none
    | some (y, s) => match wr ((low + high) / 2) y s with
      | none => none
      | some s => match wr (high - 1) pv s with
        | none => none
        | some s => partLoop o F pv low high F low (high - 1) s
noncomputable def stepTwo (o : Ora) (low high : Int) (s : PS) : Option PS := if low < high then two o low high s else some s
noncomputable def stepMid (o : Ora) (low high : Int) (s : PS) : Option PS := if 1 < high - low then mid o low ((low + high) / 2) high s else some s
noncomputable def sortLoop (o : Ora) (F : Nat) : Nat → List (Int × Int) → PS → Option PS
  | 0, _, _ => none
  | _ + 1, [], s => some s
  | f + 1, (low, high) :: st, s => match stepTwo o low high s with
    | none => none
    | some s => match stepMid o low high s with
      | none => none
      | some s => if 2 < high - low then (match part o F low high s with
        | none => none
        | some (seam, s) => if high - seam ≤ seam - low then sortLoop o F f ((seam + 1, high) :: (low, seam - 1) :: st) s else sortLoop o F f ((low, seam - 1) :: (seam + 1, high) :: st) s)
        else sortLoop o F f st s

section
variable {prog : Program} {w : World} {A : Around} {G B h : Heap} {K : Frag} {env : Env} {lo : List (Str × Value)} {c : QF} {fst : Int} {val : Nat → Value} {o : Ora} {AR : PS → List Ch → Prop} {x : Addr} {sub : List Ch} {ps ps' ps₁ : PS}

theorem x_put_get {pl pl' : Sem Bool} {p1 p2 p4 p5 p6 p7 : Pos} {a b : Expr} {at_ at₂ : Int} {i : Nat} {Q : Value → Heap → Prop} (q : Qs prog w K G x c fst val o AR) (room : Room A 8) (S : St G B env.locals h lo sub) (ar : AR ps sub)
    (hs : look "self" lo = some (.ref x)) (ha : PE prog w A env h a (IntV (fst + at_))) (hb : PE prog w A env h b (IntV (fst + at₂))) (e₁ : rd at₂ ps = some (i, ps₁)) (e : wr at_ i ps₁ = some ps')
    (k : ∀ h' sub', AR ps' sub' → St G B env.locals h' lo sub' → Q .none h')
    (hk : env.scope.kind = .function := by rfl) (hl : env.kindOf "self" = some .local := by rfl) (he : starEach [a, .Call (.Attribute (.Name "self" p5) "get" p6) [b] [] p7] env = (false, eval a env) :: starEach [.Call (.Attribute (.Name "self" p5) "get" p6) [b] [] p7] env := by rfl)
    (he' : starEach [.Call (.Attribute (.Name "self" p5) "get" p6) [b] [] p7] env = (false, eval (.Call (.Attribute (.Name "self" p5) "get" p6) [b] [] p7) env) :: starEach [] env := by rfl)
    (he'' : starEach [b] env = (false, eval b env) :: starEach [] env := by rfl)
    (hm : eval (.Call (.Attribute (.Name "self" p1) "put" p2) [a, .Call (.Attribute (.Name "self" p5) "get" p6) [b] [] p7] [] p4) env = (do
      let ov ← eval (.Name "self" p1) env
      standAt p2.atName
      let (f, first) ← holding [ov] (getMethod ov "put" pl)
      callWith p4 f first (backTo p4 (starEach [a, .Call (.Attribute (.Name "self" p5) "get" p6) [b] [] p7] env)) []) := by rfl)
    (hm' : eval (.Call (.Attribute (.Name "self" p5) "get" p6) [b] [] p7) env = (do
      let ov ← eval (.Name "self" p5) env
      standAt p6.atName
      let (f, first) ← holding [ov] (getMethod ov "get" pl')
      callWith p7 f first (backTo p7 (starEach [b] env)) []) := by rfl) :
    Run prog w A (eval (.Call (.Attribute (.Name "self" p1) "put" p2) [a, .Call (.Attribute (.Name "self" p5) "get" p6) [b] [] p7] [] p4) env) h Q :=
  r_Method (r_local S hs (q_put q.gl q.kf S.gh q.iq (r_fn (r_args (ha.mono fun v h₁ ⟨e1, t, e2⟩ => by
    subst e1 e2
    exact r_args (x_get q room S ar hs hb e₁ (fun h sub ar S =>
      r_args0 ⟨q.cb.f_put.sub S.gh, (q.cb.put room S.gh (own_g S) ar e).mono fun v h' ⟨sub', ⟨hv, ar'⟩, P⟩ => hv ▸ k h' sub' ar' (S.callee P)⟩) hk hl he'' hm') he') he) he (by rw [he']; rfl))) hk hl) hm


section
variable {C : Expr → Prop}
theorem x_up {pl : Sem Bool} {p1 p2 p4 : Pos} {a b d : Expr} {pv : Nat} {at_ high r : Int} {f i : Nat} {Q : Value → Heap → Prop} (q : Qs prog w K G x c fst val o AR) (room : Room A 10) (S : St G B env.locals h lo sub) (ar : AR ps sub)
    (hs : look "self" lo = some (.ref x)) (ha : PE prog w A env h a (· = val pv)) (hb : PE prog w A env h b (IntV (fst + at_))) (hd : PE prog w A env h d (IntV (fst + high))) (e : goUp o pv at_ high f ps = some (r, i, ps'))
    (k : ∀ p u h' sub', IntV (fst + r) u → AR ps' sub' → St G B env.locals h' lo ((p, TupP [u, val i]) :: sub') → Q (.ref p) h')
    (hk : env.scope.kind = .function := by rfl) (hl : env.kindOf "self" = some .local := by rfl)
    (he : starEach [a, b, d] env = [(false, eval a env), (false, eval b env), (false, eval d env)] := by rfl) (he2 : starEach [b, d] env = [(false, eval b env), (false, eval d env)] := by rfl) (he3 : starEach [d] env = [(false, eval d env)] := by rfl) (he4 : starEach [] env = [] := by rfl)
    (hm : eval (.Call (.Attribute (.Name "self" p1) "go_up" p2) [a, b, d] [] p4) env = (do
      let ov ← eval (.Name "self" p1) env
      standAt p2.atName
      let (f, first) ← holding [ov] (getMethod ov "go_up" pl)
      callWith p4 f first (backTo p4 (starEach [a, b, d] env)) []) := by rfl) :
    Run prog w A (eval (.Call (.Attribute (.Name "self" p1) "go_up" p2) [a, b, d] [] p4) env) h Q :=
  r_Method (r_local S hs (q_up q.gl q.kf S.gh q.iq (r_fn (r_args (ha.mono fun v h₁ ⟨e1, e2⟩ => by
    subst e1 e2
    exact r_args (hb.mono fun v h₁ ⟨e3, t3, e4⟩ => by
      subst e3 e4
      exact r_args (hd.mono fun v h₁ ⟨e5, t5, e6⟩ => by
        subst e5 e6
        exact r_args0 ⟨(q.kf.f_up _ (q.gl.kin.keeps S.gh)).fun, (up_spec q room S.gh (own_g S) ar e).mono fun v h' ⟨sub', ⟨p, u, u', sub'', hv, hu, hu', hsub, ar'⟩, P⟩ => by
          subst hv hu' hsub
          exact k p u h' sub'' hu ar' (S.callee P)⟩) (by rw [he3, he4])) (by rw [he2, he3])) (by rw [he, he2])) (by rw [he, he2]) (by rw [he2]; rfl))) hk hl) hm
theorem x_down {pl : Sem Bool} {p1 p2 p4 : Pos} {a b d : Expr} {pv : Nat} {at_ low r : Int} {f i : Nat} {Q : Value → Heap → Prop} (q : Qs prog w K G x c fst val o AR) (room : Room A 10) (S : St G B env.locals h lo sub) (ar : AR ps sub)
    (hs : look "self" lo = some (.ref x)) (ha : PE prog w A env h a (· = val pv)) (hb : PE prog w A env h b (IntV (fst + at_))) (hd : PE prog w A env h d (IntV (fst + low))) (e : goDown o pv at_ low f ps = some (r, i, ps'))
    (k : ∀ p u h' sub', IntV (fst + r) u → AR ps' sub' → St G B env.locals h' lo ((p, TupP [u, val i]) :: sub') → Q (.ref p) h')
    (hk : env.scope.kind = .function := by rfl) (hl : env.kindOf "self" = some .local := by rfl)
    (he : starEach [a, b, d] env = [(false, eval a env), (false, eval b env), (false, eval d env)] := by rfl) (he2 : starEach [b, d] env = [(false, eval b env), (false, eval d env)] := by rfl) (he3 : starEach [d] env = [(false, eval d env)] := by rfl) (he4 : starEach [] env = [] := by rfl)
    (hm : eval (.Call (.Attribute (.Name "self" p1) "go_down" p2) [a, b, d] [] p4) env = (do
      let ov ← eval (.Name "self" p1) env
      standAt p2.atName
      let (f, first) ← holding [ov] (getMethod ov "go_down" pl)
      callWith p4 f first (backTo p4 (starEach [a, b, d] env)) []) := by rfl) :
    Run prog w A (eval (.Call (.Attribute (.Name "self" p1) "go_down" p2) [a, b, d] [] p4) env) h Q :=
  r_Method (r_local S hs (q_down q.gl q.kf S.gh q.iq (r_fn (r_args (ha.mono fun v h₁ ⟨e1, e2⟩ => by
    subst e1 e2
    exact r_args (hb.mono fun v h₁ ⟨e3, t3, e4⟩ => by
      subst e3 e4
      exact r_args (hd.mono fun v h₁ ⟨e5, t5, e6⟩ => by
        subst e5 e6
        exact r_args0 ⟨(q.kf.f_down _ (q.gl.kin.keeps S.gh)).fun, (down_spec q room S.gh (own_g S) ar e).mono fun v h' ⟨sub', ⟨p, u, u', sub'', hv, hu, hu', hsub, ar'⟩, P⟩ => by
          subst hv hu' hsub
          exact k p u h' sub'' hu ar' (S.callee P)⟩) (by rw [he3, he4])) (by rw [he2, he3])) (by rw [he, he2])) (by rw [he, he2]) (by rw [he2]; rfl))) hk hl) hm
end
end
end

/-! ### W2 -/
noncomputable section
open PySem PySem.W PyProof.Rows
set_option Elab.async false
set_option maxRecDepth 100000
section
variable {prog : Program} {w : World} {A : Around} {G h : Heap} {K : Frag} {c : QF} {fst : Int} {val : Nat → Value} {o : Ora} {AR : PS → List Ch → Prop} {x : Addr} {sub : List Ch} {ps ps' : PS}

set_option maxHeartbeats 4000000 in
theorem two_spec (q : Qs prog w K G x c fst val o AR) {low high : Int} {t1 t2 : Tok} (room : Room A 10) (gh : Sub G h) (O : Own G h sub) (ar : AR ps sub)
    (e : two o low high ps = some ps') :
    Run prog w A (call (.ref 55) [.ref x, .int (fst + low) t1, .int (fst + high) t2]) h fun v h' => ∃ sub', (v = .none ∧ AR ps' sub') ∧ Post G h sub sub' h' := by
  refine call_fn (binds := [("self", .ref x), ("low", .int (fst + low) t1), ("high", .int (fst + high) t2)]) room.lt q.gl gh O (q.kf.f_two h (q.gl.kin.keeps gh)) (by intros; rfl) (by decide) (locs rfl) rfl rfl rfl ?_
  intro B L h₁ cdv bo S
  have rm : Room (A.deeper (envX "Quicksort.order_two" A_two.scope L 55 cdv [])) 8 := (room.less (by lia : 9 ≤ 10)).deeper _
  refine Run.gen fun Q hQ => ?_
  unfold two at e
  split at e
  · cases e
  rename_i one ps₁ e₁
  split at e
  · cases e
  rename_i other ps₂ e₂
  refine r_cons (r_AssignTupS (names := ["one", "other"]) ?_ rfl rfl)
  refine r_Tuple ?_
  refine r_args ?_
  refine x_get q rm S ar rfl (pe_local S rfl ⟨_, rfl⟩) e₁ fun h sub ar S => ?_
  refine r_args ?_
  refine x_get q rm S ar rfl (pe_local S rfl ⟨_, rfl⟩) e₂ fun h sub ar S => ?_
  refine r_args0 ?_
  refine r_newTuple S fun p h S => ?_
  refine r_unpackItems rm.hd S S.own.has rfl fun h S _ => ?_
  have S := S.drop1
  refine r_ord (r_bindName (r_store S fun h S => ?_))
  refine r_ord (r_bindName (r_store S fun h S => ?_))
  refine r_ordNil ?_
  walk_at "nx"
  refine r_If (r_testVal ?_)
  refine x_less q rm S ar (rd_fit e₂).fit rfl (pe_local S rfl rfl) (pe_local S rfl rfl) fun h sub ar S => ?_
  refine r_truthB ?_
  generalize ask o other one ps₂ = a at e ar ⊢
  obtain ⟨b, ps₃⟩ := a
  cases b with
  | false =>
    cases e
    exact r_nil (onw (r_nil (hQ _ _ ⟨sub, _, ⟨rfl, ar⟩, S⟩)))
  | true =>
    dsimp only at e
    split at e
    · cases e
    rename_i ps₄ e₃
    rw [if_pos rfl]
    refine r_cons (r_Expr ?_)
    refine x_put q rm S ar rfl (pe_local S rfl ⟨_, rfl⟩) (pe_local S rfl rfl) e₃ fun h sub ar S => ⟨rfl, ?_⟩
    walk_at "nx"
    refine r_Expr ?_
    refine x_put q rm S ar rfl (pe_local S rfl ⟨_, rfl⟩) (pe_local S rfl rfl) e fun h sub ar S => ⟨rfl, ?_⟩
    exact onw (r_nil (onw (r_nil (hQ _ _ ⟨sub, _, ⟨rfl, ar⟩, S⟩))))

set_option maxHeartbeats 4000000 in
theorem mid_spec (q : Qs prog w K G x c fst val o AR) {low m high : Int} {t1 t2 t3 : Tok} (room : Room A 10) (gh : Sub G h) (O : Own G h sub) (ar : AR ps sub)
    (e : mid o low m high ps = some ps') :
    Run prog w A (call (.ref 62) [.ref x, .int (fst + low) t1, .int (fst + m) t2, .int (fst + high) t3]) h fun v h' => ∃ sub', (v = .none ∧ AR ps' sub') ∧ Post G h sub sub' h' := by
  refine call_fn (binds := [("self", .ref x), ("low", .int (fst + low) t1), ("middle", .int (fst + m) t2), ("high", .int (fst + high) t3)]) room.lt q.gl gh O (q.kf.f_mid h (q.gl.kin.keeps gh)) (by intros; rfl) (by decide) (locs rfl) rfl rfl rfl ?_
  intro B L h₁ cdv bo S
  have rm : Room (A.deeper (envX "Quicksort.order_middle" A_mid.scope L 62 cdv [])) 8 := (room.less (by lia : 9 ≤ 10)).deeper _
  refine Run.gen fun Q hQ => ?_
  unfold mid at e
  split at e
  · cases e
  rename_i one ps₁ e₁
  split at e
  · cases e
  rename_i first ps₂ e₂
  refine r_cons (r_AssignTupS (names := ["one", "first"]) ?_ rfl rfl)
  refine r_Tuple ?_
  refine r_args ?_
  refine x_get q rm S ar rfl (pe_local S rfl ⟨_, rfl⟩) e₁ fun h sub ar S => ?_
  refine r_args ?_
  refine x_get q rm S ar rfl (pe_local S rfl ⟨_, rfl⟩) e₂ fun h sub ar S => ?_
  refine r_args0 ?_
  refine r_newTuple S fun p h S => ?_
  refine r_unpackItems rm.hd S S.own.has rfl fun h S _ => ?_
  have S := S.drop1
  refine r_ord (r_bindName (r_store S fun h S => ?_))
  refine r_ord (r_bindName (r_store S fun h S => ?_))
  refine r_ordNil ?_
  walk_at "nx"
  refine r_If (r_testVal ?_)
  refine x_less q rm S ar (rd_fit e₂).fit rfl (pe_local S rfl rfl) (pe_local S rfl rfl) fun h sub ar S => ?_
  refine r_truthB ?_
  generalize ask o one first ps₂ = a at e ar ⊢
  obtain ⟨b, ps₃⟩ := a
  cases b with
  | true =>
    dsimp only at e
    split at e
    · cases e
    rename_i ps₄ e₃
    rw [if_pos rfl]
    refine r_cons (r_Expr ?_)
    refine x_put q rm S ar rfl (pe_local S rfl ⟨_, rfl⟩) (pe_local S rfl rfl) e₃ fun h sub ar S => ⟨rfl, ?_⟩
    walk_at "nx"
    refine r_Expr ?_
    refine x_put q rm S ar rfl (pe_local S rfl ⟨_, rfl⟩) (pe_local S rfl rfl) e fun h sub ar S => ⟨rfl, ?_⟩
    walk_at "nx"
    exact r_ReturnN (hQ _ _ ⟨sub, _, ⟨rfl, ar⟩, S⟩)
  | false =>
    dsimp only at e
    split at e
    · cases e
    rename_i last ps₄ e₃
    rw [if_neg Bool.false_ne_true]
    refine r_nil ?_
    walk_at "nx"
    refine r_AssignName ?_
    refine x_get q rm S ar rfl (pe_local S rfl ⟨_, rfl⟩) e₃ fun h sub ar S => ?_
    refine r_store S fun h S => ?_
    walk_at "nx"
    refine r_If (r_testVal ?_)
    refine x_less q rm S ar (rd_fit e₃).fit rfl (pe_local S rfl rfl) (pe_local S rfl rfl) fun h sub ar S => ?_
    refine r_truthB ?_
    generalize ask o last one ps₄ = a at e ar ⊢
    obtain ⟨b, ps₅⟩ := a
    cases b with
    | false =>
      cases e
      exact r_nil (onw (r_nil (hQ _ _ ⟨sub, _, ⟨rfl, ar⟩, S⟩)))
    | true =>
      dsimp only at e
      split at e
      · cases e
      rename_i ps₆ e₄
      rw [if_pos rfl]
      refine r_cons (r_Expr ?_)
      refine x_put q rm S ar rfl (pe_local S rfl ⟨_, rfl⟩) (pe_local S rfl rfl) e₄ fun h sub ar S => ⟨rfl, ?_⟩
      walk_at "nx"
      refine r_Expr ?_
      refine x_put q rm S ar rfl (pe_local S rfl ⟨_, rfl⟩) (pe_local S rfl rfl) e fun h sub ar S => ⟨rfl, ?_⟩
      exact onw (r_nil (onw (r_nil (hQ _ _ ⟨sub, _, ⟨rfl, ar⟩, S⟩))))
end
end

/-! ### Q6 -/
noncomputable section
open PySem PySem.W PyProof.Rows
set_option Elab.async false
set_option maxRecDepth 100000

section
variable {prog : Program} {w : World} {A : Around} {G B h : Heap} {K : Frag} {env : Env} {lo : List (Str × Value)} {nw rest : List Ch} {L : Addr}

theorem brk1 {rest : List Stmt} {Q : Flow → Heap → Prop} (q : Q .brk h) : Onward prog w A env rest Q .brk h := q
theorem brk2 {I : Nat → Heap → Prop} {n : Nat} {Q : Flow → Heap → Prop} (q : Q .next h) : Turned I Q n .brk h := q
theorem ret1 {rest : List Stmt} {v : Value} {Q : Flow → Heap → Prop} (q : Q (.ret v) h) : Onward prog w A env rest Q (.ret v) h := q
theorem ret2 {I : Nat → Heap → Prop} {n : Nat} {v : Value} {Q : Flow → Heap → Prop} (q : Q (.ret v) h) : Turned I Q n (.ret v) h := q
/-! ## lists -/
theorem LstP.at {p : Addr} {items : List Value} (x : Has h (p, LstP items)) : ∃ n, IsL h p items.toArray n := let ⟨_, e, n, q⟩ := x; ⟨n, by rw [q] at e; exact e⟩
theorem LstP.isList {p : Addr} {items : List Value} (x : Has h (p, LstP items)) : h.IsList p items.toArray := let ⟨_, e⟩ := LstP.at x; e.isList
theorem lst_update {h : Heap} {p : Addr} {items items' : List Value} {n : Nat} (x : IsL h p items.toArray n) (f : Array Value → Array Value) (e : f items.toArray = items'.toArray) : Has (h.update p (Obj.mapSeq f)) (p, LstP items') :=
  ⟨_, x.update f, _, by rw [e]⟩
theorem St.lst {p : Addr} {items items' : List Value} {n : Nat} (S : St G B L h lo nw) (k : Pick (p, LstP items) nw rest) (x : IsL h p items.toArray n) (f : Array Value → Array Value) (e : f items.toArray = items'.toArray) :
    St G B L (h.update p (Obj.mapSeq f)) lo ((p, LstP items') :: rest) := S.change k (Heap.SameBut.update ..) (lst_update x f e)

theorem l_method {p : Addr} {items : List Value} {name : Str} {id : String} {pl : Sem Bool} {Q : Value × List Value → Heap → Prop} (x : Has h (p, LstP items)) (slot : Slot "list" name id) (hty : typeOf (.builtin id) = pure (.type "method_descriptor"))
    (q : Q (.builtin id, [.ref p]) h) : Run prog w A (getMethod (.ref p) name pl) h Q := by
  obtain ⟨n, x⟩ := LstP.at x
  intro s E Q' es k
  subst es
  exact getMethod_builtin ⟨_, x, rfl⟩ PySem.F.plainAttrs_list slot hty (fun a e => by cases e; exact ⟨_, x, rfl⟩) (k _ _ (Rest.refl _) q)
theorem l_append {p : Addr} {items : List Value} {v : Value} {Q : Value → Heap → Prop} (S : St G B L h lo nw) (k : Pick (p, LstP items) nw rest) (hz : items.length ≤ 100000)
    (q : ∀ h', St G B L h' lo ((p, LstP (items ++ [v])) :: rest) → Q .none h') : Run prog w A (call (.builtin "list.append") [.ref p, v]) h Q := by
  obtain ⟨n, x⟩ := LstP.at (S.has k)
  intro s E Q' es kk
  subst es
  exact call_meets PySem.F.slot_list_append ⟨_, x, rfl⟩ PySem.F.entry_list_append (PySem.F.args_list_append_2 _ _) (PySem.list_append p _ n v (by rw [List.size_toArray, PySem.sizeLine_eq]; lia))
    ⟨x, kk _ _ ⟨rfl, rfl, rfl⟩ (q _ (S.lst k x (·.push v) (by simp)))⟩
theorem l_pop {p : Addr} {items : List Value} {v : Value} {Q : Value → Heap → Prop} (S : St G B L h lo nw) (k : Pick (p, LstP (items ++ [v])) nw rest) (hz : items.length ≤ 100000)
    (q : ∀ h', St G B L h' lo ((p, LstP items) :: rest) → Q v h') : Run prog w A (call (.builtin "list.pop") [.ref p]) h Q := by
  obtain ⟨n, x⟩ := LstP.at (S.has k)
  intro s E Q' es kk
  subst es
  have hk : (items ++ [v]).toArray.size - 1 = items.length := by rw [List.size_toArray, List.length_append]; rfl
  refine call_meets PySem.F.slot_list_pop ⟨_, x, rfl⟩ PySem.F.entry_list_pop (PySem.F.args_list_pop_1 _) (PySem.MeetsSeq.list_pop_last p _ n v (by rw [hk]; simp) (by rw [List.size_toArray, List.length_append, PySem.sizeLine_eq, List.length_singleton]; lia))
    ⟨x, kk _ _ ⟨rfl, rfl, rfl⟩ (q _ (S.lst k x _ ?_))⟩
  show (items ++ [v]).toArray.eraseIdxIfInBounds ((items ++ [v]).toArray.size - 1) = items.toArray
  rw [hk, kl_erase, List.append_nil]
theorem l_pop0 {p : Addr} {items : List Value} {v : Value} {u : Tok} {Q : Value → Heap → Prop} (S : St G B L h lo nw) (k : Pick (p, LstP (v :: items)) nw rest) (hz : items.length ≤ 100000)
    (q : ∀ h', St G B L h' lo ((p, LstP items) :: rest) → Q v h') : Run prog w A (call (.builtin "list.pop") [.ref p, .int 0 u]) h Q := by
  obtain ⟨n, x⟩ := LstP.at (S.has k)
  intro s E Q' es kk
  subst es
  refine call_meets PySem.F.slot_list_pop ⟨_, x, rfl⟩ PySem.F.entry_list_pop (PySem.F.args_list_pop_2 _ _) (PySem.MeetsSeq.list_pop_at p _ n 0 u 0 v rfl (by simp [seqIndex?]) (by simp) (by rw [List.size_toArray, List.length_cons, PySem.sizeLine_eq]; lia))
    ⟨x, kk _ _ ⟨rfl, rfl, rfl⟩ (q _ (S.lst k x _ ?_))⟩
  exact kl_erase [] items v
theorem l_reverse {p : Addr} {items : List Value} {Q : Value → Heap → Prop} (S : St G B L h lo nw) (k : Pick (p, LstP items) nw rest) (hz : items.length ≤ 100000)
    (q : ∀ h', St G B L h' lo ((p, LstP items.reverse) :: rest) → Q .none h') : Run prog w A (call (.builtin "list.reverse") [.ref p]) h Q := by
  obtain ⟨n, x⟩ := LstP.at (S.has k)
  intro s E Q' es kk
  subst es
  exact call_meets PySem.F.slot_list_reverse ⟨_, x, rfl⟩ PySem.F.entry_list_reverse (PySem.F.args_list_reverse_1 _) (PySem.AutoSeq1.list_reverse_list_0 p _ n (by rw [List.size_toArray, PySem.sizeLine_eq]; lia))
    ⟨x, kk _ _ ⟨rfl, rfl, rfl⟩ (q _ (S.lst k x (·.reverse) (by simp)))⟩
theorem l_extend {p p' : Addr} {items items' : List Value} {Q : Value → Heap → Prop} (S : St G B L h lo nw) (k : Pick (p, LstP items) nw rest) (hp : Has h (p', LstP items')) (hz : items.length ≤ 100000) (hz' : items'.length ≤ 100000)
    (q : ∀ h', St G B L h' lo ((p, LstP (items ++ items')) :: rest) → Q .none h') : Run prog w A (call (.builtin "list.extend") [.ref p, .ref p']) h Q := by
  obtain ⟨n, x⟩ := LstP.at (S.has k)
  obtain ⟨n', x'⟩ := LstP.at hp
  intro s E Q' es kk
  subst es
  have e : items.toArray.size + items'.toArray.size ≤ sizeLine := by rw [List.size_toArray, List.size_toArray, PySem.sizeLine_eq]; lia
  exact call_meets PySem.F.slot_list_extend ⟨_, x, rfl⟩ PySem.F.entry_list_extend (PySem.F.args_list_extend_2 _ _) (PySem.AutoSeq1.list_extend_list_list_0 p _ n p' _ n' (extend_door e) (by lia) (by lia))
    ⟨x, x', kk _ _ ⟨rfl, rfl, rfl⟩ (q _ (S.lst k x (· ++ items'.toArray) (by simp)))⟩
theorem l_add {p p' : Addr} {items items' : List Value} {Q : Value → Heap → Prop} (S : St G B L h lo nw) (hp : Has h (p, LstP items)) (hp' : Has h (p', LstP items')) (hz : items.length ≤ 100000) (hz' : items'.length ≤ 100000)
    (q : ∀ a h', St G B L h' lo ((a, LstP (items ++ items')) :: nw) → Q (.ref a) h') : Run prog w A (binaryOp .Add (.ref p) (.ref p')) h Q := by
  obtain ⟨n, x⟩ := LstP.at hp
  obtain ⟨n', x'⟩ := LstP.at hp'
  intro s E Q' es kk
  subst es
  have e : items.toArray.size + items'.toArray.size ≤ sizeLine := by rw [List.size_toArray, List.size_toArray, PySem.sizeLine_eq]; lia
  refine PySem.P.add_list x x' (kk _ _ ⟨rfl, rfl, rfl⟩ (q _ _ (S.push _ rfl ⟨0, ?_⟩))) e
  simp
theorem l_len {p : Addr} {items : List Value} {Q : Value → Heap → Prop} (hp : Has h (p, LstP items)) (hz : items.length ≤ 100000) (q : ∀ t, Q (.int items.length t) h) : Run prog w A (call (.builtin "len") [.ref p]) h Q := by
  intro s E Q' es kk
  subst es
  refine PySem.Calls.call_len_list (LstP.isList hp) (by rw [List.size_toArray]; lia) (kk _ _ ⟨rfl, rfl, rfl⟩ ?_)
  rw [List.size_toArray]; exact q _
theorem l_item {p : Addr} {items : List Value} {i : Int} {t : Tok} {v : Value} {Q : Value → Heap → Prop} (hp : Has h (p, LstP items)) (h0 : 0 ≤ i) (hz : i ≤ 100000) (e : items[i.toNat]? = some v) (q : Q v h) :
    Run prog w A (getItem (.ref p) (.int i t)) h Q := by
  intro s E Q' es kk
  subst es
  exact wpAny_getItem_list (LstP.isList hp) h0 (by lia) (by simpa using e) (kk _ _ (Rest.refl _) q)

/-! ## the subscript -/
theorem r_Subscript {value slice : Expr} {pos : Pos} {Q : Value → Heap → Prop} (q : Run prog w A (eval value env) h fun o h₁ => Run prog w A (eval slice env) h₁ fun i h₂ => Run prog w A (subscriptTail value slice o i) h₂ Q) :
    Run prog w A (eval (.Subscript value slice pos) env) h Q :=
  fun _ _ _ es k => PyProof.Rows.Subscript_ (q.wp es fun _ _ r1 q1 => q1.wp rfl fun _ _ r2 q2 => q2.wp rfl fun _ _ r3 q3 => k _ _ ((r1.trans r2).trans r3) q3)
theorem t_list {value slice : Expr} {p : Addr} {items : List Value} {i : Int} {t : Tok} {v : Value} {Q : Value → Heap → Prop} (hp : Has h (p, LstP items)) (h0 : 0 ≤ i) (hz : i ≤ 100000) (e : items[i.toNat]? = some v) (q : Q v h)
    (hs : subscripted slice false (.ref p) (.int i t) = operate [.ref p, .int i t] (getItem (.ref p) (.int i t)) := by with_unfolding_all rfl) : Run prog w A (subscriptTail value slice (.ref p) (.int i t)) h Q := by
  intro s E Q' es kk
  subst es
  have hL := LstP.isList hp
  exact tail_any hL.typeIs slot_list_getitem.lookup (wpAny_getItem_list hL h0 (by lia) (by simpa using e) (kk _ _ (Rest.refl _) q)) hs
theorem t_listNeg {value slice : Expr} {p : Addr} {items : List Value} {i : Int} {t : Tok} {v : Value} {Q : Value → Heap → Prop} (hp : Has h (p, LstP items)) (h0 : i < 0) (h1 : -(items.length : Int) ≤ i) (hz : -100000 ≤ i) (e : items[(i + items.length).toNat]? = some v) (q : Q v h)
    (hs : subscripted slice false (.ref p) (.int i t) = operate [.ref p, .int i t] (getItem (.ref p) (.int i t)) := by with_unfolding_all rfl) : Run prog w A (subscriptTail value slice (.ref p) (.int i t)) h Q := by
  intro s E Q' es kk
  subst es
  have hL := LstP.isList hp
  exact tail_any hL.typeIs slot_list_getitem.lookup (wpAny_getItem_list_neg hL h0 (by simpa using h1) (by lia) (by simpa using e) (kk _ _ (Rest.refl _) q)) hs
theorem t_tuple {value slice : Expr} {p : Addr} {items : List Value} {i : Nat} {t : Tok} {v : Value} {Q : Value → Heap → Prop} (hp : Has h (p, TupP items)) (hz : i ≤ 1000) (e : items[i]? = some v) (q : Q v h)
    (hs : subscripted slice false (.ref p) (.int i t) = operate [.ref p, .int i t] (getItem (.ref p) (.int i t)) := by with_unfolding_all rfl) : Run prog w A (subscriptTail value slice (.ref p) (.int i t)) h Q := by
  intro s E Q' es kk
  subst es
  have hi : i < items.length := (List.getElem?_eq_some_iff.mp e).1
  exact item_tupleT (TupP.is hp) (by lia) (by lia) (by simp [seqIndex?]; lia) e (kk _ _ (Rest.refl _) q) hs

/-! ## more of ints -/
theorem r_fdiv {a b : Int} {t u : Tok} {Q : Value → Heap → Prop} (hb : 0 < b) (hb' : b < 9000) (q : ∀ t, Q (.int (a / b) t) h) : Run prog w A (binaryOp .FloorDiv (.int a t) (.int b u)) h Q :=
  fun _ _ _ e c => PyProof.Rows.floordiv_int (by lia) (c _ _ (Rest.refl _) (e ▸ (by rw [Int.fdiv_eq_ediv_of_nonneg a (by lia)]; exact q _)))
    (.inl (PyProof.noPylong_of_log2 (Nat.lt_of_le_of_lt (Nat.log2_le_self _) (by lia))))
theorem pe_fdiv {l r : Expr} {pos : Pos} {a b c : Int} (hl : PE prog w A env h l (IntV a)) (hr : PE prog w A env h r (IntV b)) (hb : 0 < b) (hb' : b < 9000) (e : a / b = c) : PE prog w A env h (.BinOp l .FloorDiv r pos) (IntV c) :=
  r_BinOp (hl.mono fun _ _ ⟨e1, t, e2⟩ => by subst e1 e2; exact hr.mono fun _ _ ⟨e3, u, e4⟩ => by subst e3 e4; exact r_fdiv hb hb' fun t => ⟨rfl, t, by rw [e]⟩)
theorem c_ge {a b : Int} (t u : Tok) : Run prog w A (compareOp .GtE (.int a t) (.int b u)) h fun v h' => h' = h ∧ v = .bool (decide (b ≤ a)) :=
  fun _ _ _ e c => PyProof.Rows.ge_int (c _ _ (Rest.refl _) ⟨e, rfl⟩)
theorem c_le {a b : Int} (t u : Tok) : Run prog w A (compareOp .LtE (.int a t) (.int b u)) h fun v h' => h' = h ∧ v = .bool (decide (a ≤ b)) :=
  fun _ _ _ e c => PyProof.Rows.le_int (c _ _ (Rest.refl _) ⟨e, rfl⟩)
end
end

/-! ### W3 -/
noncomputable section
open PySem PySem.W PyProof.Rows
set_option Elab.async false
set_option maxRecDepth 100000
section
variable {prog : Program} {w : World} {A : Around} {G h : Heap} {K : Frag} {c : QF} {fst : Int} {val : Nat → Value} {o : Ora} {AR : PS → List Ch → Prop} {x : Addr} {sub : List Ch} {ps ps' : PS}

set_option maxHeartbeats 8000000 in
theorem part_spec (q : Qs prog w K G x c fst val o AR) {low high : Int} {t1 t2 : Tok} {F : Nat} {r : Int} (room : Room A 12) (gh : Sub G h) (O : Own G h sub) (ar : AR ps sub)
    (e : part o F low high ps = some (r, ps')) :
    Run prog w A (call (.ref 83) [.ref x, .int (fst + low) t1, .int (fst + high) t2]) h fun v h' => ∃ sub', (IntV (fst + r) v ∧ AR ps' sub') ∧ Post G h sub sub' h' := by
  refine call_fn (binds := [("self", .ref x), ("low", .int (fst + low) t1), ("high", .int (fst + high) t2)]) room.lt q.gl gh O (q.kf.f_part h (q.gl.kin.keeps gh)) (by intros; rfl) (by decide) (locs rfl) rfl rfl rfl ?_
  intro B L h₁ cdv bo S
  refine Run.gen fun Q hQ => ?_
  have rm' : Room (A.deeper (envX "Quicksort.part" A_part.scope L 83 cdv [])) 10 := (room.less (by lia : 11 ≤ 12)).deeper _
  have rm := rm'.less (by lia : 8 ≤ 10)
  unfold part at e
  split at e
  · cases e
  rename_i pv ps₁ e₁
  split at e
  · cases e
  rename_i y ps₂ e₂
  split at e
  · cases e
  rename_i ps₃ e₃
  split at e
  · cases e
  rename_i ps₄ e₄
  -- middle = (low + high) // 2
  refine r_cons (r_AssignName ?_)
  refine (pe_fdiv (pe_add (pe_local S rfl ⟨_, rfl⟩) (pe_local S rfl ⟨_, rfl⟩) rfl) pe_int (by decide) (by decide) (c := fst + (low + high) / 2) (by lia)).mono ?_
  rintro _ _ ⟨rfl, tm, rfl⟩
  refine r_store S fun h S => ?_
  walk_at "nx"
  refine r_AssignName ?_
  refine x_get q rm S ar rfl (pe_local S rfl ⟨_, rfl⟩) e₁ fun h sub ar S => ?_
  refine r_store S fun h S => ?_
  walk_at "nx"
  refine r_Expr ?_
  refine x_put_get q rm S ar rfl (pe_local S rfl ⟨_, rfl⟩) (pe_sub (pe_local S rfl ⟨_, rfl⟩) pe_int (by lia)) e₂ e₃ fun h sub ar S => ⟨rfl, ?_⟩
  walk_at "nx"
  refine r_Expr ?_
  refine x_put q rm S ar rfl (pe_sub (pe_local S rfl ⟨_, rfl⟩) pe_int (by lia)) (pe_local S rfl rfl) e₄ fun h sub ar S => ⟨rfl, ?_⟩
  walk_at "nx"
  -- up, down = (low, high - 1)
  refine r_AssignTupS (names := ["up", "down"]) ?_ rfl rfl
  refine r_Tuple ?_
  refine r_args (r_local S rfl ?_)
  refine r_args ?_
  refine (pe_sub (pe_local S rfl ⟨_, rfl⟩) pe_int (c := fst + (high - 1)) (by lia)).mono ?_
  rintro _ _ ⟨rfl, td, rfl⟩
  refine r_args0 ?_
  refine r_newTuple S fun p h S => ?_
  refine r_unpackItems rm.hd S S.own.has rfl fun h S _ => ?_
  have S := S.drop1
  refine r_ord (r_bindName (r_store S fun h S => ?_))
  refine r_ord (r_bindName (r_store S fun h S => ?_))
  refine r_ordNil ?_
  walk_at "nx"
  refine r_While' (fun n h => ∀ C : Prop, (∀ up down ps sub t t', AR ps sub → St G B L h [("self", .ref x), ("low", .int (fst + low) t1), ("high", .int (fst + high) t2), ("pivot", val pv), ("up", .int (fst + up) t), ("down", .int (fst + down) t')] sub → partLoop o F pv low high n up down ps = some (r, ps') → C) → C) F
    (fun _ k => k low (high - 1) ps₄ sub _ _ ar (S.to ⟨rfl, rfl, rfl, rfl, rfl, rfl, trivial⟩) e) fun T nx bk n h hI => hI _ fun up down ps sub t t' ar S e => ?_
  clear hI
  cases n with
  | zero => cases e
  | succ n =>
    unfold partLoop at e
    split at e
    · cases e
    rename_i up₁ one ps₅ e₅
    split at e
    · cases e
    rename_i down₁ other ps₆ e₆
    refine r_testVal (r_bool (r_truthB ?_))
    rw [if_pos rfl]
    refine r_cons (r_AssignTup ?_)
    refine x_up q rm' S ar rfl (pe_local S rfl rfl) (pe_local S rfl ⟨_, rfl⟩) (pe_local S rfl ⟨_, rfl⟩) e₅ ?_
    rintro p _ h sub ⟨tu, rfl⟩ ar S
    refine r_assignTuple rm.hd S S.own.has fun h S _ => ?_
    have S := S.drop1
    refine r_ord (r_toName (r_store S fun h S => ?_))
    refine r_ord (r_toName (r_store S fun h S => ?_))
    refine r_ordNil ?_
    walk_at "nx"
    refine r_Expr ?_
    refine x_hold q rm S ar (goUp_fit e₅).fit rfl (pe_local S rfl rfl) fun h sub ar S => ⟨rfl, ?_⟩
    walk_at "nx"
    refine r_AssignTup ?_
    refine x_down q rm' S ar rfl (pe_local S rfl rfl) (pe_local S rfl ⟨_, rfl⟩) (pe_local S rfl ⟨_, rfl⟩) e₆ ?_
    rintro p _ h sub ⟨td', rfl⟩ ar S
    refine r_assignTuple rm.hd S S.own.has fun h S _ => ?_
    have S := S.drop1
    refine r_ord (r_toName (r_store S fun h S => ?_))
    refine r_ord (r_toName (r_store S fun h S => ?_))
    refine r_ordNil ?_
    walk_at "nx"
    refine r_Expr ?_
    refine x_drop q rm S ar (goDown_fit e₆).fit rfl fun h sub ar S => ⟨rfl, ?_⟩
    walk_at "nx"
    refine r_If ?_
    refine pe_test (pe_local S rfl ⟨_, rfl⟩) (pe_local S rfl ⟨_, rfl⟩) c_lt ?_
    split at e
    · rename_i hlt
      rw [decide_eq_true (by lia), if_pos rfl]
      refine r_cons (r_Break ?_)
      refine brk1 (brk1 (bk _ _ ?_))
      obtain ⟨ps₇, e₇, ez⟩ := Option.map_eq_some_iff.mp e
      cases ez
      unfold finish at e₇
      split at e₇
      · cases e₇
      rename_i last ps₈ e₈
      split at e₇
      · cases e₇
      rename_i here ps₉ e₉
      split at e₇
      · cases e₇
      rename_i ps₁₀ e₁₀
      walk_at "nx"
      refine r_AssignTupS (names := ["last", "here"]) ?_ rfl rfl
      refine r_Tuple ?_
      refine r_args ?_
      refine x_get q rm S ar rfl (pe_sub (pe_local S rfl ⟨_, rfl⟩) pe_int (by lia)) e₈ fun h sub ar S => ?_
      refine r_args ?_
      refine x_get q rm S ar rfl (pe_local S rfl ⟨_, rfl⟩) e₉ fun h sub ar S => ?_
      refine r_args0 ?_
      refine r_newTuple S fun p h S => ?_
      refine r_unpackItems rm.hd S S.own.has rfl fun h S _ => ?_
      have S := S.drop1
      refine r_ord (r_bindName (r_store S fun h S => ?_))
      refine r_ord (r_bindName (r_store S fun h S => ?_))
      refine r_ordNil ?_
      walk_at "nx"
      refine r_Expr ?_
      refine x_put q rm S ar rfl (pe_sub (pe_local S rfl ⟨_, rfl⟩) pe_int (by lia)) (pe_local S rfl rfl) e₁₀ fun h sub ar S => ⟨rfl, ?_⟩
      walk_at "nx"
      refine r_Expr ?_
      refine x_put q rm S ar rfl (pe_local S rfl ⟨_, rfl⟩) (pe_local S rfl rfl) e₇ fun h sub ar S => ⟨rfl, ?_⟩
      walk_at "nx"
      refine r_Return (r_local S rfl ?_)
      exact hQ _ _ ⟨sub, _, ⟨⟨_, rfl⟩, ar⟩, S⟩
    · rename_i hlt
      split at e
      · cases e
      rename_i ps₇ e₇
      split at e
      · cases e
      rename_i ps₈ e₈
      rw [decide_eq_false (by lia), if_neg (by decide)]
      refine r_nil ?_
      walk_at "nx"
      refine r_Expr ?_
      refine x_put q rm S ar rfl (pe_local S rfl ⟨_, rfl⟩) (pe_local S rfl rfl) e₇ fun h sub ar S => ⟨rfl, ?_⟩
      walk_at "nx"
      refine r_Expr ?_
      refine x_put q rm S ar rfl (pe_local S rfl ⟨_, rfl⟩) (pe_local S rfl rfl) e₈ fun h sub ar S => ⟨rfl, ?_⟩
      refine onw (r_nil ?_)
      exact nx _ n _ (Nat.lt_succ_self n) fun _ k => k up₁ down₁ ps₈ sub _ _ ar (S.to ⟨rfl, rfl, rfl, rfl, rfl, rfl, trivial⟩) e
end
end

/-! ### W4 -/
noncomputable section
open PySem PySem.W PyProof.Rows
set_option Elab.async false
set_option maxRecDepth 100000
theorem boot_len : bootBuiltins "len" = some (.builtin "len") := by boot_fast
theorem boot_list : bootBuiltins "list" = some (.type "list") := by boot_fast
theorem boot_range : bootBuiltins "range" = some (.type "range") := by boot_fast
theorem boot_dict : bootBuiltins "dict" = some (.type "dict") := by boot_fast
theorem boot_enumerate : bootBuiltins "enumerate" = some (.type "enumerate") := by boot_fast
theorem boot_sorted : bootBuiltins "sorted" = some (.builtin "sorted") := by boot_fast
section
variable {prog : Program} {w : World} {A : Around} {G B h : Heap} {K : Frag} {env : Env} {lo : List (Str × Value)} {c : QF} {fst : Int} {val : Nat → Value} {o : Ora} {AR : PS → List Ch → Prop} {x : Addr} {sub rest : List Ch} {ps ps' ps₁ : PS}

theorem own_gl {L : Addr} (S : St G B L h lo (sub ++ rest)) : Own G h sub := own_g (S.drop)
theorem St.callee2 {L : Addr} {h' : Heap} {sub'} (S : St G B L h lo (sub ++ rest)) (P : Post G h sub sub' h') : St G B L h' lo (sub' ++ rest) := S.call (List.Perm.refl _) P

theorem x_two {pl : Sem Bool} {p1 p2 p4 : Pos} {a b : Expr} {low high : Int} {Q : Value → Heap → Prop} (q : Qs prog w K G x c fst val o AR) (room : Room A 10) (S : St G B env.locals h lo (sub ++ rest)) (ar : AR ps sub)
    (hs : look "self" lo = some (.ref x)) (ha : PE prog w A env h a (IntV (fst + low))) (hb : PE prog w A env h b (IntV (fst + high))) (e : two o low high ps = some ps')
    (k : ∀ h' sub', AR ps' sub' → St G B env.locals h' lo (sub' ++ rest) → Q .none h')
    (hk : env.scope.kind = .function := by rfl) (hl : env.kindOf "self" = some .local := by rfl)
    (he : starEach [a, b] env = [(false, eval a env), (false, eval b env)] := by rfl) (he2 : starEach [b] env = [(false, eval b env)] := by rfl) (he4 : starEach [] env = [] := by rfl)
    (hm : eval (.Call (.Attribute (.Name "self" p1) "order_two" p2) [a, b] [] p4) env = (do
      let ov ← eval (.Name "self" p1) env
      standAt p2.atName
      let (f, first) ← holding [ov] (getMethod ov "order_two" pl)
      callWith p4 f first (backTo p4 (starEach [a, b] env)) []) := by rfl) :
    Run prog w A (eval (.Call (.Attribute (.Name "self" p1) "order_two" p2) [a, b] [] p4) env) h Q :=
  r_Method (r_local S hs (q_two q.gl q.kf S.gh q.iq (r_fn (r_args (ha.mono fun v h₁ ⟨e1, t1, e2⟩ => by
    subst e1 e2
    exact r_args (hb.mono fun v h₁ ⟨e3, t3, e4⟩ => by
      subst e3 e4
      exact r_args0 ⟨(q.kf.f_two _ (q.gl.kin.keeps S.gh)).fun, (two_spec q room S.gh (own_gl S) ar e).mono fun v h' ⟨sub', ⟨hv, ar'⟩, P⟩ => by
          subst hv
          exact k h' sub' ar' (S.callee2 P)⟩) (by rw [he2, he4])) (by rw [he, he2])) (by rw [he, he2]) (by rw [he2]; rfl))) hk hl) hm
theorem x_mid {pl : Sem Bool} {p1 p2 p4 : Pos} {a b d : Expr} {low m high : Int} {Q : Value → Heap → Prop} (q : Qs prog w K G x c fst val o AR) (room : Room A 10) (S : St G B env.locals h lo (sub ++ rest)) (ar : AR ps sub)
    (hs : look "self" lo = some (.ref x)) (ha : PE prog w A env h a (IntV (fst + low))) (hb : PE prog w A env h b (IntV (fst + m))) (hd : PE prog w A env h d (IntV (fst + high))) (e : mid o low m high ps = some ps')
    (k : ∀ h' sub', AR ps' sub' → St G B env.locals h' lo (sub' ++ rest) → Q .none h')
    (hk : env.scope.kind = .function := by rfl) (hl : env.kindOf "self" = some .local := by rfl)
    (he : starEach [a, b, d] env = [(false, eval a env), (false, eval b env), (false, eval d env)] := by rfl) (he2 : starEach [b, d] env = [(false, eval b env), (false, eval d env)] := by rfl) (he3 : starEach [d] env = [(false, eval d env)] := by rfl) (he4 : starEach [] env = [] := by rfl)
    (hm : eval (.Call (.Attribute (.Name "self" p1) "order_middle" p2) [a, b, d] [] p4) env = (do
      let ov ← eval (.Name "self" p1) env
      standAt p2.atName
      let (f, first) ← holding [ov] (getMethod ov "order_middle" pl)
      callWith p4 f first (backTo p4 (starEach [a, b, d] env)) []) := by rfl) :
    Run prog w A (eval (.Call (.Attribute (.Name "self" p1) "order_middle" p2) [a, b, d] [] p4) env) h Q :=
  r_Method (r_local S hs (q_mid q.gl q.kf S.gh q.iq (r_fn (r_args (ha.mono fun v h₁ ⟨e1, t1, e2⟩ => by
    subst e1 e2
    exact r_args (hb.mono fun v h₁ ⟨e3, t3, e4⟩ => by
      subst e3 e4
      exact r_args (hd.mono fun v h₁ ⟨e5, t5, e6⟩ => by
        subst e5 e6
        exact r_args0 ⟨(q.kf.f_mid _ (q.gl.kin.keeps S.gh)).fun, (mid_spec q room S.gh (own_gl S) ar e).mono fun v h' ⟨sub', ⟨hv, ar'⟩, P⟩ => by
          subst hv
          exact k h' sub' ar' (S.callee2 P)⟩) (by rw [he3, he4])) (by rw [he2, he3])) (by rw [he, he2])) (by rw [he, he2]) (by rw [he2]; rfl))) hk hl) hm
theorem x_part {pl : Sem Bool} {p1 p2 p4 : Pos} {a b : Expr} {low high r : Int} {F : Nat} {Q : Value → Heap → Prop} (q : Qs prog w K G x c fst val o AR) (room : Room A 12) (S : St G B env.locals h lo (sub ++ rest)) (ar : AR ps sub)
    (hs : look "self" lo = some (.ref x)) (ha : PE prog w A env h a (IntV (fst + low))) (hb : PE prog w A env h b (IntV (fst + high))) (e : part o F low high ps = some (r, ps'))
    (k : ∀ v h' sub', IntV (fst + r) v → AR ps' sub' → St G B env.locals h' lo (sub' ++ rest) → Q v h')
    (hk : env.scope.kind = .function := by rfl) (hl : env.kindOf "self" = some .local := by rfl)
    (he : starEach [a, b] env = [(false, eval a env), (false, eval b env)] := by rfl) (he2 : starEach [b] env = [(false, eval b env)] := by rfl) (he4 : starEach [] env = [] := by rfl)
    (hm : eval (.Call (.Attribute (.Name "self" p1) "part" p2) [a, b] [] p4) env = (do
      let ov ← eval (.Name "self" p1) env
      standAt p2.atName
      let (f, first) ← holding [ov] (getMethod ov "part" pl)
      callWith p4 f first (backTo p4 (starEach [a, b] env)) []) := by rfl) :
    Run prog w A (eval (.Call (.Attribute (.Name "self" p1) "part" p2) [a, b] [] p4) env) h Q :=
  r_Method (r_local S hs (q_part q.gl q.kf S.gh q.iq (r_fn (r_args (ha.mono fun v h₁ ⟨e1, t1, e2⟩ => by
    subst e1 e2
    exact r_args (hb.mono fun v h₁ ⟨e3, t3, e4⟩ => by
      subst e3 e4
      exact r_args0 ⟨(q.kf.f_part _ (q.gl.kin.keeps S.gh)).fun, (part_spec q room S.gh (own_gl S) ar e).mono fun v h' ⟨sub', ⟨hv, ar'⟩, P⟩ =>
          k v h' sub' hv ar' (S.callee2 P)⟩) (by rw [he2, he4])) (by rw [he, he2])) (by rw [he, he2]) (by rw [he2]; rfl))) hk hl) hm

inductive Stk (fst : Int) : List (Int × Int) → List Value → List Ch → Prop
  | nil : Stk fst [] [] []
  | cons {lo hi : Int} {st refs bag p t t'} : Stk fst st refs bag → Stk fst ((lo, hi) :: st) (refs ++ [.ref p]) ((p, TupP [.int (fst + lo) t, .int (fst + hi) t']) :: bag)
theorem Stk.len {st refs bag} (k : Stk fst st refs bag) : refs.length = st.length := by
  induction k with
  | nil => rfl
  | cons _ ih => simp [ih]

theorem pick_mid {c : Ch} {a b : List Ch} : Pick c (a ++ c :: b) (a ++ b) := List.perm_middle
end
end

/-! ### W5 -/
noncomputable section
open PySem PySem.W PyProof.Rows
set_option Elab.async false
set_option maxRecDepth 100000
theorem perm3 {α : Type} {a b c : α} {l r : List α} : (a :: b :: c :: (l ++ r)).Perm (l ++ a :: b :: c :: r) :=
  ((List.perm_middle (l₁ := l) (l₂ := b :: c :: r) (a := a)).trans (List.Perm.cons a ((List.perm_middle (l₁ := l) (l₂ := c :: r) (a := b)).trans (List.Perm.cons b (List.perm_middle (l₁ := l) (l₂ := r) (a := c)))))).symm
theorem perm3' {α : Type} {a b c : α} {l r : List α} : (a :: b :: c :: (l ++ r)).Perm (l ++ a :: c :: b :: r) :=
  (List.Perm.cons a (List.Perm.swap c b (l ++ r))).trans perm3
section
variable {prog : Program} {w : World} {A : Around} {G h : Heap} {K : Frag} {c : QF} {fst : Int} {val : Nat → Value} {o : Ora} {AR : PS → List Ch → Prop} {x : Addr} {sub : List Ch} {ps ps' : PS}

set_option maxHeartbeats 8000000 in
theorem sort_spec (q : Qs prog w K G x c fst val o AR) {low high : Int} {t1 t2 : Tok} {F f : Nat} (hf : f ≤ 90000) (room : Room A 14) (gh : Sub G h) (O : Own G h sub) (ar : AR ps sub)
    (e : sortLoop o F f [(low, high)] ps = some ps') :
    Run prog w A (call (.ref 90) [.ref x, .int (fst + low) t1, .int (fst + high) t2]) h fun v h' => ∃ sub', (v = .none ∧ AR ps' sub') ∧ Post G h sub sub' h' := by
  refine call_fn (binds := [("self", .ref x), ("low", .int (fst + low) t1), ("high", .int (fst + high) t2)]) room.lt q.gl gh O (q.kf.f_sort h (q.gl.kin.keeps gh)) (by intros; rfl) (by decide) (locs rfl) rfl rfl rfl ?_
  intro B L h₁ cdv bo S
  have rm2 : Room (A.deeper (envX "Quicksort.sort" A_sort.scope L 90 cdv [])) 12 := (room.less (by lia : 13 ≤ 14)).deeper _
  have rm' := rm2.less (by lia : 10 ≤ 12)
  have rm := rm2.less (by lia : 8 ≤ 12)
  refine Run.gen fun Q hQ => ?_
  -- waiting = [(low, high)]
  refine r_cons (r_AssignName ?_)
  refine r_List ?_
  refine r_args ?_
  refine r_Tuple ?_
  refine r_args (r_local S rfl ?_)
  refine r_args (r_local S rfl ?_)
  refine r_args0 ?_
  refine r_newTuple S fun p h S => ?_
  refine r_args0 ?_
  refine r_newList S fun wl h S => ?_
  refine r_store S fun h S => ?_
  walk_at "nx"
  have S := (S.perm (List.perm_append_comm (l₁ := [(wl, LstP [.ref p]), (p, TupP [.int (fst + low) t1, .int (fst + high) t2])]) (l₂ := sub))).to (lo' := [("self", .ref x), ("waiting", .ref wl)]) ⟨rfl, rfl, trivial⟩
  refine r_While' (fun n h => ∀ C : Prop, (∀ st ps sub refs bag, AR ps sub → Stk fst st refs bag → St G B L h [("self", .ref x), ("waiting", .ref wl)] (sub ++ (wl, LstP refs) :: bag) → sortLoop o F n st ps = some ps' → st.length + n ≤ 90001 → C) → C) f
    (fun _ k => k [(low, high)] ps sub [.ref p] [(p, TupP [.int (fst + low) t1, .int (fst + high) t2])] ar (.cons (refs := []) .nil) S e (by show 1 + f ≤ 90001; lia)) fun T nx bk n h hI => hI _ fun st ps sub refs bag ar sk S e hlen => ?_
  clear hI
  have hsl := sk.len
  refine r_testCmp ?_
  refine r_Call ?_
  refine r_builtin q.gl S.gh q.kf.g_len boot_len ?_
  refine r_blt ?_
  refine r_args (r_local S rfl ?_)
  refine r_args0 ?_
  refine l_len (S.has pick_mid) (by lia) fun t => ?_
  refine r_int fun t => ?_
  refine r_gt ?_
  refine r_truthB ?_
  cases n with
  | zero => cases e
  | succ n =>
    cases sk with
    | nil =>
      unfold sortLoop at e
      cases e
      rw [if_neg (by decide)]
      refine r_nil (onw (r_nil ?_))
      exact hQ _ _ ⟨sub, _, ⟨rfl, ar⟩, S.drop⟩
    | @cons lo hi st refs bag p ta tb sk =>
      unfold sortLoop at e
      rw [decide_eq_true (by simp), if_pos rfl]
      split at e
      · cases e
      rename_i ps₁ e₁
      split at e
      · cases e
      rename_i ps₂ e₂
      simp only [List.length_append, List.length_cons, List.length_nil] at hsl hlen
      refine r_cons (r_AssignTup ?_)
      refine r_Method (r_local S rfl ?_)
      refine l_method (S.has pick_mid) PySem.F.slot_list_pop PySem.F.type_list_pop ?_
      refine r_blt0 ?_
      refine l_pop S pick_mid (by lia) fun h S => ?_
      refine r_assignTuple rm.hd S (S.has (pick_mid (a := (wl, LstP refs) :: sub))) fun h S _ => ?_
      refine r_ord (r_toName (r_store S fun h S => ?_))
      refine r_ord (r_toName (r_store S fun h S => ?_))
      refine r_ordNil ?_
      have S := (S.perm (pick_mid (a := (wl, LstP refs) :: sub))).drop1.perm (nw' := sub ++ (wl, LstP refs) :: bag) List.perm_middle.symm
      -- if low < high
      refine onw (r_cons (Run.mono (Q := fun f h => f = .next ∧ ∃ sub, AR ps₁ sub ∧ St G B L h [("self", .ref x), ("waiting", .ref wl), ("low", .int (fst + lo) ta), ("high", .int (fst + hi) tb)] (sub ++ (wl, LstP refs) :: bag)) ?_ ?_))
      · refine r_If ?_
        refine pe_test (pe_local S rfl ⟨_, rfl⟩) (pe_local S rfl ⟨_, rfl⟩) c_lt ?_
        unfold stepTwo at e₁
        split at e₁
        · rename_i hlt
          rw [decide_eq_true (by lia), if_pos rfl]
          refine r_cons (r_Expr ?_)
          refine x_two q rm' S ar rfl (pe_local S rfl ⟨_, rfl⟩) (pe_local S rfl ⟨_, rfl⟩) e₁ fun h sub ar S => ⟨rfl, ?_⟩
          exact onw (r_nil ⟨rfl, sub, ar, S.to ⟨rfl, rfl, rfl, rfl, trivial⟩⟩)
        · rename_i hlt
          cases e₁
          rw [decide_eq_false (by lia), if_neg (by decide)]
          exact r_nil ⟨rfl, sub, ar, S.to ⟨rfl, rfl, rfl, rfl, trivial⟩⟩
      rintro _ h ⟨rfl, sub, ar, S⟩
      -- if high - low > 1
      refine onw (r_cons (Run.mono (Q := fun f h => f = .next ∧ ∃ sub, AR ps₂ sub ∧ St G B L h [("self", .ref x), ("waiting", .ref wl), ("low", .int (fst + lo) ta), ("high", .int (fst + hi) tb)] (sub ++ (wl, LstP refs) :: bag)) ?_ ?_))
      · refine r_If ?_
        refine pe_test (pe_sub (pe_local S rfl ⟨_, rfl⟩) (pe_local S rfl ⟨_, rfl⟩) rfl) pe_int c_gt ?_
        unfold stepMid at e₂
        split at e₂
        · rename_i hlt
          rw [decide_eq_true (by lia), if_pos rfl]
          refine r_cons (r_Expr ?_)
          refine x_mid q rm' S ar rfl (pe_local S rfl ⟨_, rfl⟩) (pe_fdiv (pe_add (pe_local S rfl ⟨_, rfl⟩) (pe_local S rfl ⟨_, rfl⟩) rfl) pe_int (by decide) (by decide) (by lia)) (pe_local S rfl ⟨_, rfl⟩) e₂ fun h sub ar S => ⟨rfl, ?_⟩
          exact onw (r_nil ⟨rfl, sub, ar, S⟩)
        · rename_i hlt
          cases e₂
          rw [decide_eq_false (by lia), if_neg (by decide)]
          exact r_nil ⟨rfl, sub, ar, S⟩
      rintro _ h ⟨rfl, sub, ar, S⟩
      -- if high - low > 2
      refine onw (r_cons (r_If ?_))
      refine pe_test (pe_sub (pe_local S rfl ⟨_, rfl⟩) (pe_local S rfl ⟨_, rfl⟩) rfl) pe_int c_gt ?_
      split at e
      · rename_i hlt
        rw [decide_eq_true (by lia), if_pos rfl]
        split at e
        · cases e
        rename_i seam ps₃ e₃
        refine r_cons (r_AssignName ?_)
        refine x_part q rm2 S ar rfl (pe_local S rfl ⟨_, rfl⟩) (pe_local S rfl ⟨_, rfl⟩) e₃ ?_
        rintro _ h sub ⟨ts, rfl⟩ ar S
        refine r_store S fun h S => ?_
        walk_at "nx"
        -- pieces
        refine r_AssignName ?_
        refine r_List ?_
        refine r_args ?_
        refine r_Tuple ?_
        refine r_args ?_
        refine (pe_add (pe_local S rfl ⟨_, rfl⟩) pe_int (c := fst + (seam + 1)) (by lia)).mono ?_
        rintro _ _ ⟨rfl, t3, rfl⟩
        refine r_args (r_local S rfl ?_)
        refine r_args0 ?_
        refine r_newTuple S fun p1 h S => ?_
        refine r_args ?_
        refine r_Tuple ?_
        refine r_args (r_local S rfl ?_)
        refine r_args ?_
        refine (pe_sub (pe_local S rfl ⟨_, rfl⟩) pe_int (c := fst + (seam - 1)) (by lia)).mono ?_
        rintro _ _ ⟨rfl, t4, rfl⟩
        refine r_args0 ?_
        refine r_newTuple S fun p2 h S => ?_
        refine r_args0 ?_
        refine r_newList S fun pc h S => ?_
        refine r_store S fun h S => ?_
        refine onw (r_cons (Run.mono (Q := fun f h => f = .next ∧ St G B L h [("self", .ref x), ("waiting", .ref wl), ("pieces", .ref pc)] ((pc, LstP (if hi - seam ≤ seam - lo then [.ref p2, .ref p1] else [.ref p1, .ref p2])) :: (p2, TupP [.int (fst + lo) ta, .int (fst + (seam - 1)) t4]) ::
          (p1, TupP [.int (fst + (seam + 1)) t3, .int (fst + hi) tb]) :: (sub ++ (wl, LstP refs) :: bag))) ?_ ?_))
        · refine r_If ?_
          refine pe_test (pe_sub (pe_local S rfl ⟨_, rfl⟩) (pe_local S rfl ⟨_, rfl⟩) rfl) (pe_sub (pe_local S rfl ⟨_, rfl⟩) (pe_local S rfl ⟨_, rfl⟩) rfl) c_ge ?_
          by_cases hs : hi - seam ≤ seam - lo
          · rw [decide_eq_true (by lia), if_pos rfl, if_pos hs]
            refine r_cons (r_Expr ?_)
            refine r_Method (r_local S rfl ?_)
            refine l_method (S.has Pick.head) PySem.F.slot_list_reverse PySem.F.type_list_reverse ?_
            refine r_blt0 ?_
            refine l_reverse S Pick.head (Nat.le_of_ble_eq_true rfl) fun h S => ⟨rfl, ?_⟩
            exact onw (r_nil ⟨rfl, S.to ⟨rfl, rfl, rfl, trivial⟩⟩)
          · rw [decide_eq_false (by lia), if_neg (by decide), if_neg hs]
            exact r_nil ⟨rfl, S.to ⟨rfl, rfl, rfl, trivial⟩⟩
        rintro _ h ⟨rfl, S⟩
        walk_at "nx"
        refine r_Expr ?_
        refine r_Method (r_local S rfl ?_)
        refine l_method (S.has (pick_mid (a := _ :: _ :: _ :: sub))) PySem.F.slot_list_extend PySem.F.type_list_extend ?_
        refine r_blt ?_
        refine r_args (r_local S rfl ?_)
        refine r_args0 ?_
        refine l_extend S (pick_mid (a := _ :: _ :: _ :: sub)) (S.has Pick.head) (by lia) (by split <;> exact Nat.le_of_ble_eq_true rfl) fun h S => ⟨rfl, ?_⟩
        have S := (S.perm (pick_mid (a := [_]))).drop1
        refine onw (r_nil (onw (r_nil ?_)))
        split at e
        · rename_i hs
          rw [if_pos hs] at S
          refine nx _ n _ (Nat.lt_succ_self n) fun _ k => k _ ps₃ sub (refs ++ [.ref p2] ++ [.ref p1]) _ ar (.cons (t := t3) (t' := tb) (.cons (t := ta) (t' := t4) sk)) ((S.perm ?_).to ⟨rfl, rfl, trivial⟩) e (by simp only [List.length_cons]; lia)
          rw [List.append_assoc]
          exact perm3'
        · rename_i hs
          rw [if_neg hs] at S
          refine nx _ n _ (Nat.lt_succ_self n) fun _ k => k _ ps₃ sub (refs ++ [.ref p1] ++ [.ref p2]) _ ar (.cons (t := ta) (t' := t4) (.cons (t := t3) (t' := tb) sk)) ((S.perm ?_).to ⟨rfl, rfl, trivial⟩) e (by simp only [List.length_cons]; lia)
          rw [List.append_assoc]
          exact perm3
      · rename_i hlt
        rw [decide_eq_false (by lia), if_neg (by decide)]
        refine r_nil (onw (r_nil ?_))
        exact nx _ n _ (Nat.lt_succ_self n) fun _ k => k st ps₂ sub refs bag ar sk (S.to ⟨rfl, rfl, trivial⟩) e (by lia)
end
end

/-! ### Q7 -/
noncomputable section
open PySem PySem.W PyProof.Rows
set_option Elab.async false
set_option maxRecDepth 100000

section
variable {prog : Program} {w : World} {A : Around} {G B h h' : Heap} {K : Frag} {env : Env} {lo : List (Str × Value)} {nw rest : List Ch} {L : Addr}

/-- a new object in a grown heap -/
theorem St.alloc (S : St G B L h lo nw) (k : Sub h h') {a : Addr} {o : Obj} {P : Obj → Prop} (hn : h.get? a = none) (ha : h'.get? a = some o) (p : P o) : St G B L h' lo ((a, P) :: nw) := by
  have T := S.grow k
  obtain ⟨m, hm, _⟩ := S.ns
  refine ⟨T.ns, T.gb, T.keep, T.above, ⟨fun c hc => ?_, ?_⟩, fun c hc => ?_⟩
  · rcases List.mem_cons.mp hc with rfl | hc
    · exact ⟨⟨o, ha, p⟩, S.keep.none hn⟩
    · exact T.own.1 c hc
  · refine List.nodup_cons.mpr ⟨fun q => ?_, S.own.2⟩
    obtain ⟨c, hc, e⟩ := List.mem_map.mp q
    obtain ⟨o', e', _⟩ := (S.own.1 c hc).1
    rw [e, hn] at e'; cases e'
  · rcases List.mem_cons.mp hc with rfl | hc
    · intro q
      obtain ⟨oL, es, ep, e, _⟩ := hm
      have q : a = L := q
      rw [← q, hn] at e; cases e
    · exact S.off c hc
theorem size_none (h : Heap) : h.get? h.objs.size = none := Heap.get?_none_of_le (Nat.le_refl _)
/-- a chunk given up -/
theorem St.lose {a : Addr} {P : Obj → Prop} (S : St G B L h lo nw) (p : Pick (a, P) nw rest) (e : Heap.ExtBut a h h') : St G B L h' lo rest := by
  have T := S.perm p
  have ha := T.own.1 (a, P) (.head _)
  have hL := T.off (a, P) (.head _)
  obtain ⟨m, hm, hl⟩ := T.ns
  refine ⟨⟨m, hm.extBut e (Ne.symm hL), hl⟩, S.gb, fun b o eb => e b o (fun q => ?_) (S.keep b o eb), S.above, ⟨fun c hc => ?_, T.own.tail.2⟩, fun c hc => T.off c (.tail _ hc)⟩
  · rw [q] at eb; rw [ha.2] at eb; cases eb
  · have n := T.own.1 c (.tail _ hc)
    obtain ⟨o, eo, po⟩ := n.1
    refine ⟨⟨o, e _ _ (fun q => ?_) eo, po⟩, n.2⟩
    exact (List.nodup_cons.mp T.own.2).1 (q ▸ List.mem_map_of_mem (f := (·.1)) hc)

/-! ## iterators -/
noncomputable def LiP (l : Addr) (i : Nat) (o : Obj) : Prop := o.cls = .type "list_iterator" ∧ o.data = .fields #[.ref l, .int i 0]
noncomputable def RngP (n : Int) (o : Obj) : Prop := ∃ t u v, o = { cls := .type "range", dict := none, data := .fields #[.int 0 t, .int n u, .int 1 v], slots := #[] }
noncomputable def RiP (x left : Int) (o : Obj) : Prop := o = { cls := .type "range_iterator", dict := none, data := .fields #[rawInt x, rawInt left, rawInt 1], slots := #[] }
noncomputable def EnP (it : Addr) (i : Int) (o : Obj) : Prop := ∃ old, o = { cls := .type "enumerate", dict := none, data := .fields #[.none, .bool false, .ref it, rawInt i, .none, old], slots := #[] }

theorem i_list {l : Addr} {items : List Value} {Q : Value → Heap → Prop} (S : St G B L h lo nw) (hl : h.IsList l items.toArray) (q : ∀ a h', St G B L h' lo ((a, LiP l 0) :: nw) → Sub h h' → Q (.ref a) h') : Run prog w A (pyIter (.ref l)) h Q := by
  intro s E Q' es k
  subst es
  exact wpAny_pyIter_list hl (k _ _ ⟨rfl, rfl, rfl⟩ (q _ _ (S.push _ rfl ⟨rfl, rfl⟩) (Sub.push _ _)))
theorem i_again {I l : Addr} {i : Nat} {Q : Value → Heap → Prop} (x : Has h (I, LiP l i)) (q : Q (.ref I) h) : Run prog w A (pyIter (.ref I)) h Q := by
  intro s E Q' es k
  subst es
  exact wpAny_pyIter_listiter x (k _ _ (Rest.refl _) q)
theorem i_next {I l : Addr} {i : Nat} {items : List Value} {v : Value} {Q : Option Value → Heap → Prop} (S : St G B L h lo nw) (p : Pick (I, LiP l i) nw rest) (hl : h.IsList l items.toArray) (hi : items[i]? = some v)
    (q : ∀ h', St G B L h' lo ((I, LiP l (i + 1)) :: rest) → Q (some v) h') : Run prog w A (pyNext (.ref I)) h Q := by
  intro s E Q' es k
  subst es
  exact wpAny_pyNext_list_item (S.has p) hl (by simpa using hi) fun h' x hs => k _ _ ⟨rfl, rfl, rfl⟩ (q h' (S.change p hs x))
theorem i_end {I l : Addr} {i : Nat} {items : List Value} {Q : Option Value → Heap → Prop} (hh : A.handled = none) (S : St G B L h lo nw) (p : Pick (I, LiP l i) nw rest) (hl : h.IsList l items.toArray) (hi : items[i]? = none)
    (q : ∀ h', St G B L h' lo rest → Q none h') : Run prog w A (pyNext (.ref I)) h Q := by
  intro s E Q' es k
  subst es
  exact wpAny_pyNext_list_end hh (S.has p) hl (by simpa using hi) fun h' hs => k _ _ ⟨rfl, rfl, rfl⟩ (q h' (S.lose p hs))

theorem c_range {n : Int} {t : Tok} {Q : Value → Heap → Prop} (S : St G B L h lo nw) (q : ∀ a h', St G B L h' lo ((a, RngP n) :: nw) → Q (.ref a) h') : Run prog w A (call (.type "range") [.int n t]) h Q := by
  intro s E Q' es k
  subst es
  exact call_range_1 (k _ _ ⟨rfl, rfl, rfl⟩ (q _ _ (S.push _ rfl ⟨_, _, _, rfl⟩)))
theorem rangeSize_nat' {n : Nat} : Builtin.Range.rangeSize 0 n 1 = n := by rw [rangeSize_one]; split <;> lia
theorem i_range {r : Addr} {n : Nat} {Q : Value → Heap → Prop} (hn : n ≤ 100000) (S : St G B L h lo nw) (hr : Has h (r, RngP n)) (q : ∀ a h', St G B L h' lo ((a, RiP 0 n) :: nw) → Q (.ref a) h') : Run prog w A (pyIter (.ref r)) h Q := by
  intro s E Q' es k
  subst es
  obtain ⟨o, e, t, u, v, rfl⟩ := hr
  refine wpAny_pyIter_range e (small_one (by lia) (by lia) (by lia) (by lia)) (k _ _ ⟨rfl, rfl, rfl⟩ (q _ _ (S.push _ rfl ?_)))
  show _ = _
  rw [rangeSize_nat']
theorem ri_again {I : Addr} {x left : Int} {Q : Value → Heap → Prop} (y : Has h (I, RiP x left)) (q : Q (.ref I) h) : Run prog w A (pyIter (.ref I)) h Q := by
  intro s E Q' es k
  subst es
  obtain ⟨o, e, rfl⟩ := y
  exact wpAny_pyIter_rangeiter e (k _ _ (Rest.refl _) q)
theorem ri_next {I : Addr} {x left : Int} {Q : Option Value → Heap → Prop} (S : St G B L h lo nw) (p : Pick (I, RiP x left) nw rest) (hl : 0 < left) (q : ∀ t h', St G B L h' lo ((I, RiP (x + 1) (left - 1)) :: rest) → Q (some (.int x t)) h') :
    Run prog w A (pyNext (.ref I)) h Q := by
  intro s E Q' es k
  subst es
  obtain ⟨o, e, rfl⟩ := S.has p
  exact wpAny_pyNext_range_item e hl fun h' y hs => k _ _ ⟨rfl, rfl, rfl⟩ (q _ h' (S.change p hs ⟨_, y, rfl⟩))
theorem ri_end {I : Addr} {x left : Int} {Q : Option Value → Heap → Prop} (hh : A.handled = none) (S : St G B L h lo nw) (p : Pick (I, RiP x left) nw rest) (hl : left ≤ 0) (q : ∀ h', St G B L h' lo rest → Q none h') :
    Run prog w A (pyNext (.ref I)) h Q := by
  intro s E Q' es k
  subst es
  obtain ⟨o, e, rfl⟩ := S.has p
  exact wpAny_pyNext_range_end hh e hl fun h' hs => k _ _ ⟨rfl, rfl, rfl⟩ (q h' (S.lose p hs))

/-! ## a comprehension of one clause, without a test -/
noncomputable def CompGo (prog : Program) (w : World) (A : Around) (G : Heap) (env : Env) (elt target : Expr) (scope : Scope) (cl : List (Str × Addr)) (Q : Value → Heap → Prop) (it : Value) (h : Heap) : Prop :=
  ∃ (sub : List Ch) (R : Value → List Ch → Prop), Sub G h ∧ Own G h sub ∧ (∀ v h' sub', R v sub' → Post G h sub sub' h' → Q v h') ∧
    ∀ B C D h₁, Bof h sub B → St G B C h₁ [] ((D, LstP []) :: sub) → ∃ (I : Nat → Heap → Prop) (n : Nat), I n h₁ ∧
      (∀ h₂, I n h₂ → ∀ (Q : Value → Heap → Prop), Q it h₂ → Run prog w A (pyIter it) h₂ Q) ∧
      ∀ n h, I n h → Run prog w A (pyNext it) h fun r h₃ => match r with
        | none => ∃ sub' lo', R (.ref D) sub' ∧ St G B C h₃ lo' sub'
        | some v => Run prog w A (letOwnedTupleGo target it v) h₃ fun _ h₃ => Run prog w A (assign target (compEnvC scope cl C env) v) h₃ fun _ h₄ => Run prog w A (eval elt (compEnvC scope cl C env)) h₄ fun y h₅ =>
          Run prog w A (call (.builtin "list.append") [.ref D, y]) h₅ fun _ h₆ => ∃ m, m < n ∧ I m h₆

theorem codeAny_compLoop_any {prog : Program} {w : World} {A : Around} {s : Shared} {elt iter target : Expr} {scope : Scope} {pos : Pos} {it acc : Value} {env : Env} {R : Result → Shared → Prop} (I : Nat → Shared → Prop)
    (turn : ∀ n s, I n s → wpAny (model prog w) A (pyNext it) (fun r s₁ => match r with
      | none => R (.ok .next) s₁
      | some v => wpAny (model prog w) A (letOwnedTupleGo target it v) (fun _ s₁' => wpAny (model prog w) A (assign target env v) (fun _ s₂ =>
          wpAny (model prog w) A (eval elt env) (fun x s₄ =>
              wpAny (model prog w) A (call (.builtin "list.append") [acc, x]) (fun _ s₅ => ∃ m, m < n ∧ I m s₅) (notedBy (model prog w) A env fun e s' => R (.error e) s') s₄) (notedBy (model prog w) A env fun e s' => R (.error e) s') s₂)
          (notedBy (model prog w) A env fun e s' => R (.error e) s') s₁') (notedBy (model prog w) A env fun e s' => R (.error e) s') s₁) (notedBy (model prog w) A env fun e s' => R (.error e) s') s)
    (n : Nat) (h : I n s) : codeAny (model prog w) A (.compLoop (.ListComp elt [⟨target, iter, [], 0⟩] scope pos) 0 it acc env) R s := by
  refine codeAny_loop rfl I (fun n s hI => ?_) n h
  show wpAny _ A ((compTurn (.ListComp elt [⟨target, iter, [], 0⟩] scope pos) 0 it acc env).onRaise (fun x => do noteFrame x env; theTreesLotGoes x)) _ _ s
  refine wpAny_noted ?_
  rw [compTurn_list]
  refine wpAny_bind (wpAny_standAt (wpAny_bind (wpAny_mono (turn n s hI) (fun r s₁ h₁ => ?_) fun _ _ h' => h')))
  cases r with
  | none => exact wpAny_pure h₁
  | some v =>
    refine wpAny_bind (wpAny_mono h₁ (fun _ s₁' h₁' => ?_) fun _ _ h' => h')
    refine wpAny_bind (wpAny_mono h₁' (fun _ s₂ h₂ => wpAny_bind (wpAny_mono (wpAny_tests_nil (Q := fun ok s₃ => ok = true ∧ s₃ = s₂) ⟨rfl, rfl⟩) (fun ok s₃ h₃ => ?_) fun _ _ h' => h')) fun _ _ h' => h')
    obtain ⟨rfl, rfl⟩ := h₃
    exact wpAny_bind (wpAny_bind (wpAny_mono h₂ (fun x s₄ h₄ => wpAny_bind (wpAny_mono h₄ (fun _ s₅ h₅ => wpAny_pure (wpAny_pure ⟨rfl, h₅⟩)) fun _ _ h' => h')) fun _ _ h' => h'))

theorem comp_go {elt target : Expr} {scope : Scope} {cl : List (Str × Addr)} {Q : Value → Heap → Prop} {it : Value} (sub : List Ch) (R : Value → List Ch → Prop) (gh : Sub G h) (O : Own G h sub) (fin : ∀ v h' sub', R v sub' → Post G h sub sub' h' → Q v h')
    (body : ∀ R' : Value → List Ch → Prop, (∀ v sub', R v sub' → R' v sub') → ∀ B C D h₁, Bof h sub B → St G B C h₁ [] ((D, LstP []) :: sub) → ∃ (I : Nat → Heap → Prop) (n : Nat), I n h₁ ∧
      (∀ h₂, I n h₂ → ∀ (Q : Value → Heap → Prop), Q it h₂ → Run prog w A (pyIter it) h₂ Q) ∧ ∀ n h, I n h → Run prog w A (pyNext it) h fun r h₃ => match r with
        | none => ∃ sub' lo', R' (.ref D) sub' ∧ St G B C h₃ lo' sub'
        | some v => Run prog w A (letOwnedTupleGo target it v) h₃ fun _ h₃ => Run prog w A (assign target (compEnvC scope cl C env) v) h₃ fun _ h₄ => Run prog w A (eval elt (compEnvC scope cl C env)) h₄ fun y h₅ =>
          Run prog w A (call (.builtin "list.append") [.ref D, y]) h₅ fun _ h₆ => ∃ m, m < n ∧ I m h₆) : CompGo prog w A G env elt target scope cl Q it h := ⟨sub, R, gh, O, fin, body R fun _ _ x => x⟩
theorem comp_turns {elt target : Expr} {scope : Scope} {cl : List (Str × Addr)} {R : Value → List Ch → Prop} {it : Value} {B : Heap} {C D : Addr} {h₁ : Heap} (I : Nat → Heap → Prop) (n : Nat) (hI : I n h₁)
    (again : ∀ h₂, I n h₂ → ∀ (Q : Value → Heap → Prop), Q it h₂ → Run prog w A (pyIter it) h₂ Q)
    (turn : ∀ (N : Nat → Heap → Prop) (Z : Heap → Prop), (∀ n m h, m < n → I m h → N n h) → (∀ h sub' lo', R (.ref D) sub' → St G B C h lo' sub' → Z h) → ∀ n h, I n h → Run prog w A (pyNext it) h fun r h₃ => match r with
        | none => Z h₃
        | some v => Run prog w A (letOwnedTupleGo target it v) h₃ fun _ h₃ => Run prog w A (assign target (compEnvC scope cl C env) v) h₃ fun _ h₄ => Run prog w A (eval elt (compEnvC scope cl C env)) h₄ fun y h₅ =>
          Run prog w A (call (.builtin "list.append") [.ref D, y]) h₅ fun _ h₆ => N n h₆) :
    ∃ (I : Nat → Heap → Prop) (n : Nat), I n h₁ ∧ (∀ h₂, I n h₂ → ∀ (Q : Value → Heap → Prop), Q it h₂ → Run prog w A (pyIter it) h₂ Q) ∧ ∀ n h, I n h → Run prog w A (pyNext it) h fun r h₃ => match r with
        | none => ∃ sub' lo', R (.ref D) sub' ∧ St G B C h₃ lo' sub'
        | some v => Run prog w A (letOwnedTupleGo target it v) h₃ fun _ h₃ => Run prog w A (assign target (compEnvC scope cl C env) v) h₃ fun _ h₄ => Run prog w A (eval elt (compEnvC scope cl C env)) h₄ fun y h₅ =>
          Run prog w A (call (.builtin "list.append") [.ref D, y]) h₅ fun _ h₆ => ∃ m, m < n ∧ I m h₆ :=
  ⟨I, n, hI, again, turn (fun n h => ∃ m, m < n ∧ I m h) (fun h => ∃ sub' lo', R (.ref D) sub' ∧ St G B C h lo' sub') (fun _ m _ l x => ⟨m, l, x⟩) fun _ a b c d => ⟨a, b, c, d⟩⟩

theorem r_ListComp {elt iter target : Expr} {scope : Scope} {cl : List (Str × Addr)} {pos : Pos} {Q : Value → Heap → Prop}
    (q : Run prog w A (eval iter env) h fun x h₁ => Run prog w A (pyIter x) h₁ (CompGo prog w A G env elt target scope cl Q))
    (hclos : closureFor scope env = pure cl) (hcell : ∀ y ∈ scope.names, y.2 ≠ .cell) (hkind : scope.kind = .function) (hnames : ∀ y ∈ scope.names, y.2 = .local → scope.names.lookup y.1 = some .local)
    (hs : ∀ x, foldedSetIterable iter env x = pure x := by intro _; rfl) : Run prog w A (eval (.ListComp elt [⟨target, iter, [], 0⟩] scope pos) env) h Q := by
  intro s E Q' es k
  rw [eval_ListComp]
  refine wpAny_comprehension_free (use := none) rfl hs hclos hkind hnames (q.wp es fun x s1 r1 q1 => q1.wp rfl fun it s2 r2 q2 => ?_)
  obtain ⟨sub, R, gh, O, fin, body⟩ := q2
  refine wpAny_newObj_type (wpAny_newFunctionEnv hcell (by intro y hy; simp at hy) (fun h₁ hns hsb => ?_) hkind)
  dsimp only at hns hsb ⊢
  have hsz : (s2.heap.push { cls := .type "list", dict := none, data := .seq ([] : List Value).toArray }).objs.size = s2.heap.objs.size + 1 := Heap.size_push ..
  generalize hH : s2.heap.push { cls := .type "list", dict := none, data := .seq ([] : List Value).toArray } = H2 at hns hsb hsz ⊢
  have bo := bof_hide s2.heap sub
  have gb : Sub G (hideAll s2.heap (addrs sub)) := fun b ob eb => bo.keep b ob (gh b ob eb) fun q => by
    obtain ⟨c, hc, ec⟩ := List.mem_map.mp q
    have := (O.1 c hc).2
    rw [ec, eb] at this; cases this
  have up : Sub s2.heap h₁ := fun b o e => by
    have lt := Heap.lt_size e
    exact hsb.extBut b o (fun q => by rw [q, hsz] at lt; exact Nat.lt_irrefl _ (Nat.lt_of_succ_lt lt)) (Heap.get?_push_of_some _ (hH ▸ Heap.get?_push_of_some _ e))
  have hD : h₁.get? s2.heap.objs.size = some { cls := .type "list", dict := none, data := .seq ([] : List Value).toArray } :=
    hsb.extBut _ _ (fun q => by rw [hsz] at q; exact Nat.lt_irrefl _ (Nat.lt_of_lt_of_eq (Nat.lt_succ_self _) q.symm)) (Heap.get?_push_of_some _ (hH ▸ Heap.get?_push_size _ rfl))
  have S : St G (hideAll s2.heap (addrs sub)) H2.objs.size h₁ [] ((s2.heap.objs.size, LstP []) :: sub) := by
    refine ⟨⟨_, hns, fun x v q => by cases q⟩, gb, bo.incl.trans up, by rw [hideAll_size, hsz]; exact Nat.le_succ _, ⟨fun c hc => ?_, ?_⟩, fun c hc => ?_⟩
    · rcases List.mem_cons.mp hc with rfl | hc
      · exact ⟨⟨_, hD, 0, rfl⟩, bo.incl.none (size_none _)⟩
      · exact ⟨up.has (O.1 c hc).1, bo.none _ (List.mem_map_of_mem hc)⟩
    · refine List.nodup_cons.mpr ⟨fun q => ?_, O.2⟩
      obtain ⟨c, hc, e⟩ := List.mem_map.mp q
      obtain ⟨o', e', _⟩ := (O.1 c hc).1
      rw [e, size_none] at e'; cases e'
    · rcases List.mem_cons.mp hc with rfl | hc
      · show s2.heap.objs.size ≠ H2.objs.size
        rw [hsz]; exact Nat.ne_of_lt (Nat.lt_succ_self _)
      · obtain ⟨o', e', _⟩ := (O.1 c hc).1
        have := Heap.lt_size e'
        rw [hsz]; exact Nat.ne_of_lt (Nat.lt_succ_of_lt this)
  obtain ⟨I, n, hI, iter2, turn⟩ := body _ H2.objs.size s2.heap.objs.size h₁ bo S
  have r12 := r1.trans r2
  have loop : ∀ s₃ : Shared, Rest s2 s₃ → s₃.heap = h₁ →
      codeAny (model prog w) A (.compLoop (.ListComp elt [⟨target, iter, [], 0⟩] scope pos) 0 it (.ref s2.heap.objs.size) (compEnvC scope cl H2.objs.size env))
        (compPost (model prog w) A E none Q' (.ref s2.heap.objs.size) H2.objs.size) s₃ := by
    intro s₃ re3 eh3
    refine codeAny_compLoop_any (fun n s' => Rest s2 s' ∧ I n s'.heap) (fun n s' hI => ?_) n ⟨re3, eh3 ▸ hI⟩
    refine (turn n s'.heap hI.2).wp rfl fun r s3 r3 q3 => ?_
    cases r with
    | none =>
      obtain ⟨sub', lo', hR, T⟩ := q3
      obtain ⟨m, hm, _⟩ := T.ns
      refine ⟨m, hm, fun h'' hs'' => k _ _ (r12.trans (hI.1.trans ⟨r3.1, r3.2.1, r3.2.2⟩)) (fin _ _ sub' hR ⟨⟨fun c hc => ⟨has_same hs'' (T.off c hc) (T.own.1 c hc).1, gb.none (T.own.1 c hc).2⟩, T.own.2⟩, fun b ob eb nb => ?_, fun c hc => ?_⟩)⟩
      · have lt := Heap.lt_size eb
        exact (hs''.2 b (fun q => by rw [q, hsz] at lt; exact Nat.lt_irrefl _ (Nat.lt_of_succ_lt lt))).trans (T.keep _ _ (bo.keep b ob eb nb))
      · have hn := (T.own.1 c hc).2
        by_cases q : c.1 ∈ addrs sub
        · exact .inl q
        · right
          cases z : s2.heap.get? c.1 with
          | none => rfl
          | some ob => rw [bo.keep _ _ z q] at hn; cases hn
    | some v =>
      exact (show Run prog w A (letOwnedTupleGo target it v) s3.heap _ from q3).wp rfl fun _ s4 r4 q4 => q4.wp rfl fun _ s5 r5 q5 => q5.wp rfl fun y s6 r6 q6 => q6.wp rfl fun _ s7 r7 q7 =>
        let ⟨m, hm, hq⟩ := q7
        ⟨m, hm, hI.1.trans (((r3.trans r4).trans (r5.trans r6)).trans r7), hq⟩
  have hit : ∀ (QQ : Value → Heap → Prop), QQ it h₁ → Run prog w A (pyIter it) h₁ QQ := iter2 h₁ hI
  refine codeAny_compStart_list (loop _ ⟨rfl, rfl, rfl⟩ rfl) ?_
  refine (hit (fun v h' => v = it ∧ h' = h₁) ⟨rfl, rfl⟩).wp rfl fun v s' re q => ?_
  obtain ⟨rfl, hq⟩ := q
  exact loop s' ⟨re.1, re.2.1, re.2.2⟩ hq
end
end

/-! ### Q8 -/
noncomputable section
open PySem PySem.W PyProof.Rows
set_option Elab.async false
set_option maxRecDepth 100000

/-! ## dict(pairs) -/
section
variable {prog : Program} {w : World} {A : Around} {E : Value → Shared → Prop} {s : Shared}
theorem getAttrBy_miss_list {a : Addr} {xs : Array Value} {k : Nat} {sl : Array (Option Value)} {name : Str} {u : Tok} {Q : Value → Shared → Prop}
    (hx : s.heap.get? a = some { cls := .type "list", dict := none, data := .seq xs k, slots := sl }) (hmiss : typeLookup (.type "list") name = pure none) (hname : (["__module__", "__name__", "__qualname__", "__doc__", "__annotations__"] : List Str).contains name = false) (hA : A.handled = none)
    (h : ∀ h' tk e, Heap.NewExcOf s.heap h' e "AttributeError" → E (.ref e) { s with heap := h', toks := tk }) (hsz : name.length + 100 ≤ sizeLine := by size_fits) :
    wpAny (model prog w) A (getAttrBy (.ref a) (.str name u) false) Q E s := by
  obtain ⟨hp, g, d, tk, os⟩ := s
  have hT : ∀ tk', (⟨hp, g, d, tk', os⟩ : Shared).TypeIs (.ref a) "list" := fun _ => ⟨_, hx, rfl⟩
  have f1 := sub_AttributeError
  have f3 := F.slot_list_getattribute.lookup
  have f4 := F.slot_list_getattribute.bind (.ref a)
  have f5 := am_list_getattr_none
  unfold getAttrBy
  repeat (any_goals (first | assumption | exact hT _ | ((with_reducible show wpAny _ _ (call (Value.builtin "list.__getattribute__") _ _) _ _ _); refine call_meets F.slot_list_getattribute (hT _) am_entry_list_getattribute (F.args_list_getattribute_2 _ _) (meets_getattribute_miss_list a xs k sl name _ hmiss hname hsz) ⟨hx, hA, fun h' tk' e hx' => ?_⟩) | wp_step))
  obtain ⟨t', u', he⟩ := hx'.there
  show wpAny _ _ (getattributeRaised _ _ _ _ _ _ _) _ _ _
  unfold getattributeRaised
  repeat (any_goals (first | assumption | wp_step))
  exact h _ _ _ hx'.of
theorem getAttr?_miss_list {a : Addr} {xs : Array Value} {k : Nat} {sl : Array (Option Value)} {name : Str} {Q : Option Value → Shared → Prop}
    (hx : s.heap.get? a = some { cls := .type "list", dict := none, data := .seq xs k, slots := sl }) (hmiss : typeLookup (.type "list") name = pure none) (hname : (["__module__", "__name__", "__qualname__", "__doc__", "__annotations__"] : List Str).contains name = false) (hA : A.handled = none)
    (h : ∀ h' tk, Sub s.heap h' → Q none { s with heap := h', toks := tk }) (hsz : name.length + 100 ≤ sizeLine := by size_fits) :
    wpAny (model prog w) A (getAttr? (.ref a) name) Q E s := by
  unfold getAttr? getAttrBy?
  refine wpAny_bind (wpAny_mkText ?_)
  refine wpAny_bind (wpAny_attempt (getAttrBy_miss_list hx hmiss hname hA (fun h' tk e n => ?_) hsz))
  obtain ⟨ob, vs, he, hc, _, _⟩ := n.there
  refine wpAny_bind (wpAny_isInstance (T := "AttributeError") (b := true) ⟨ob, he, hc⟩ sub_AttributeError ?_)
  exact wpAny_pure (h _ _ n.keeps)
end
inductive All2 {α β : Type} (P : α → β → Prop) : List α → List β → Prop
  | nil : All2 P [] []
  | cons {a b as bs} : P a b → All2 P as bs → All2 P (a :: as) (b :: bs)
/-! the chunk of a dict of ints -/
noncomputable def MapP (f : Int → Option Value) (n : Nat) (o : Obj) : Prop := o.cls = .type "dict" ∧ ∃ es ep, o.data = .dict es ep ∧ IntKeys es ∧ (∀ k, findBy Value.isInt es k = f k) ∧ es.size ≤ n
theorem MapP.map {h : Heap} {d : Addr} {f n} (x : Has h (d, MapP f n)) : h.IntMap d f := let ⟨o, e, c, es, ep, a, b, g, _⟩ := x; ⟨o, es, ep, e, c, a, b, g⟩
theorem MapP.le {h : Heap} {d : Addr} {f n} (x : Has h (d, MapP f n)) : h.DictLe d n := fun o es ep e q => by
  obtain ⟨o', e', c, es', ep', a, b, g, z⟩ := x
  have e' : h.get? d = some o' := e'
  rw [e] at e'; cases e'
  rw [q] at a; cases a
  exact z
theorem MapP.of {h : Heap} {d : Addr} {f n} (x : h.IntMap d f) (y : h.DictLe d n) : Has h (d, MapP f n) := let ⟨o, es, ep, e, c, a, b, g⟩ := x; ⟨o, e, c, es, ep, a, b, g, y o es ep e a⟩
noncomputable def ins (f : Int → Option Value) (kvs : List (Int × Value)) : Int → Option Value := kvs.foldl (fun f kv x => if x = kv.1 then some kv.2 else f x) f
noncomputable def PairAt (h : Heap) (r : Value) (kv : Int × Value) : Prop := ∃ p t, r = .ref p ∧ Has h (p, TupP [.int kv.1 t, kv.2])

section
variable {prog : Program} {w : World} {A : Around} {G B h h' : Heap} {K : Frag} {env : Env} {lo : List (Str × Value)} {nw rest : List Ch} {L : Addr}
theorem d_set {d : Addr} {f} {n : Nat} {k : Int} {t : Tok} {v : Value} {Q : Unit → Heap → Prop} (S : St G B L h lo nw) (p : Pick (d, MapP f n) nw rest) (hn : n ≤ 100000)
    (q : ∀ h', St G B L h' lo ((d, MapP (fun x => if x = k then some v else f x) (n + 1)) :: rest) → Q () h') : Run prog w A (dictSet d (.int k t) v) h Q := by
  intro s E Q' es kk
  subst es
  exact wpAny_dictSet_int_le (MapP.map (S.has p)) (MapP.le (S.has p)) (by rw [PySem.sizeLine_eq]; lia) fun h' m z sb => kk _ _ ⟨rfl, rfl, rfl⟩ (q h' (S.change p sb (MapP.of m z)))
theorem d_setItem {d : Addr} {f} {n : Nat} {k : Int} {t : Tok} {v : Value} {Q : Unit → Heap → Prop} (S : St G B L h lo nw) (p : Pick (d, MapP f n) nw rest) (hn : n ≤ 100000)
    (q : ∀ h', St G B L h' lo ((d, MapP (fun x => if x = k then some v else f x) (n + 1)) :: rest) → Q () h') : Run prog w A (setItem (.ref d) (.int k t) v) h Q := by
  intro s E Q' es kk
  subst es
  exact wpAny_setItem_intMap_le (MapP.map (S.has p)) (MapP.le (S.has p)) (by rw [PySem.sizeLine_eq]; lia) fun h' m z sb => kk _ _ ⟨rfl, rfl, rfl⟩ (q h' (S.change p sb (MapP.of m z)))
theorem t_dict {value slice : Expr} {d : Addr} {f} {n : Nat} {i : Int} {t : Tok} {v : Value} {Q : Value → Heap → Prop} (hp : Has h (d, MapP f n)) (e : f i = some v) (q : Q v h)
    (hs : subscripted slice false (.ref d) (.int i t) = operate [.ref d, .int i t] (getItem (.ref d) (.int i t)) := by with_unfolding_all rfl) : Run prog w A (subscriptTail value slice (.ref d) (.int i t)) h Q := by
  intro s E Q' es kk
  subst es
  have hL := MapP.map hp
  exact tail_any hL.typeIs slot_dict_getitem.lookup (wpAny_getItem_intMap hL e (kk _ _ ⟨rfl, rfl, rfl⟩ q)) hs
theorem r_SetSub {o i : Expr} {pos' pos : Pos} {value : Expr} {Q : Flow → Heap → Prop} (q : Run prog w A (eval value env) h fun v h₁ => Run prog w A (eval o env) h₁ fun ov h₂ => Run prog w A (eval i env) h₂ fun iv h₃ => Run prog w A (setItem ov iv v) h₃ fun _ h₄ => Q .next h₄)
    (hs : swapsWith value (some (.Subscript o i pos')) pos.line env = pure false := by rfl) : Run prog w A (exec (.Assign [.Subscript o i pos'] value pos) env) h Q :=
  fun _ _ _ es k => wpAny_Assign_Subscript (q.wp es fun _ _ r1 q1 => q1.wp rfl fun _ _ r2 q2 => q2.wp rfl fun _ _ r3 q3 => q3.wp rfl fun _ _ r4 q4 => k _ _ (((r1.trans r2).trans r3).trans r4) q4) hs

theorem plain_upd : plainId "dict.update.loop" = true := by decide +kernel
theorem entry_upd : entryFor table "dict.update.loop" = some Builtin.«dict.update.loop» := entryFor_of_tree (by kernel_rfl)

theorem upd_loop {l d I : Addr} {refs : List Value} : ∀ (kvs : List (Int × Value)) (i n : Nat) (f : Int → Option Value) (A : Around) (R : Result → Shared → Prop) (s : Shared), A.handled = none → n + kvs.length ≤ 100000 →
    St G B L s.heap lo ((I, LiP l i) :: (d, MapP f n) :: nw) → (∀ h, St G B L h lo nw → h.IsList l refs.toArray ∧ All2 (PairAt h) (refs.drop i) kvs) →
    (∀ s', Rest s s' → St G B L s'.heap lo ((d, MapP (ins f kvs) (n + kvs.length)) :: nw) → R (.ok (.ret .none)) s') →
    codeAny (model prog w) A (.builtin "dict.update.loop" ⟨[.ref d, .ref I, rawInt i, .none], []⟩) R s := by
  intro kvs
  induction kvs with
  | nil =>
    intro i n f A R s hh hn S view hR
    refine codeAny_builtin entry_upd ?_
    rw [Around.under_plainId plain_upd _]
    show wpAny _ A.in1 (pyNext (.ref I) >>= _) _ _ s
    obtain ⟨hl, hv⟩ := view _ (S.drop1.drop1)
    refine wpAny_bind ((i_end (items := refs) (A := A.in1) hh S Pick.head hl ?_ (Q := fun o h' => o = none ∧ St G B L h' lo ((d, MapP f n) :: nw)) fun h' S' => ⟨rfl, S'⟩).wp rfl fun o s' re q => ?_)
    · have : refs.drop i = [] := by
        generalize refs.drop i = dr at hv
        cases hv; rfl
      rw [List.drop_eq_nil_iff] at this
      simpa using this
    · obtain ⟨rfl, S'⟩ := q
      show wpAny _ A.in1 (Builtin.Dict.addKeywords d [] >>= _) _ _ s'
      exact wpAny_bind (wpAny_pure (wpAny_pure (hR s' re S')))
  | cons kv kvs ih =>
    intro i n f A R s hh hn S view hR
    refine codeAny_builtin entry_upd ?_
    rw [Around.under_plainId plain_upd _]
    show wpAny _ A.in1 (pyNext (.ref I) >>= _) _ _ s
    obtain ⟨hl, hv⟩ := view _ (S.drop1.drop1)
    obtain ⟨r, hr, hpa⟩ : ∃ r, refs[i]? = some r ∧ PairAt s.heap r kv := by
      generalize hd : refs.drop i = dr at hv
      cases hv with
      | cons a b =>
        rename_i r _
        refine ⟨r, ?_, a⟩
        have := congrArg (·[0]?) hd
        simpa using this
    refine wpAny_bind ((i_next (items := refs) (A := A.in1) S Pick.head hl hr (Q := fun o h' => o = some r ∧ St G B L h' lo ((I, LiP l (i + 1)) :: (d, MapP f n) :: nw)) fun h' S' => ⟨rfl, S'⟩).wp rfl fun o s' re q => ?_)
    obtain ⟨rfl, S'⟩ := q
    obtain ⟨hl', hv'⟩ := view _ (S'.drop1.drop1)
    obtain ⟨p, t, rfl, hp⟩ : PairAt s'.heap r kv := by
      generalize hd : refs.drop i = dr at hv'
      cases hv' with
      | cons a b =>
        have := congrArg (·[0]?) hd
        simp only [List.getElem?_drop, Nat.add_zero, List.getElem?_cons_zero] at this
        rw [hr] at this; cases this
        exact a
    obtain ⟨o, ho, m, rfl⟩ := hp
    refine wpAny_bind (wpAny_holding ?_)
    refine wpAny_bind (wpAny_tryCatch ?_)
    unfold Builtin.Dict.pairItems
    refine wpAny_bind (wpAny_typeOf (T := "tuple") ⟨_, ho, rfl⟩ ?_)
    refine wpAny_bind (wpAny_seqItems ho rfl ?_)
    refine wpAny_pure ?_
    refine wpAny_holding ?_
    refine (d_set (A := A.in1) S' (Pick.head.tail) (by simp only [List.length_cons] at hn; lia) (Q := fun _ h' => St G B L h' lo ((I, LiP l (i + 1)) :: (d, MapP (fun x => if x = kv.1 then some kv.2 else f x) (n + 1)) :: nw)) fun h' S'' => S''.perm (List.Perm.swap _ _ _)).wp rfl fun _ s'' re' S'' => ?_
    refine wpAny_pure ⟨plainId_quiet plain_upd _, ?_⟩
    refine ih (i + 1) (n + 1) _ A R s'' hh (by simp only [List.length_cons] at hn; lia) S'' (fun h S => ?_) fun s₃ re₃ S₃ => hR s₃ ((re.trans re').trans re₃) ?_
    · obtain ⟨a, b⟩ := view h S
      refine ⟨a, ?_⟩
      have : refs.drop (i + 1) = (refs.drop i).tail := by simp
      rw [this]
      generalize refs.drop i = dr at b
      cases b with
      | cons _ b => exact b
    · have : n + (kv :: kvs).length = n + 1 + kvs.length := by rw [List.length_cons]; lia
      rw [this]
      exact S₃

theorem list_no_keys : typeLookup (.type "list") "keys" = pure none := by rw [typeLookup_type, builtinLookup_eq_fast]; kernel_rfl
theorem c_dict {l : Addr} {refs : List Value} {kvs : List (Int × Value)} {Q : Value → Heap → Prop} (hh : A.handled = none) (hn : kvs.length ≤ 1000) (S : St G B L h lo nw) (hl : Has h (l, LstP refs))
    (view : ∀ h, St G B L h lo nw → h.IsList l refs.toArray ∧ All2 (PairAt h) refs kvs)
    (q : ∀ d h', St G B L h' lo ((d, MapP (ins (fun _ => none) kvs) kvs.length) :: nw) → Q (.ref d) h') : Run prog w A (call (.type "dict") [.ref l]) h Q := by
  intro s E Q' es kk
  subst es
  refine callType_codes (Q₁ := fun obj s₁ => obj = .ref s.heap.objs.size ∧ s₁ = { s with heap := s.heap.push { cls := .type "dict", data := .dict #[] } }) F.kt_called_dict (F.kt_typeCall_dict_1 _) F.entry_dict_init (kt_code_dict_new _ ⟨rfl, rfl⟩) ?_
  rintro obj s₁ ⟨rfl, rfl⟩
  have S1 := S.push { cls := .type "dict", data := .dict #[] } rfl (P := MapP (fun _ => none) 0) ⟨rfl, #[], 0, rfl, fun _ he => by simp at he, fun _ => rfl, Nat.le_refl _⟩
  have hT : (⟨s.heap.push { cls := .type "dict", data := .dict #[] }, s.gens, s.drawn, s.toks, s.os⟩ : Shared).TypeIs (.ref s.heap.objs.size) "dict" := ⟨_, Heap.get?_push_size _ rfl, rfl⟩
  refine ⟨hT, F.args_dict_init_2 _ _, ?_⟩
  obtain ⟨o, ho, m, rfl⟩ := hl
  have ho' := Heap.get?_push_of_some { cls := .type "dict", data := .dict #[] } ho
  generalize s.heap.objs.size = d at S1 hT ⊢
  unfold Builtin.«dict.__init__»
  refine wpAny_bind ?_
  unfold Builtin.Dict.selfAndRest
  refine wpAny_bind (wpAny_notOrdered_dict hT ?_)
  show wpAny _ _ (pure (d, [Value.ref l])) _ _ _
  refine wpAny_pure ?_
  show wpAny _ _ (Builtin.Dict.updateFrom "dict.__init__" d (.ref l) [] .none) _ _ _
  unfold Builtin.Dict.updateFrom
  refine wpAny_bind (wpAny_typeOf (T := "list") ⟨_, ho', rfl⟩ ?_)
  rw [if_pos (by decide)]
  refine wpAny_bind (getAttr?_miss_list ho' list_no_keys (by decide) hh fun h' tk sb => ?_)
  rw [if_pos (show (none : Option Value).isNone = true from rfl)]
  refine wpAny_bind (wpAny_rule ?_)
  have S2 := S1.grow sb
  obtain ⟨hl2, _⟩ := view _ S2.drop1
  refine wpAny_bind ((i_list (A := A.in1.in1) S2 hl2 (Q := fun v h' => ∃ I, v = .ref I ∧ St G B L h' lo ((I, LiP l 0) :: (d, MapP (fun _ => none) 0) :: nw)) fun a h' S _ => ⟨a, rfl, S⟩).wp rfl fun v s' re q => ?_)
  obtain ⟨I, rfl, S3⟩ := q
  refine wpAny_pure ⟨plainId_quiet plain_upd _, ?_⟩
  refine upd_loop (refs := refs) kvs 0 0 _ A.in1 _ s' hh (by lia) S3 (fun h S => view h S) fun s'' re' S4 => ⟨rfl, kk _ _ ((Rest.trans ⟨re.1, re.2.1, re.2.2⟩ re')) (q d s''.heap ?_)⟩
  rw [Nat.zero_add] at S4
  exact S4
end
end

/-! ### Q9 -/
noncomputable section
open PySem PySem.W PyProof.Rows
set_option Elab.async false
set_option maxRecDepth 100000

/-! ## cells, functions with cells -/
noncomputable def CellP (v : Option Value) (o : Obj) : Prop := o.data = .cell v
noncomputable def IsFnAt (h : Heap) (f : Addr) (a : FnAst) (qual : Str) (cl : List (Str × Addr)) (cdv : Value) : Prop :=
  ∃ o doc pm an ct, h.get? f = some o ∧ o.data = .func (fnX a.name qual a.params a.body a.scope cl .none .none doc pm an cdv ct) ∧ h.CodeRec cdv qual
theorem IsFn.get {h : Heap} {f a qual cl} (x : IsFn h f a qual cl) : ∃ cdv, IsFnAt h f a qual cl cdv := let ⟨o, doc, pm, an, cdv, ct, e, d, c⟩ := x; ⟨cdv, o, doc, pm, an, ct, e, d, c⟩
theorem IsFnAt.fn {h : Heap} {f a qual cl cdv} (x : IsFnAt h f a qual cl cdv) : IsFn h f a qual cl := let ⟨o, doc, pm, an, ct, e, d, c⟩ := x; ⟨o, doc, pm, an, cdv, ct, e, d, c⟩
noncomputable def AllM (m : Str → Option Value) : List (Str × Value) → Prop
  | [] => True
  | (x, v) :: r => m x = some v ∧ AllM m r
theorem AllM.of {m : Str → Option Value} : ∀ {lo : List (Str × Value)}, AllM m lo → ∀ x v, look x lo = some v → m x = some v
  | [], _, x, v, e => by cases e
  | (y, u) :: r, k, x, v, e => by
    unfold look at e
    by_cases h : y = x
    · subst h; rw [if_pos rfl] at e; cases e; exact k.1
    · rw [if_neg h] at e; exact AllM.of k.2 x v e
noncomputable def cellCh (qual : Str) (scope : Scope) (L f : Addr) (cdv : Value) (binds : List (Str × Value)) : List Ch :=
  (cellsFrom (L + 1) scope.names []).map fun x => (x.2, CellP (bindC (envOfC qual scope L f cdv).kindOf binds (fun _ => none) x.1))

section
variable {prog : Program} {w : World} {A : Around} {G h : Heap} {K : Frag}
theorem call_fnC {f : Addr} {a : FnAst} {qual : Str} {cdv : Value} {args : List Value} {binds lo : List (Str × Value)} {sub : List Ch} {R : Value → List Ch → Prop}
    (room : A.depth < recursionLimit) (gl : Gl K G) (gh : Sub G h) (O : Own G h sub) (hf : IsFnAt h f a qual [] cdv)
    (hbind : ∀ doc pm an cdv ct, bindArgs (fnX a.name qual a.params a.body a.scope [] .none .none doc pm an cdv ct) ⟨args, []⟩ = pure binds)
    (hkind : ∀ n, ∀ x ∈ binds, a.scope.names.lookup x.1 = some .local ∨ (a.scope.names.lookup x.1 = some .cell ∧ ((cellsFrom n a.scope.names []).lookup x.1).isSome = true))
    (hnd : ((cellsFrom 0 a.scope.names []).map (·.1)).Nodup) (hlo : ∀ L, AllM (bindL (envOfC qual a.scope L f cdv).kindOf binds fun _ => none) lo)
    (hco : a.scope.isCoroutine = false) (hgen : a.scope.isGenerator = false) (hk : a.scope.kind = .function)
    (body : ∀ B L h₁, Bof h sub B → St G B L h₁ lo (cellCh qual a.scope L f cdv binds ++ sub) →
      Run prog w (A.deeper (envOfC qual a.scope L f cdv)) (execs a.body (envOfC qual a.scope L f cdv)) h₁ fun fl h' => ∃ sub' lo', R (retOf fl) sub' ∧ St G B L h' lo' sub') :
    Run prog w A (call (.ref f) args) h fun v h' => ∃ sub', R v sub' ∧ Post G h sub sub' h' := by
  intro s E Q' e k
  subst e
  obtain ⟨o, doc, pm, an, ct, ho, hd, hcd⟩ := hf
  have bo := bof_hide s.heap sub
  have gb : Sub G (hideAll s.heap (addrs sub)) := fun b ob eb => bo.keep b ob (gh b ob eb) fun q => by
    obtain ⟨c, hc, ec⟩ := List.mem_map.mp q
    have := (O.1 c hc).2
    rw [ec, eb] at this; cases this
  refine wpAny_call (codeAny_call_function room ho hd hco hgen rfl hcd ((BindsTo.of_eq (hbind _ _ _ _ _)) _ _ _ _ ?_))
  refine wpAny_newFunctionEnv_cells hk (hkind _) fun env' he s' x => ?_
  subst he
  refine ⟨(gl.nolimit.keeps gh).keeps x.toInCall.keep, codeAny_func ?_⟩
  obtain ⟨h₁, tk, rfl, _⟩ := x.done
  have hk₁ := x.toInCall.keep
  have hns : h₁.Ns s.heap.objs.size (bindL (envOfC qual a.scope s.heap.objs.size f cdv).kindOf binds fun _ => none) := x.toInCall.ns
  have hcells : ∀ y ∈ cellsFrom (s.heap.objs.size + 1) a.scope.names [], h₁.IsCell y.2 (bindC (envOfC qual a.scope s.heap.objs.size f cdv).kindOf binds (fun _ => none) y.1) ∧ s.heap.objs.size < y.2 :=
    fun y hy => ⟨x.cell y.1 y.2 (lookup_of_mem_nodup (cellsFrom_names a.scope.names 0 (s.heap.objs.size + 1) [] [] rfl ▸ hnd) hy), x.above y.1 y.2 hy⟩
  have hap : (cellsFrom (s.heap.objs.size + 1) a.scope.names []).Pairwise fun x y => x.2 ≠ y.2 := x.apart
  have S : St G (hideAll s.heap (addrs sub)) s.heap.objs.size h₁ lo (cellCh qual a.scope s.heap.objs.size f cdv binds ++ sub) := by
    refine ⟨⟨_, hns, (hlo _).of⟩, gb, bo.incl.trans hk₁, Nat.le_of_eq (hideAll_size _ _), ⟨fun c hc => ?_, ?_⟩, fun c hc => ?_⟩
    · rcases List.mem_append.mp hc with hc | hc
      · obtain ⟨y, hy, rfl⟩ := List.mem_map.mp hc
        obtain ⟨⟨oc, e1, e2⟩, e3⟩ := hcells y hy
        exact ⟨⟨oc, e1, e2⟩, bo.incl.none (Heap.get?_none_of_le (Nat.le_of_lt e3))⟩
      · exact ⟨Sub.has hk₁ (O.1 c hc).1, bo.none _ (List.mem_map_of_mem hc)⟩
    · rw [List.map_append]
      refine List.nodup_append.mpr ⟨?_, O.2, fun p hp q hq e => ?_⟩
      · unfold cellCh
        rw [List.map_map]
        exact (List.pairwise_map.mpr hap : ((cellsFrom (s.heap.objs.size + 1) a.scope.names []).map (·.2)).Pairwise (· ≠ ·))
      · obtain ⟨c, hc, rfl⟩ := List.mem_map.mp hp
        obtain ⟨y, hy, rfl⟩ := List.mem_map.mp hc
        obtain ⟨d, hd, rfl⟩ := List.mem_map.mp hq
        obtain ⟨o', e', _⟩ := (O.1 d hd).1
        have h1 := Heap.lt_size e'
        have h2 := (hcells y hy).2
        have h3 : y.2 = d.1 := e
        rw [h3] at h2
        exact Nat.lt_irrefl _ (Nat.lt_trans h1 h2)
    · rcases List.mem_append.mp hc with hc | hc
      · obtain ⟨y, hy, rfl⟩ := List.mem_map.mp hc
        exact Nat.ne_of_gt (hcells y hy).2
      · obtain ⟨o', e', _⟩ := (O.1 c hc).1
        exact Nat.ne_of_lt (Heap.lt_size e')
  refine (body _ _ h₁ bo S).wp rfl fun fl s' re q => ?_
  obtain ⟨sub', lo', hr, T⟩ := q
  refine k _ s' ⟨re.1, re.2.1, re.2.2⟩ ⟨sub', (by cases fl <;> exact hr), ?_, fun b ob eb nb => T.keep _ _ (bo.keep b ob eb nb), fun c hc => ?_⟩
  · exact T.own.base fun c hc => gb.none (T.own.1 c hc).2
  · have hn := (T.own.1 c hc).2
    by_cases q : c.1 ∈ addrs sub
    · exact .inl q
    · right
      cases z : s.heap.get? c.1 with
      | none => rfl
      | some ob => rw [bo.keep _ _ z q] at hn; cases hn
end

section
variable {prog : Program} {w : World} {A : Around} {G B h : Heap} {env : Env} {lo : List (Str × Value)} {nw rest : List Ch} {L : Addr}
theorem CellP.is {c : Addr} {v : Option Value} (x : Has h (c, CellP v)) : h.IsCell c v := x
theorem r_storeCell {x : Str} {c : Addr} {v₀ : Option Value} {v : Value} {Q : Unit → Heap → Prop} (S : St G B L h lo nw) (p : Pick (c, CellP v₀) nw rest) (hc : env.cells.lookup x = some c)
    (q : ∀ h', St G B L h' lo ((c, CellP (some v)) :: rest) → Q () h')
    (hk : env.scope.kind = .function := by rfl) (hl : env.kindOf x = some .cell := by rfl) : Run prog w A (storeName env x v) h Q := by
  intro s E Q' es k
  subst es
  exact wpAny_storeName_cell hk hl hc (CellP.is (S.has p)) fun h' y sb => k _ _ ⟨rfl, rfl, rfl⟩ (q h' (S.change p sb y))
end
end

/-! ### Q10 -/
noncomputable section
open PySem PySem.W PyProof.Rows
set_option Elab.async false
set_option maxRecDepth 100000

/-! ## nested functions: the table of a code object -/
structure TE where
  line : Int
  col : Int
  addr : Addr
  qual : Str
noncomputable def teList : List TE → List Value
  | [] => []
  | e :: r => rawInt e.line :: rawInt e.col :: .ref e.addr :: teList r
noncomputable def CodeP (q : Str) (o : Obj) : Prop := ∃ vs t, o.data = .fields vs ∧ vs[1]? = some (.str q t)
noncomputable def TabP (l : List TE) (o : Obj) : Prop := o = tabObj (teList l).toArray
noncomputable def tabCh (P : Addr) (l : List TE) : List Ch := (P, TabP l) :: l.map fun e => (e.addr, CodeP e.qual)
theorem te_triples : ∀ l, TriplesOk (teList l)
  | [] => trivial
  | _ :: r => te_triples r
theorem te_append : ∀ l r, teList (l ++ r) = teList l ++ teList r
  | [], _ => rfl
  | e :: l, r => by show _ :: _ :: _ :: teList (l ++ r) = _; rw [te_append l r]; rfl
theorem te_among (pos : Pos) : ∀ l, (codeAmong pos (teList l) = none) ∨ ∃ e ∈ l, e.line = pos.line ∧ e.col = pos.col ∧ codeAmong pos (teList l) = some (.ref e.addr)
  | [] => .inl rfl
  | e :: r => by
    show (if (e.line == pos.line && e.col == pos.col) = true then some (Value.ref e.addr) else codeAmong pos (teList r)) = none ∨ ∃ e' ∈ e :: r, e'.line = pos.line ∧ e'.col = pos.col ∧ (if (e.line == pos.line && e.col == pos.col) = true then some (Value.ref e.addr) else codeAmong pos (teList r)) = some (.ref e'.addr)
    by_cases h : (e.line == pos.line && e.col == pos.col) = true
    · rw [if_pos h]
      right
      simp only [Bool.and_eq_true, beq_iff_eq] at h
      exact ⟨e, .head _, h.1, h.2, rfl⟩
    · rw [if_neg h]
      rcases te_among pos r with k | ⟨e', he, k1, k2, k3⟩
      · exact .inl k
      · exact .inr ⟨e', .tail _ he, k1, k2, k3⟩
/-- the table holds what the text lays down -/
noncomputable def TeOk (qof : Int → Int → Str) (l : List TE) : Prop := ∀ e ∈ l, e.qual = qof e.line e.col
noncomputable def InTab (l : List TE) (ca : Addr) (qual : Str) : Prop := ∃ e ∈ l, e.addr = ca ∧ e.qual = qual

structure Gm (G : Heap) : Prop where
  at' : ∃ mg bm ob, G.Ns mainGlobals mg ∧ mg "__builtins__" = some (.ref bm) ∧ bm ≠ builtinsNs ∧ G.get? bm = some ob ∧ ob.cls = .type "module" ∧ ob.dict = some builtinsNs ∧ ob.data = .plain

noncomputable def FnP (a : FnAst) (qual : Str) (cl : List (Str × Addr)) (ca : Addr) (o : Obj) : Prop := ∃ doc pm an ct, o.data = .func (fnX a.name qual a.params a.body a.scope cl .none .none doc pm an (.ref ca) ct)
structure LamAst where
  params : Arguments
  body : Expr
  scope : Scope
noncomputable def LamP (a : LamAst) (qual : Str) (cl : List (Str × Addr)) (ca : Addr) (o : Obj) : Prop := ∃ pm ct, o.data = .func (kla_fn "<lambda>" qual a.params a.body a.scope cl pm (.ref ca) ct)
noncomputable def IsLam (h : Heap) (f : Addr) (a : LamAst) (qual : Str) (cl : List (Str × Addr)) : Prop := ∃ o pm cdv ct, h.get? f = some o ∧ o.data = .func (kla_fn "<lambda>" qual a.params a.body a.scope cl pm cdv ct) ∧ h.CodeRec cdv qual
theorem IsLam.sub {h h' : Heap} {f a qual cl} (x : IsLam h f a qual cl) (s : Sub h h') : IsLam h' f a qual cl :=
  let ⟨o, pm, cdv, ct, e, d, c⟩ := x
  ⟨o, pm, cdv, ct, s _ _ e, d, let ⟨c, oc, vs, t, p, q, r, u⟩ := c; ⟨c, oc, vs, t, p, s _ _ q, r, u⟩⟩
theorem IsLam.fun {h : Heap} {f a qual cl} (x : IsLam h f a qual cl) : IsFun h f := let ⟨o, _, _, _, e, d, _⟩ := x; ⟨o, _, e, d⟩
theorem codeRec_of' {h : Heap} {ca : Addr} {q : Str} (x : Has h (ca, CodeP q)) : h.CodeRec (.ref ca) q := let ⟨o, e, vs, t, d, k⟩ := x; ⟨ca, o, vs, t, rfl, e, d, k⟩
theorem FnP.is {h : Heap} {f : Addr} {a qual cl ca} (x : Has h (f, FnP a qual cl ca)) (y : Has h (ca, CodeP qual)) : IsFn h f a qual cl :=
  let ⟨o, e, doc, pm, an, ct, d⟩ := x; ⟨o, doc, pm, an, .ref ca, ct, e, d, codeRec_of' y⟩
theorem LamP.is {h : Heap} {f : Addr} {a qual cl ca} (x : Has h (f, LamP a qual cl ca)) (y : Has h (ca, CodeP qual)) : IsLam h f a qual cl :=
  let ⟨o, e, pm, ct, d⟩ := x; ⟨o, pm, .ref ca, ct, e, d, codeRec_of' y⟩

section
variable {prog : Program} {w : World} {A : Around} {G B h h' : Heap} {env : Env} {lo : List (Str × Value)} {nw rest : List Ch} {L : Addr}

/-- growth everywhere but at one owned chunk -/
theorem St.changeGrow {a : Addr} {P P' : Obj → Prop} (S : St G B L h lo nw) (p : Pick (a, P) nw rest) (s : Heap.ExtBut a h h') (k : Has h' (a, P')) : St G B L h' lo ((a, P') :: rest) := by
  have T := S.perm p
  have ha := T.own.1 (a, P) (.head _)
  have hL := T.off (a, P) (.head _)
  have U := S.lose p s
  refine ⟨U.ns, U.gb, U.keep, U.above, ⟨fun c hc => ?_, T.own.2⟩, fun c hc => ?_⟩
  · rcases List.mem_cons.mp hc with rfl | hc
    · exact ⟨k, ha.2⟩
    · exact U.own.1 c hc
  · rcases List.mem_cons.mp hc with rfl | hc
    · exact hL
    · exact U.off c hc

theorem tab_pick {P : Addr} {l : List TE} : Pick (P, TabP l) (tabCh P l ++ rest) (l.map (fun e => (e.addr, CodeP e.qual)) ++ rest) := List.Perm.refl _
theorem tab_snoc {P : Addr} {l : List TE} {e : TE} : ((e.addr, CodeP e.qual) :: (P, TabP (l ++ [e])) :: (l.map (fun e => (e.addr, CodeP e.qual)) ++ rest)).Perm (tabCh P (l ++ [e]) ++ rest) := by
  show List.Perm _ ((P, TabP (l ++ [e])) :: ((l ++ [e]).map (fun e => (e.addr, CodeP e.qual)) ++ rest))
  refine (List.Perm.swap _ _ _).trans (List.Perm.cons _ ?_)
  rw [List.map_append, List.append_assoc]
  exact List.perm_middle.symm
theorem r_makeFn {a : FnAst} {qual : Str} {cl : List (Str × Addr)} {pos : Pos} {fl : Nat} {c P : Addr} {l : List TE} {qof : Int → Int → Str} {Q : Value → Heap → Prop} (gm : Gm G) (S : St G B L h lo (tabCh P l ++ rest)) (hc : CodeHd G c P)
    (ok : TeOk qof l) (hq : qof pos.line pos.col = qual) (hcl : closureFor a.scope env = pure cl) (hg : env.globals = mainGlobals) (hcode : env.code = .ref c)
    (q : ∀ f ca l' h', TeOk qof l' → (∀ e ∈ l, e ∈ l') → InTab l' ca qual → St G B L h' lo ((f, FnP a qual cl ca) :: (tabCh P l' ++ rest)) → Q (.ref f) h') :
    Run prog w A (makeFunction a.name qual a.params (.stmts a.body) a.scope env [] [] [] pos fl) h Q := by
  intro s E Q' es k
  subst es
  obtain ⟨mg, bm, ob, g, b1, b2, b3, b4, b5, b6⟩ := gm.at'
  have hgs := g.keeps S.gh
  have hP : s.heap.get? P = some (tabObj (teList l).toArray) := by
    obtain ⟨o, e, q⟩ := S.has tab_pick
    have q : o = _ := q
    rw [q] at e; exact e
  have hgP : mainGlobals ≠ P := fun q => by
    obtain ⟨o, es, ep, e, hd, _⟩ := hgs
    rw [q, hP] at e; cases e; cases hd
  have hbP : bm ≠ P := fun q => by
    have e := S.gh _ _ b3
    rw [q, hP] at e; cases e; cases b4
  have hbG : bm ≠ mainGlobals := fun q => by
    obtain ⟨o, es, ep, e, hd, _⟩ := g
    rw [q, e] at b3; cases b3; rw [hd] at b6; cases b6
  have hC : CodeHd s.heap c P := hc.keeps S.gh
  have ht : TriplesOk (teList l).toArray.toList := te_triples l
  rcases te_among pos l with hn | ⟨e, he, e1, e2, e3⟩
  · refine makeFunction_K (mg := mg) hcl hg hgs hcode hC hP ht hn hgP ⟨bm, ob, b1, b2, hbG, hbP, S.gh _ _ b3, b4, b5, b6⟩ fun c' ctv doc h' tk hx hge hlt hrec htb => ?_
    have hcn : s.heap.get? c' = none := Heap.get?_none_of_le hge
    have S1 := S.changeGrow tab_pick hx (P' := TabP (l ++ [⟨pos.line, pos.col, c', qual⟩])) ⟨_, htb, by unfold TabP; rw [te_append]; simp [teList]⟩
    obtain ⟨c₂, oc, vs, t, ec, hoc, hd, hv⟩ := hrec
    cases ec
    have S2 : St G B L h' lo ((c', CodeP qual) :: (P, TabP (l ++ [⟨pos.line, pos.col, c', qual⟩])) :: (l.map (fun e => (e.addr, CodeP e.qual)) ++ rest)) := by
      have hcL : c' ≠ L := fun q => by
        obtain ⟨m, hm, _⟩ := S.ns
        exact Nat.lt_irrefl _ (Nat.lt_of_lt_of_le (q ▸ hm.lt) hge)
      refine ⟨S1.ns, S1.gb, S1.keep, S1.above, ⟨fun d hd' => ?_, List.nodup_cons.mpr ⟨fun q => ?_, S1.own.2⟩⟩, fun d hd' => ?_⟩
      · rcases List.mem_cons.mp hd' with rfl | hd'
        · exact ⟨⟨oc, hoc, vs, t, hd, hv⟩, S.keep.none hcn⟩
        · exact S1.own.1 d hd'
      · obtain ⟨d, hd', ed⟩ := List.mem_map.mp q
        have : ∀ d ∈ tabCh P l ++ rest, d.1 ≠ c' := fun d hd' q => by
          obtain ⟨o', e', _⟩ := (S.own.1 d hd').1
          rw [q, hcn] at e'; cases e'
        rcases List.mem_cons.mp hd' with rfl | hd'
        · exact this (P, TabP l) (.head _) ed
        · exact this d (List.mem_cons_of_mem _ hd') ed
      · rcases List.mem_cons.mp hd' with rfl | hd'
        · exact hcL
        · exact S1.off d hd'
    have S3 := (S2.push (fnMade a.name qual a.params a.body a.scope cl doc ((mg "__name__").getD .none) c' ctv) rfl (P := FnP a qual cl c') ⟨doc, _, none, ctv, rfl⟩)
    refine k _ _ ⟨rfl, rfl, rfl⟩ (q _ c' (l ++ [⟨pos.line, pos.col, c', qual⟩]) _ (fun e he => ?_) (fun e he => List.mem_append_left _ he) ⟨⟨pos.line, pos.col, c', qual⟩, List.mem_append_right _ (.head _), rfl, rfl⟩ (S3.perm (List.Perm.cons _ (tab_snoc (P := P) (l := l) (e := ⟨pos.line, pos.col, c', qual⟩) (rest := rest)))))
    rcases List.mem_append.mp he with he | he
    · exact ok e he
    · cases List.mem_singleton.mp he; exact hq.symm
  · refine makeFunction_hit (mg := mg) hcl hg hgs hcode hC hP ht e3 ⟨bm, ob, b1, b2, hbG, hbP, S.gh _ _ b3, b4, b5, b6⟩ fun ctv doc h' tk hk hsz => ?_
    have S1 := (S.grow hk).push { cls := .type "function", data := .func (fnX a.name qual a.params a.body a.scope cl .none .none doc ((mg "__name__").getD .none) none (.ref e.addr) ctv) } rfl (P := FnP a qual cl e.addr) ⟨doc, _, none, ctv, rfl⟩
    exact k _ _ ⟨rfl, rfl, rfl⟩ (q _ e.addr l _ ok (fun _ x => x) ⟨e, he, rfl, by rw [ok e he, e1, e2, hq]⟩ S1)
theorem r_makeLam {a : LamAst} {qual : Str} {cl : List (Str × Addr)} {pos : Pos} {fl : Nat} {c P : Addr} {l : List TE} {qof : Int → Int → Str} {Q : Value → Heap → Prop} (gm : Gm G) (S : St G B L h lo (tabCh P l ++ rest)) (hc : CodeHd G c P)
    (ok : TeOk qof l) (hq : qof pos.line pos.col = qual) (hcl : closureFor a.scope env = pure cl) (hg : env.globals = mainGlobals) (hcode : env.code = .ref c)
    (q : ∀ f ca l' h', TeOk qof l' → (∀ e ∈ l, e ∈ l') → InTab l' ca qual → St G B L h' lo ((f, LamP a qual cl ca) :: (tabCh P l' ++ rest)) → Q (.ref f) h') :
    Run prog w A (makeFunction "<lambda>" qual a.params (.expr a.body) a.scope env [] [] [] pos fl) h Q := by
  intro s E Q' es k
  subst es
  obtain ⟨mg, bm, ob, g, b1, b2, b3, b4, b5, b6⟩ := gm.at'
  have hgs := g.keeps S.gh
  have hP : s.heap.get? P = some (tabObj (teList l).toArray) := by
    obtain ⟨o, e, q⟩ := S.has tab_pick
    have q : o = _ := q
    rw [q] at e; exact e
  have hgP : mainGlobals ≠ P := fun q => by
    obtain ⟨o, es, ep, e, hd, _⟩ := hgs
    rw [q, hP] at e; cases e; cases hd
  have hbP : bm ≠ P := fun q => by
    have e := S.gh _ _ b3
    rw [q, hP] at e; cases e; cases b4
  have hbG : bm ≠ mainGlobals := fun q => by
    obtain ⟨o, es, ep, e, hd, _⟩ := g
    rw [q, e] at b3; cases b3; rw [hd] at b6; cases b6
  have hC : CodeHd s.heap c P := hc.keeps S.gh
  have ht : TriplesOk (teList l).toArray.toList := te_triples l
  rcases te_among pos l with hn | ⟨e, he, e1, e2, e3⟩
  · refine kla_makeFunction (mg := mg) hcl hg hgs hcode hC hP ht hn hgP ⟨bm, ob, b1, b2, hbG, hbP, S.gh _ _ b3, b4, b5, b6⟩ fun c' ctv h' tk hx hge hlt hrec htb => ?_
    have hcn : s.heap.get? c' = none := Heap.get?_none_of_le hge
    have S1 := S.changeGrow tab_pick hx (P' := TabP (l ++ [⟨pos.line, pos.col, c', qual⟩])) ⟨_, htb, by unfold TabP; rw [te_append]; simp [teList]⟩
    obtain ⟨c₂, oc, vs, t, ec, hoc, hd, hv⟩ := hrec
    cases ec
    have S2 : St G B L h' lo ((c', CodeP qual) :: (P, TabP (l ++ [⟨pos.line, pos.col, c', qual⟩])) :: (l.map (fun e => (e.addr, CodeP e.qual)) ++ rest)) := by
      have hcL : c' ≠ L := fun q => by
        obtain ⟨m, hm, _⟩ := S.ns
        exact Nat.lt_irrefl _ (Nat.lt_of_lt_of_le (q ▸ hm.lt) hge)
      refine ⟨S1.ns, S1.gb, S1.keep, S1.above, ⟨fun d hd' => ?_, List.nodup_cons.mpr ⟨fun q => ?_, S1.own.2⟩⟩, fun d hd' => ?_⟩
      · rcases List.mem_cons.mp hd' with rfl | hd'
        · exact ⟨⟨oc, hoc, vs, t, hd, hv⟩, S.keep.none hcn⟩
        · exact S1.own.1 d hd'
      · obtain ⟨d, hd', ed⟩ := List.mem_map.mp q
        have : ∀ d ∈ tabCh P l ++ rest, d.1 ≠ c' := fun d hd' q => by
          obtain ⟨o', e', _⟩ := (S.own.1 d hd').1
          rw [q, hcn] at e'; cases e'
        rcases List.mem_cons.mp hd' with rfl | hd'
        · exact this (P, TabP l) (.head _) ed
        · exact this d (List.mem_cons_of_mem _ hd') ed
      · rcases List.mem_cons.mp hd' with rfl | hd'
        · exact hcL
        · exact S1.off d hd'
    have S3 := (S2.push (kla_obj "<lambda>" qual a.params a.body a.scope cl ((mg "__name__").getD .none) c' ctv) rfl (P := LamP a qual cl c') ⟨_, ctv, rfl⟩)
    refine k _ _ ⟨rfl, rfl, rfl⟩ (q _ c' (l ++ [⟨pos.line, pos.col, c', qual⟩]) _ (fun e he => ?_) (fun e he => List.mem_append_left _ he) ⟨⟨pos.line, pos.col, c', qual⟩, List.mem_append_right _ (.head _), rfl, rfl⟩ (S3.perm (List.Perm.cons _ (tab_snoc (P := P) (l := l) (e := ⟨pos.line, pos.col, c', qual⟩) (rest := rest)))))
    rcases List.mem_append.mp he with he | he
    · exact ok e he
    · cases List.mem_singleton.mp he; exact hq.symm
  · refine kla_makeFunctionHit (mg := mg) hcl hg hgs hcode hC hP ht e3 ⟨bm, ob, b1, b2, hbG, hbP, S.gh _ _ b3, b4, b5, b6⟩ fun ctv h' tk hk hsz => ?_
    have S1 := (S.grow hk).push { cls := .type "function", data := .func (kla_fn "<lambda>" qual a.params a.body a.scope cl ((mg "__name__").getD .none) (.ref e.addr) ctv) } rfl (P := LamP a qual cl e.addr) ⟨_, ctv, rfl⟩
    exact k _ _ ⟨rfl, rfl, rfl⟩ (q _ e.addr l _ ok (fun _ x => x) ⟨e, he, rfl, by rw [ok e he, e1, e2, hq]⟩ S1)

theorem r_Def {a : FnAst} {pos : Pos} {Q : Flow → Heap → Prop}
    (q : Run prog w A (makeFunction a.name (qualnameIn env a.name a.name) a.params (.stmts a.body) a.scope env [] [] [] pos pos.line) h fun v h₁ => Run prog w A (storeName env a.name v) h₁ fun _ h₂ => Q .next h₂)
    (hd0 : a.params.defaults = [] := by rfl) (hk0 : a.params.kw_defaults = [] := by rfl) (ha : annTrees a.params none env = [] := by rfl) :
    Run prog w A (exec (.FunctionDef a.name a.params a.body [] none [] a.scope none a.name pos) env) h Q :=
  fun _ _ _ es k => nestDef_K hd0 hk0 ha (q.wp es fun _ _ r1 q1 => q1.wp rfl fun _ _ r2 q2 => k _ _ (r1.trans r2) q2)
theorem r_Lambda {a : LamAst} {pos : Pos} {Q : Value → Heap → Prop} (q : Run prog w A (makeFunction "<lambda>" (env.qual ++ "<lambda>") a.params (.expr a.body) a.scope env [] [] [] pos pos.line) h Q)
    (hdef : defaultsOf a.params env = ([], []) := by rfl) : Run prog w A (eval (.Lambda a.params a.body a.scope pos) env) h Q :=
  fun _ _ _ es k => kla_eval hdef (q.wp es k)
end
end

/-! ### Q11 -/
noncomputable section
open PySem PySem.W PyProof.Rows
set_option Elab.async false
set_option maxRecDepth 100000

/-! ## an object of the class -/
section
variable {prog : Program} {w : World} {A : Around} {G B h h' : Heap} {K : Frag} {env : Env} {lo : List (Str × Value)} {nw rest : List Ch} {L : Addr}
theorem code_fn {f : Addr} {a : FnAst} {qual : Str} {cl : List (Str × Addr)} {args : List Value} {binds : List (Str × Value)} {sub : List Ch} {R : Value → List Ch → Prop}
    (room : A.depth < recursionLimit) (gl : Gl K G) (gh : Sub G h) (O : Own G h sub) (hf : IsFn h f a qual cl)
    (hbind : ∀ doc pm an cdv ct, bindArgs (fnX a.name qual a.params a.body a.scope cl .none .none doc pm an cdv ct) ⟨args, []⟩ = pure binds)
    (hcell : ∀ x ∈ a.scope.names, x.2 ≠ .cell) (hloc : ∀ x ∈ binds, a.scope.names.lookup x.1 = some .local)
    (hco : a.scope.isCoroutine = false) (hgen : a.scope.isGenerator = false) (hk : a.scope.kind = .function)
    (body : ∀ B L h₁ cdv, Bof h sub B → St G B L h₁ binds.reverse sub →
      Run prog w (A.deeper (envX qual a.scope L f cdv cl)) (execs a.body (envX qual a.scope L f cdv cl)) h₁ fun fl h' => ∃ sub' lo', R (retOf fl) sub' ∧ St G B L h' lo' sub')
    {s : Shared} {R' : Result → Shared → Prop} (es : s.heap = h) (k : ∀ v s' sub', Rest s s' → R v sub' → Post G h sub sub' s'.heap → R' (.ok (.ret v)) s') :
    codeAny (model prog w) A (.call (.ref f) ⟨args, []⟩) R' s := by
  subst es
  obtain ⟨o, doc, pm, an, cdv, ct, ho, hd, hcd⟩ := hf
  have bo := bof_hide s.heap sub
  have gb : Sub G (hideAll s.heap (addrs sub)) := fun b ob eb => bo.keep b ob (gh b ob eb) fun q => by
    obtain ⟨c, hc, ec⟩ := List.mem_map.mp q
    have := (O.1 c hc).2
    rw [ec, eb] at this; cases this
  refine codeAny_call_def (fd := fnX a.name qual a.params a.body a.scope cl .none .none doc pm an cdv ct) (body := a.body) (binds := binds) room ho hd (gl.nolimit.keeps gh) hcd rfl
    (BindsTo.of_eq (hbind _ _ _ _ _)) hcell hloc (fun h₁ hns hk₁ => ?_) hco hgen hk
  have S : St G (hideAll s.heap (addrs sub)) s.heap.objs.size h₁ binds.reverse sub := by
    refine ⟨⟨_, hns, fun x v q => ?_⟩, gb, bo.incl.trans hk₁, Nat.le_of_eq (hideAll_size _ _), ⟨fun c hc => ⟨Sub.has hk₁ (O.1 c hc).1, bo.none _ (List.mem_map_of_mem hc)⟩, O.2⟩, fun c hc => ?_⟩
    · show binds.reverse.lookup x = some v
      rw [lookup_look]; exact q
    · obtain ⟨o', e', _⟩ := (O.1 c hc).1
      exact Nat.ne_of_lt (Heap.lt_size e')
  refine (body _ _ h₁ cdv bo S).wp rfl fun fl s' re q => ?_
  obtain ⟨sub', lo', hr, T⟩ := q
  refine k _ s' sub' ⟨re.1, re.2.1, re.2.2⟩ (by cases fl <;> exact hr) ⟨?_, fun b ob eb nb => T.keep _ _ (bo.keep b ob eb nb), fun c hc => ?_⟩
  · exact T.own.base fun c hc => gb.none (T.own.1 c hc).2
  · have hn := (T.own.1 c hc).2
    by_cases q : c.1 ∈ addrs sub
    · exact .inl q
    · right
      cases z : s.heap.get? c.1 with
      | none => rfl
      | some ob => rw [bo.keep _ _ z q] at hn; cases hn

/-! between the kit's frames and these -/
theorem St.toNews (S : St G B L h lo nw) : ∃ m news, Fr B L h m ∧ (∀ x v, look x lo = some v → m x = some v) ∧ News B L h news ∧ All2 (fun (c : Ch) (p : Addr × Obj) => c.1 = p.1 ∧ c.2 p.2) nw news := by
  obtain ⟨m, hm, hl⟩ := S.ns
  have : ∀ nw : List Ch, (∀ c ∈ nw, Has h c ∧ B.get? c.1 = none) → (∀ c ∈ nw, c.1 ≠ L) → ∃ news, News B L h news ∧ All2 (fun (c : Ch) (p : Addr × Obj) => c.1 = p.1 ∧ c.2 p.2) nw news := by
    intro nw
    induction nw with
    | nil => exact fun _ _ => ⟨[], News.nil, .nil⟩
    | cons c r ih =>
      intro h1 h2
      obtain ⟨news, N, a⟩ := ih (fun c hc => h1 c (.tail _ hc)) (fun c hc => h2 c (.tail _ hc))
      obtain ⟨⟨o, e, q⟩, n⟩ := h1 c (.head _)
      refine ⟨(c.1, o) :: news, fun p hp => ?_, .cons ⟨rfl, q⟩ a⟩
      rcases List.mem_cons.mp hp with rfl | hp
      · exact ⟨e, h2 c (.head _), n⟩
      · exact N p hp
  obtain ⟨news, N, a⟩ := this nw S.own.1 S.off
  exact ⟨m, news, ⟨hm, S.keep, S.above⟩, hl, N, a⟩
theorem all2_addr {nw : List Ch} {news : List (Addr × Obj)} (a : All2 (fun (c : Ch) (p : Addr × Obj) => c.1 = p.1 ∧ c.2 p.2) nw news) : nw.map (·.1) = news.map (·.1) := by
  induction a with
  | nil => rfl
  | cons p _ ih => simp only [List.map_cons, ih, p.1]
theorem all2_mem {α β : Type} {P : α → β → Prop} {l : List α} {r : List β} (a : All2 P l r) : ∀ x ∈ l, ∃ y ∈ r, P x y := by
  induction a with
  | nil => intro x hx; cases hx
  | cons p _ ih =>
    intro x hx
    rcases List.mem_cons.mp hx with rfl | hx
    · exact ⟨_, .head _, p⟩
    · obtain ⟨y, hy, q⟩ := ih x hx; exact ⟨y, .tail _ hy, q⟩
theorem St.ofNews {m : Str → Option Value} {news : List (Addr × Obj)} (gb : Sub G B) (F : Fr B L h m) (hl : ∀ x v, look x lo = some v → m x = some v) (N : News B L h news)
    (a : All2 (fun (c : Ch) (p : Addr × Obj) => c.1 = p.1 ∧ c.2 p.2) nw news) (nd : (nw.map (·.1)).Nodup) : St G B L h lo nw :=
  ⟨⟨m, F.ns, hl⟩, gb, F.keep, F.above, ⟨fun c hc => by
    obtain ⟨p, hp, e, q⟩ := all2_mem a c hc
    exact ⟨⟨p.2, e ▸ (N p hp).1, q⟩, e ▸ (N p hp).2.2⟩, nd⟩, fun c hc => by
    obtain ⟨p, hp, e, q⟩ := all2_mem a c hc
    exact e ▸ (N p hp).2.1⟩

/-! the dict of an object -/
inductive ES : List DictEntry → List (Str × Value) → Prop
  | nil : ES [] []
  | cons {h n t v es l} : ES es l → ES (⟨h, .str n t, v⟩ :: es) ((n, v) :: l)
theorem isStr_str {n name : Str} {t : Tok} : (Value.str n t).isStr name = (n == name) := rfl
theorem ES.len {es l} (x : ES es l) : es.length = l.length := by induction x with | nil => rfl | cons _ ih => simp [ih]
theorem ES.noref {es l} (x : ES es l) : es.any (·.refKey) = false := by
  induction x with
  | nil => rfl
  | cons _ ih => rw [List.any_cons, ih]; rfl
theorem ES.find {es l} (x : ES es l) (name : Str) : (es.find? (·.key.isStr name)).map (·.val) = look name l := by
  induction x with
  | nil => rfl
  | @cons h n t v es l _ ih =>
    rw [List.find?_cons]
    unfold look
    show Option.map _ (match (n == name) with | true => _ | false => _) = _
    by_cases q : n = name
    · subst q; simp
    · have : (n == name) = false := by simpa using q
      rw [this, if_neg q]; exact ih
theorem ES.getL {es l} (x : ES es l) (name : Str) : getL name es = some (look name l) := by
  have h := x.find name
  unfold PySem.W.getL
  cases q : es.find? (·.key.isStr name) with
  | some e => rw [q] at h; rw [← h]; rfl
  | none => rw [q] at h; rw [← h, x.noref]; rfl
theorem ES.putL {es l} (x : ES es l) (name : Str) (hsh : Int) (t : Tok) (v : Value) : ES (putL name hsh (.str name t) v es) (put name v l) := by
  induction x with
  | nil => exact .cons .nil
  | @cons h n t' u es l y ih =>
    unfold PySem.W.putL put
    show ES (if (n == name) = true then _ else _) _
    by_cases q : n = name
    · subst q; simp only [beq_self_eq_true, if_true]; exact .cons y
    · have : (n == name) = false := by simpa using q
      rw [this, if_neg q, if_neg Bool.false_ne_true]; exact .cons ih
theorem put_len (name : Str) (v : Value) : ∀ l : List (Str × Value), (put name v l).length ≤ l.length + 1
  | [] => Nat.le_refl _
  | (y, u) :: r => by
    have := put_len name v r
    unfold put
    split
    · exact Nat.le_succ _
    · simp only [List.length_cons]; lia
noncomputable def InsP (l : List (Str × Value)) (o : Obj) : Prop := ∃ es n, o = dictOf es n ∧ ES es l
noncomputable def InstP (C dx : Addr) (o : Obj) : Prop := o = instObj C dx

theorem r_setAttr {x dx C : Addr} {l : List (Str × Value)} {name : Str} {v : Value} {rest : List Ch} {Q : Unit → Heap → Prop} (gl : Gl K G) (S : St G B L h lo ((dx, InsP l) :: rest)) (hx : Has h (x, InstP C dx))
    (hs : findIn K (.ref C) "__setattr__" = some (some (.builtin "object.__setattr__"))) (hp : plainOver K C = true) (ht : takerIn K C name = some none) (hh : hasDictIn K C = true) (hz : l.length ≤ 900)
    (q : ∀ h', St G B L h' lo ((dx, InsP (put name v l)) :: rest) → Q () h') : Run prog w A (setAttr (.ref x) name v) h Q := by
  intro s E Q' es k
  subst es
  obtain ⟨m, news, F, hl, N, a⟩ := S.toNews
  cases a with
  | @cons _ p _ ps ap a =>
    obtain ⟨e1, es, n, e2, E2⟩ := ap
    obtain ⟨dx', o⟩ := p
    dsimp only at e1 e2
    subst e1 e2
    obtain ⟨ox, hox, rfl⟩ := hx
    have hnd := S.own.2
    have I : InstAt s.heap x (instObj C dx) C (some (dictOf es n)) := ⟨hox, rfl, rfl, (N _ (.head _)).1⟩
    have hlen : (PySem.W.putL name (PyData.keyHash w.params name) (.str name (s.toks + 1)) v es).length ≤ 1000 := by
      rw [(E2.putL name (PyData.keyHash w.params name) (s.toks + 1) v).len]
      have := put_len name v l
      lia
    refine set_dict (prog := prog) (w := w) (K := K) (h₀ := B) F (gl.kin.keeps S.gb) N I rfl hs hp ht hh (by rw [E2.getL]; rfl) rfl (.head fun p hp => ?_) hlen
      fun h' F' N' => k _ _ ⟨rfl, rfl, rfl⟩ (q h' (.ofNews S.gb F' hl N' (.cons ⟨rfl, _, _, rfl, E2.putL _ _ _ _⟩ a) hnd))
    intro e
    have := all2_addr a
    refine (List.nodup_cons.mp hnd).1 ?_
    show dx ∈ rest.map (·.1)
    rw [this]
    exact List.mem_map.mpr ⟨p, hp, e⟩
theorem r_AssignAttr {o : Expr} {attr : Str} {pos' pos : Pos} {value : Expr} {Q : Flow → Heap → Prop}
    (q : Run prog w A (eval value env) h fun v h₁ => Run prog w A (eval o env) h₁ fun ov h₂ => Run prog w A (setAttr ov attr v) h₂ fun _ h₃ => Q .next h₃)
    (hs : swapsWith value (some (.Attribute o attr pos')) pos.line env = pure false := by rfl) : Run prog w A (exec (.Assign [.Attribute o attr pos'] value pos) env) h Q :=
  fun _ _ _ es k => plainObj_wpAny_Assign_Attribute (q.wp es fun _ _ r1 q1 => q1.wp rfl fun _ _ r2 q2 => q2.wp rfl fun _ _ r3 q3 => k _ _ ((r1.trans r2).trans r3) q3) hs
end
end

/-! ### W6 -/
noncomputable section
open PySem PySem.W PyProof.Rows
set_option Elab.async false
set_option maxRecDepth 100000
theorem weight_make (C : Addr) (rest : List Value) (kw : List (Str × Value)) : (Code.builtin "type.__call__" ⟨.ref C :: rest, kw⟩).weight = 1 := by kernel_rfl
theorem units_make (C : Addr) (rest : List Value) (kw : List (Str × Value)) : (Code.builtin "type.__call__" ⟨.ref C :: rest, kw⟩).cUnits = 1 := by kernel_rfl
theorem Room.make {A : Around} {k : Nat} (r : Room A (k + 1)) (C : Addr) (rest : List Value) (kw : List (Str × Value)) : Room (A.under (.builtin "type.__call__" ⟨.ref C :: rest, kw⟩)) k :=
  ⟨r.hd, by have := r.depth; show A.depth + (Code.builtin "type.__call__" ⟨.ref C :: rest, kw⟩).weight + k < 900; rw [weight_make]; lia,
    by have := r.units; show A.units + (Code.builtin "type.__call__" ⟨.ref C :: rest, kw⟩).cUnits + 10 * k < 9000; rw [units_make]; lia⟩
noncomputable def QFields (c : QF) : List (Str × Value) := [("get", .ref c.get), ("put", .ref c.put), ("less", .ref c.less), ("hold", .ref c.hold), ("drop", .ref c.drop)]
section
variable {prog : Program} {w : World} {A : Around} {G B h h' : Heap} {K : Frag} {env : Env} {lo : List (Str × Value)} {nw rest : List Ch} {L : Addr}
set_option maxHeartbeats 4000000 in
theorem init_spec (kf : KF K) (gl : Gl K G) {x dx : Addr} {c : QF} (room : Room A 3) (gh : Sub G h) (O : Own G h [(dx, InsP []), (x, InstP 93 dx)])
    {s : Shared} {R : Result → Shared → Prop} (es : s.heap = h) (k : ∀ v s' sub', Rest s s' → (v = .none ∧ sub' = [(dx, InsP (QFields c)), (x, InstP 93 dx)]) → Post G h [(dx, InsP []), (x, InstP 93 dx)] sub' s'.heap → R (.ok (.ret v)) s') :
    codeAny (model prog w) A (.call (.ref 48) ⟨[.ref x, .ref c.get, .ref c.put, .ref c.less, .ref c.hold, .ref c.drop], []⟩) R s := by
  refine code_fn (R := fun v sub' => v = .none ∧ sub' = [(dx, InsP (QFields c)), (x, InstP 93 dx)]) (binds := [("self", .ref x), ("get", .ref c.get), ("put", .ref c.put), ("less", .ref c.less), ("hold", .ref c.hold), ("drop", .ref c.drop)]) room.lt gl gh O (kf.f_init h (gl.kin.keeps gh)) (by intros; rfl) (by decide) (locs rfl) rfl rfl rfl ?_ es k
  intro B L h₁ cdv bo S
  refine r_cons (r_AssignAttr (r_local S rfl (r_local S rfl ?_)))
  refine r_setAttr gl S (S.has Pick.head.tail) kf.setattr kf.plain kf.k_get kf.hasd (Nat.le_of_ble_eq_true rfl) fun h S => ?_
  walk_at "nx"
  refine r_AssignAttr (r_local S rfl (r_local S rfl ?_))
  refine r_setAttr gl S (S.has Pick.head.tail) kf.setattr kf.plain kf.k_put kf.hasd (Nat.le_of_ble_eq_true rfl) fun h S => ?_
  walk_at "nx"
  refine r_AssignAttr (r_local S rfl (r_local S rfl ?_))
  refine r_setAttr gl S (S.has Pick.head.tail) kf.setattr kf.plain kf.k_less kf.hasd (Nat.le_of_ble_eq_true rfl) fun h S => ?_
  walk_at "nx"
  refine r_AssignAttr (r_local S rfl (r_local S rfl ?_))
  refine r_setAttr gl S (S.has Pick.head.tail) kf.setattr kf.plain kf.k_hold kf.hasd (Nat.le_of_ble_eq_true rfl) fun h S => ?_
  walk_at "nx"
  refine r_AssignAttr (r_local S rfl (r_local S rfl ?_))
  refine r_setAttr gl S (S.has Pick.head.tail) kf.setattr kf.plain kf.k_drop kf.hasd (Nat.le_of_ble_eq_true rfl) fun h S => ?_
  exact onw (r_nil ⟨_, _, ⟨rfl, rfl⟩, S⟩)
theorem r_new (kf : KF K) (gl : Gl K G) {c : QF} (room : Room A 4) (S : St G B L h lo nw) {Q : Value → Heap → Prop}
    (q : ∀ x dx h', St G B L h' lo ((dx, InsP (QFields c)) :: (x, InstP 93 dx) :: nw) → Q (.ref x) h') :
    Run prog w A (call (.ref 93) [.ref c.get, .ref c.put, .ref c.less, .ref c.hold, .ref c.drop]) h Q := by
  intro s E Q' es k
  subst es
  obtain ⟨m, news, F, hl, N, a⟩ := S.toNews
  refine call_cls (K := K) (h₀ := B) F (gl.kin.keeps S.gb) N kf.makes kf.m_init kf.i_init fun x dx h' F' N' l1 l2 => ?_
  have S1 : St G B L h' lo ((dx, InsP []) :: (x, InstP 93 dx) :: nw) := by
    refine St.perm (nw := (x, InstP 93 dx) :: (dx, InsP []) :: nw) (.ofNews S.gb F' hl N' (.cons ⟨rfl, rfl⟩ (.cons ⟨rfl, [], 0, rfl, .nil⟩ a)) ?_) (List.Perm.swap _ _ _)
    have e := all2_addr a
    show (x :: dx :: nw.map (·.1)).Nodup
    have lt : ∀ b ∈ nw.map (·.1), b < dx := fun b hb => by
      rw [e] at hb
      obtain ⟨p, hp, rfl⟩ := List.mem_map.mp hb
      exact l1 p hp
    refine List.nodup_cons.mpr ⟨fun q => ?_, List.nodup_cons.mpr ⟨fun q => Nat.lt_irrefl _ (lt _ q), S.own.2⟩⟩
    rcases List.mem_cons.mp q with rfl | q
    · exact Nat.lt_irrefl _ l2
    · exact Nat.lt_irrefl _ (Nat.lt_trans (lt _ q) l2)
  have O := own_g (S1.drop (nw := [(dx, InsP []), (x, InstP 93 dx)]) (rest := nw))
  exact init_spec (c := c) kf gl (room.make 93 _ _) S1.gh O rfl fun v s' sub' re ⟨e1, e2⟩ P => by
    subst e1 e2
    exact ⟨rfl, k _ _ ⟨re.1, re.2.1, re.2.2⟩ (q x dx s'.heap (St.callee2 (sub := [(dx, InsP []), (x, InstP 93 dx)]) (rest := nw) S1 P))⟩
theorem isQ_of {x dx : Addr} {c : QF} (h1 : Has h (dx, InsP (QFields c))) (h2 : Has h (x, InstP 93 dx)) : IsQ h x c := by
  obtain ⟨o, e, es, n, rfl, E⟩ := h1
  obtain ⟨o', e', rfl⟩ := h2
  refine ⟨dx, _, es, n, e', e, ?_⟩
  simp only [QVals, E.getL]
  exact ⟨rfl, rfl, rfl, rfl, rfl, rfl, rfl, rfl, rfl, rfl, rfl⟩
end
end

/-! ### Q12 -/
noncomputable section
open PySem PySem.W PyProof.Rows
set_option Elab.async false
set_option maxRecDepth 100000

section
variable {prog : Program} {w : World} {A : Around} {G B h h' : Heap} {K : Frag} {env : Env} {lo : List (Str × Value)} {nw rest : List Ch} {L : Addr}
/-! ## enumerate -/
theorem c_enum {l : Addr} {items : List Value} {Q : Value → Heap → Prop} (S : St G B L h lo nw) (hl : Has h (l, LstP items))
    (q : ∀ e it h', e ≠ it → St G B L h' lo ((e, EnP it 0) :: (it, LiP l 0) :: nw) → Q (.ref e) h') : Run prog w A (call (.type "enumerate") [.ref l]) h Q := by
  intro s E Q' es k
  subst es
  obtain ⟨n, hl⟩ := LstP.at hl
  refine call_enumerate_1 hl fun h' he hi hsz hk => k _ _ ⟨rfl, rfl, rfl⟩ (q _ s.heap.objs.size h' (Nat.ne_of_gt (Nat.lt_succ_self _)) ?_)
  have S1 := (S.grow hk)
  have n1 : s.heap.get? s.heap.objs.size = none := size_none _
  have n2 : s.heap.get? (s.heap.objs.size + 1) = none := Heap.get?_none_of_le (Nat.le_succ _)
  obtain ⟨oi, hoi, ci, di⟩ := hi
  have Sa := S.alloc hk n1 hoi (P := LiP l 0) ⟨ci, di⟩
  have hLs : L < s.heap.objs.size := let ⟨m, hm, _⟩ := S.ns; hm.lt
  refine ⟨Sa.ns, Sa.gb, Sa.keep, Sa.above, ⟨fun c hc => ?_, List.nodup_cons.mpr ⟨fun q => ?_, Sa.own.2⟩⟩, fun c hc => ?_⟩
  · rcases List.mem_cons.mp hc with rfl | hc
    · exact ⟨⟨_, he, .none, rfl⟩, S.keep.none n2⟩
    · exact Sa.own.1 c hc
  · obtain ⟨c, hc, e⟩ := List.mem_map.mp q
    rcases List.mem_cons.mp hc with rfl | hc
    · exact Nat.ne_of_lt (Nat.lt_succ_self _) e
    · obtain ⟨o', e', _⟩ := (S.own.1 c hc).1
      have e : c.1 = s.heap.objs.size + 1 := e
      rw [e, n2] at e'; cases e'
  · rcases List.mem_cons.mp hc with rfl | hc
    · exact Nat.ne_of_gt (Nat.lt_succ_of_lt hLs)
    · exact Sa.off c hc
theorem en_again {e it : Addr} {i : Int} {Q : Value → Heap → Prop} (x : Has h (e, EnP it i)) (q : Q (.ref e) h) : Run prog w A (pyIter (.ref e)) h Q := by
  intro s E Q' es k
  subst es
  obtain ⟨o, he, old, rfl⟩ := x
  exact wpAny_pyIter_enum he (k _ _ (Rest.refl _) q)
noncomputable def EnOutP (it : Addr) (i : Int) (a : Addr) (o : Obj) : Prop := ∃ item, o = { cls := .type "enumerate", dict := none, data := .fields #[rawInt a, .bool false, .ref it, rawInt i, .none, item], slots := #[] }
theorem en_next {e it l : Addr} {i : Nat} {items : List Value} {v : Value} {Q : Option Value → Heap → Prop} (S : St G B L h lo ((e, EnP it i) :: (it, LiP l i) :: nw)) (hl : h.IsList l items.toArray) (hi : items[i]? = some v)
    (q : ∀ a t h', St G B L h' lo ((e, EnOutP it ((i + 1 : Nat) : Int) a) :: (it, LiP l (i + 1)) :: (a, TupP [.int i t, v]) :: nw) → Q (some (.ref a)) h') : Run prog w A (pyNext (.ref e)) h Q := by
  intro s E Q' es k
  subst es
  obtain ⟨o, he, old, rfl⟩ := S.own.has
  have hit : s.heap.IsListIter it l i := S.has (Pick.head.tail)
  have hne : e ≠ it := fun q => (List.nodup_cons.mp S.own.2).1 (by rw [List.map_cons]; exact q ▸ List.mem_cons_self)
  refine wpAny_pyNext_enum_item he hit hl (by simpa using hi) hne fun h' h1 h2 h3 h4 h5 => k _ _ ⟨rfl, rfl, rfl⟩ (q s.heap.objs.size s.toks h' ?_)
  have n1 : s.heap.get? s.heap.objs.size = none := size_none _
  have hG : ∀ a, s.heap.get? a = none → G.get? a = none := fun a ha => S.gh.none ha
  have P : Post G s.heap [(e, EnP it i), (it, LiP l i)] [(e, EnOutP it ((i + 1 : Nat) : Int) s.heap.objs.size), (it, LiP l (i + 1)), (s.heap.objs.size, TupP [.int i s.toks, v])] h' := by
    have O := own_gl (sub := [(e, EnP it i), (it, LiP l i)]) (rest := nw) S
    have ge := O.1 (e, EnP it i) (.head _)
    have gi := O.1 (it, LiP l i) (.tail _ (.head _))
    refine ⟨⟨fun c hc => ?_, ?_⟩, fun b o eb hb => ?_, fun c hc => ?_⟩
    · rcases List.mem_cons.mp hc with rfl | hc
      · exact ⟨⟨_, h1, v, rfl⟩, ge.2⟩
      · rcases List.mem_cons.mp hc with rfl | hc
        · exact ⟨h2, gi.2⟩
        · cases List.mem_singleton.mp hc
          exact ⟨⟨_, h3, 0, rfl⟩, hG _ n1⟩
    · have l1 : e < s.heap.objs.size := Heap.lt_size he
      have l2 : it < s.heap.objs.size := let ⟨oi, hoi, _⟩ := hit; Heap.lt_size hoi
      show ([e, it, s.heap.objs.size] : List Addr).Nodup
      simp only [List.nodup_cons, List.mem_cons, List.not_mem_nil, or_false, not_or, not_false_eq_true, List.nodup_nil, and_true]
      exact ⟨⟨hne, Nat.ne_of_lt l1⟩, Nat.ne_of_lt l2⟩
    · refine h5 b o (fun q => hb ?_) (fun q => hb ?_) eb
      · subst q; exact List.mem_cons_self
      · subst q; exact List.mem_cons_of_mem _ List.mem_cons_self
    · rcases List.mem_cons.mp hc with rfl | hc
      · exact .inl List.mem_cons_self
      · rcases List.mem_cons.mp hc with rfl | hc
        · exact .inl (List.mem_cons_of_mem _ List.mem_cons_self)
        · cases List.mem_singleton.mp hc
          exact .inr n1
  exact St.callee2 (sub := [(e, EnP it i), (it, LiP l i)]) (rest := nw) S P
theorem en_end {e it l : Addr} {i : Nat} {items : List Value} {Q : Option Value → Heap → Prop} (hh : A.handled = none) (S : St G B L h lo ((e, EnP it i) :: (it, LiP l i) :: nw)) (hl : h.IsList l items.toArray) (hi : items[i]? = none)
    (q : ∀ h', St G B L h' lo nw → Q none h') : Run prog w A (pyNext (.ref e)) h Q := by
  intro s E Q' es k
  subst es
  obtain ⟨o, he, old, rfl⟩ := S.own.has
  have hit : s.heap.IsListIter it l i := S.has (Pick.head.tail)
  exact wpAny_pyNext_enum_end hh he hit hl (by simpa using hi) fun h' hx => k _ _ ⟨rfl, rfl, rfl⟩ (q h' (S.lose (Pick.head.tail) hx).drop1)
theorem en_owned {e it a : Addr} {i : Int} {elts : List Expr} {n : Nat} {pos : Pos} {Q : Unit → Heap → Prop} (S : St G B L h lo nw) (p : Pick (e, EnOutP it i a) nw rest) (q : ∀ h', St G B L h' lo ((e, EnP it i) :: rest) → Q () h') :
    Run prog w A (letOwnedTupleGo (.Tuple elts n pos) (.ref e) (.ref a)) h Q := by
  intro s E Q' es k
  subst es
  obtain ⟨o, he, item, rfl⟩ := S.has p
  exact wpAny_letOwnedTupleGo_enum (show IsEnumOut s.heap e it i item a from he) fun h' h1 h2 => k _ _ ⟨rfl, rfl, rfl⟩ (q h' (S.change p h2 ⟨_, h1, item, rfl⟩))

/-! ## list(x), slices -/
theorem c_list {l : Addr} {items : List Value} {Q : Value → Heap → Prop} (S : St G B L h lo nw) (hl : h.IsList l items.toArray) (hz : items.length ≤ 100000)
    (q : ∀ a h', St G B L h' lo ((a, LstP items) :: nw) → Q (.ref a) h') : Run prog w A (call (.type "list") [.ref l]) h Q := by
  intro s E Q' es k
  subst es
  obtain ⟨o, ho, hc, n, hd⟩ := hl
  exact call_list_seq l (.inl rfl) ho hc hd (fun h' c' hk hn => k _ _ ⟨rfl, rfl, rfl⟩ (q _ h' (S.alloc hk (size_none _) hn ⟨c', rfl⟩))) (by rw [List.size_toArray, PySem.sizeLine_eq]; lia)
theorem c_listRange {r : Addr} {n : Nat} {Q : Value → Heap → Prop} (hh : A.handled = none) (hn : n ≤ 1000) (S : St G B L h lo nw) (hr : Has h (r, RngP n))
    (q : ∀ a items h', items.length = n → (∀ i < n, ∃ t, items[i]? = some (.int i t)) → St G B L h' lo ((a, LstP items) :: nw) → Q (.ref a) h') : Run prog w A (call (.type "list") [.ref r]) h Q := by
  intro s E Q' es k
  subst es
  obtain ⟨o, e, t, u, v, rfl⟩ := hr
  refine call_list_range (n := n) hh e (small_one (by lia) (by lia) (by lia) (by lia)) (by rw [rangeSize_nat']) (by lia) fun h' tk acc c' hk hS it => k _ _ ⟨rfl, rfl, rfl⟩ (q _ acc.toList h' (by simpa using it.1) (fun i hi => ?_) (S.alloc hk (size_none _) hS ⟨c', by simp⟩))
  have hlt : i < acc.size := it.1 ▸ hi
  obtain ⟨t, ht⟩ := it.2 i acc[i] (by simp [hlt])
  refine ⟨t, ?_⟩
  rw [Int.zero_add, Int.mul_one] at ht
  simp [hlt, ht]
end

theorem sum_count {α : Type} [BEq α] [LawfulBEq α] (a : α) (l : List α) : (l.map fun b => if (b == a) = true then 1 else 0).sum = l.count a := by
  induction l with
  | nil => rfl
  | cons b r ih => rw [List.map_cons, List.sum_cons, List.count_cons, ih]; lia
theorem perm_by {α : Type} {l r : List α} (h : ∀ f : α → Nat, (l.map f).sum = (r.map f).sum) : l.Perm r := by
  classical
  rw [List.perm_iff_count]
  intro a
  rw [← sum_count a l, ← sum_count a r]
  exact h _
end

/-! ### W7 -/
noncomputable section
open PySem PySem.W PyProof.Rows
set_option Elab.async false
set_option maxRecDepth 100000

/-! ## the closures of _law_sorted -/
noncomputable def sortedS (i : Nat) : FnAst := fnOfS (A_sorted.body.getD i (.Pass ⟨0, 0, 0, 0⟩))
noncomputable def A_read : FnAst := sortedS 2
noncomputable def A_write : FnAst := sortedS 3
noncomputable def A_ask : FnAst := sortedS 4
noncomputable def A_hold : FnAst := sortedS 5
noncomputable def A_drop : FnAst := sortedS 6

noncomputable def deedName : Nat → Str
  | 0 => "read"
  | 1 => "written"
  | 2 => "held"
  | _ => "dropped"
inductive DeedsAre : List Value → List Ch → List (Nat × Int) → Prop
  | nil : DeedsAre [] [] []
  | cons {p : Addr} {t u : Tok} {c : Nat} {k : Int} {refs bag ds} : DeedsAre refs bag ds → DeedsAre (.ref p :: refs) ((p, TupP [.str (deedName c) t, .int k u]) :: bag) ((c, k) :: ds)
theorem DeedsAre.snoc {refs bag ds} (x : DeedsAre refs bag ds) (p : Addr) (t u : Tok) (c : Nat) (k : Int) : DeedsAre (refs ++ [.ref p]) (bag ++ [(p, TupP [.str (deedName c) t, .int k u])]) (ds ++ [(c, k)]) := by
  induction x with
  | nil => exact .cons .nil
  | cons _ ih => exact .cons ih
theorem DeedsAre.len {refs bag ds} (x : DeedsAre refs bag ds) : refs.length = ds.length := by
  induction x with
  | nil => rfl
  | cons _ ih => simp [ih]

structure Cells where
  lie : Addr
  deeds : Addr
  ans : Addr
noncomputable def boolV (l : List Bool) : List Value := l.map Value.bool
structure ArOk (a : Cells) (fst : Int) (val : Nat → Value) (SR : List Bool → List Ch → Prop) (ps : PS) (sub : List Ch) (n : Nat) (f : Int → Option Value) (refs : List Value) (bag subL : List Ch) : Prop where
  p : sub.Perm ((a.lie, MapP f n) :: (a.deeds, LstP refs) :: (a.ans, LstP (boolV ps.ans)) :: (bag ++ subL))
  hn : n ≤ 1000 + ps.deeds.length
  hf : ∀ (p i : Nat), ps.lie[p]? = some i → f (fst + p) = some (val i)
  dd : DeedsAre refs bag ps.deeds
  sr : SR ps.ans subL
/-- the arena -/
noncomputable def AR (a : Cells) (fst : Int) (val : Nat → Value) (SR : List Bool → List Ch → Prop) (ps : PS) (sub : List Ch) : Prop :=
  ∃ n f refs bag subL, ArOk a fst val SR ps sub n f refs bag subL

noncomputable def LessOk (prog : Program) (w : World) (G : Heap) (less : Addr) (val : Nat → Value) (o : Ora) (SR : List Bool → List Ch → Prop) : Prop :=
  IsFun G less ∧ ∀ {A h sub ans i j}, Room A 6 → Sub G h → Own G h sub → SR ans sub →
    Run prog w A (call (.ref less) [val i, val j]) h fun v h' => ∃ sub', (v = .bool (o ans i j) ∧ SR (ans ++ [o ans i j]) sub') ∧ Post G h sub sub' h'

theorem isCell_sub {G h : Heap} (s : Sub G h) {c : Addr} {v : Option Value} (x : G.IsCell c v) : h.IsCell c v := let ⟨o, e, q⟩ := x; ⟨o, s _ _ e, q⟩

section
variable {prog : Program} {w : World} {A : Around} {G B h h' : Heap} {K : Frag} {env : Env} {lo : List (Str × Value)} {nw rest : List Ch} {L : Addr}
theorem r_freeG {x : Str} {pos : Pos} {c : Addr} {v : Value} {Q : Value → Heap → Prop} (gh : Sub G h) (hv : G.IsCell c (some v)) (hc : env.cells.lookup x = some c) (q : Q v h)
    (hk : env.scope.kind = .function := by rfl) (hl : env.kindOf x = some .free := by rfl) (hd : (x == ("__debug__" : Str)) = false := by decide) (hn : (x == ("__classdict__" : Str)) = false := by decide) :
    Run prog w A (eval (.Name x pos) env) h Q := r_free hc (isCell_sub gh hv) q hk hl hd hn
theorem r_USub {x : Expr} {pos : Pos} {Q : Value → Heap → Prop} (q : Run prog w A (eval x env) h fun v h' => ∃ i t, v = .int i t ∧ ∀ u, Q (.int (-i) u) h') : Run prog w A (eval (.UnaryOp .USub x pos) env) h Q :=
  fun _ _ _ es k => wpAny_UnaryOp (q.wp es fun v s' r1 ⟨i, t, e, q1⟩ => by subst e; exact PyProof.Rows.neg_int (k _ _ ⟨r1.1, r1.2.1, r1.2.2⟩ (q1 _)))
end

/-- what the five stand on -/
structure Clo (prog : Program) (w : World) (K : Frag) (G : Heap) (c : QF) (fst : Int) (val : Nat → Value) (o : Ora) (SR : List Bool → List Ch → Prop) (a : Cells) (less cI cF cL cA cD : Addr) (tF : Tok) : Prop where
  gl : Gl K G
  ok : LessOk prog w G less val o SR
  hI : G.IsCell cI (some (.ref a.lie))
  hF : G.IsCell cF (some (.int fst tF))
  hL : G.IsCell cL (some (.ref less))
  hA : G.IsCell cA (some (.ref a.ans))
  hD : G.IsCell cD (some (.ref a.deeds))
  f1 : IsFn G c.get A_read "_law_sorted.<locals>.read" [("lie", cI), ("first", cF), ("deeds", cD)]
  f2 : IsFn G c.put A_write "_law_sorted.<locals>.write" [("lie", cI), ("first", cF), ("deeds", cD)]
  f3 : IsFn G c.less A_ask "_law_sorted.<locals>.ask" [("less", cL), ("answers", cA)]
  f4 : IsFn G c.hold A_hold "_law_sorted.<locals>.hold" [("deeds", cD)]
  f5 : IsFn G c.drop A_drop "_law_sorted.<locals>.drop" [("deeds", cD)]

theorem bag_perm {a b c d : Ch} {bag subL : List Ch} : (b :: d :: a :: c :: (bag ++ subL)).Perm (a :: b :: c :: ((bag ++ [d]) ++ subL)) := by
  refine ((List.Perm.cons b (List.Perm.swap a d _)).trans (List.Perm.swap a b _)).trans (List.Perm.cons a (List.Perm.cons b ?_))
  refine (List.Perm.swap c d _).trans (List.Perm.cons c ?_)
  rw [List.append_assoc]
  exact List.perm_middle.symm
section
variable {prog : Program} {w : World} {G : Heap} {K : Frag} {c : QF} {fst : Int} {val : Nat → Value} {o : Ora} {SR : List Bool → List Ch → Prop} {a : Cells} {less cI cF cL cA cD : Addr} {tF : Tok}
set_option maxHeartbeats 4000000 in
theorem clo_hold (q : Clo prog w K G c fst val o SR a less cI cF cL cA cD tF) {A : Around} {h : Heap} {sub : List Ch} {ps : PS} {v : Value} (room : Room A 8) (gh : Sub G h) (O : Own G h sub) (ar : AR a fst val SR ps sub) (ft : Fit ps) :
    Run prog w A (call (.ref c.hold) [v]) h fun v h' => ∃ sub', (v = .none ∧ AR a fst val SR (hold ps) sub') ∧ Post G h sub sub' h' := by
  refine call_fn (binds := [("value", v)]) room.lt q.gl gh O (q.f4.sub gh) (by intros; rfl) (by decide) (locs rfl) rfl rfl rfl ?_
  intro B L h₁ cdv bo S
  obtain ⟨n, f, refs, bag, subL, ⟨p, hn, hf, dd, sr⟩⟩ := ar
  have S := S.perm p
  clear p O gh bo
  refine Run.gen fun Q hQ => ?_
  refine r_cons (r_Expr ?_)
  refine r_Method ?_
  refine r_freeG S.gh q.hD rfl ?_
  refine l_method (name := "append") (S.has Pick.head.tail) PySem.F.slot_list_append (by kernel_rfl) ?_
  refine r_blt ?_
  refine r_args ?_
  refine r_Tuple ?_
  refine r_args (r_str fun t => ?_)
  refine r_args (r_int fun u => ?_)
  refine r_args0 ?_
  refine r_newTuple S fun pt h S => ?_
  refine r_args0 ?_
  refine l_append S Pick.head.tail.tail (by rw [dd.len]; have := ft.1; lia) fun h S => ⟨rfl, ?_⟩
  refine onw (r_nil (hQ _ _ ?_))
  refine ⟨_, _, ⟨rfl, n, f, refs ++ [.ref pt], bag ++ [(pt, TupP [.str "held" t, .int 0 u])], subL, bag_perm, ?_, hf, dd.snoc pt t u 2 0, sr⟩, S⟩
  show n ≤ 1000 + (ps.deeds ++ [(2, 0)]).length
  rw [List.length_append, List.length_singleton]; lia
set_option maxHeartbeats 4000000 in
theorem clo_drop (q : Clo prog w K G c fst val o SR a less cI cF cL cA cD tF) {A : Around} {h : Heap} {sub : List Ch} {ps : PS} (room : Room A 8) (gh : Sub G h) (O : Own G h sub) (ar : AR a fst val SR ps sub) (ft : Fit ps) :
    Run prog w A (call (.ref c.drop) []) h fun v h' => ∃ sub', (v = .none ∧ AR a fst val SR (drop ps) sub') ∧ Post G h sub sub' h' := by
  refine call_fn (binds := []) room.lt q.gl gh O (q.f5.sub gh) (by intros; rfl) (by decide) (locs rfl) rfl rfl rfl ?_
  intro B L h₁ cdv bo S
  obtain ⟨n, f, refs, bag, subL, ⟨p, hn, hf, dd, sr⟩⟩ := ar
  have S := S.perm p
  clear p O gh bo
  refine Run.gen fun Q hQ => ?_
  refine r_cons (r_Expr ?_)
  refine r_Method ?_
  refine r_freeG S.gh q.hD rfl ?_
  refine l_method (name := "append") (S.has Pick.head.tail) PySem.F.slot_list_append (by kernel_rfl) ?_
  refine r_blt ?_
  refine r_args ?_
  refine r_Tuple ?_
  refine r_args (r_str fun t => ?_)
  refine r_args (r_int fun u => ?_)
  refine r_args0 ?_
  refine r_newTuple S fun pt h S => ?_
  refine r_args0 ?_
  refine l_append S Pick.head.tail.tail (by rw [dd.len]; have := ft.1; lia) fun h S => ⟨rfl, ?_⟩
  refine onw (r_nil (hQ _ _ ?_))
  refine ⟨_, _, ⟨rfl, n, f, refs ++ [.ref pt], bag ++ [(pt, TupP [.str "dropped" t, .int 0 u])], subL, bag_perm, ?_, hf, dd.snoc pt t u 3 0, sr⟩, S⟩
  show n ≤ 1000 + (ps.deeds ++ [(3, 0)]).length
  rw [List.length_append, List.length_singleton]; lia
set_option maxHeartbeats 4000000 in
theorem clo_get (q : Clo prog w K G c fst val o SR a less cI cF cL cA cD tF) {A : Around} {h : Heap} {sub : List Ch} {ps ps' : PS} {at_ : Int} {t : Tok} {i : Nat} (room : Room A 8) (gh : Sub G h) (O : Own G h sub) (ar : AR a fst val SR ps sub) (e : rd at_ ps = some (i, ps')) :
    Run prog w A (call (.ref c.get) [.int (fst + at_) t]) h fun v h' => ∃ sub', (v = val i ∧ AR a fst val SR ps' sub') ∧ Post G h sub sub' h' := by
  unfold rd at e
  split at e
  case isFalse => cases e
  rename_i hc
  obtain ⟨i', e1, e2⟩ := Option.map_eq_some_iff.mp e
  cases e2
  refine call_fn (binds := [("at", .int (fst + at_) t)]) room.lt q.gl gh O (q.f1.sub gh) (by intros; rfl) (by decide) (locs rfl) rfl rfl rfl ?_
  intro B L h₁ cdv bo S
  obtain ⟨n, f, refs, bag, subL, ⟨p, hn, hf, dd, sr⟩⟩ := ar
  have S := S.perm p
  clear p O gh bo
  refine Run.gen fun Q hQ => ?_
  refine r_cons (r_Expr ?_)
  refine r_Method ?_
  refine r_freeG S.gh q.hD rfl ?_
  refine l_method (name := "append") (S.has Pick.head.tail) PySem.F.slot_list_append (by kernel_rfl) ?_
  refine r_blt ?_
  refine r_args ?_
  refine r_Tuple ?_
  refine r_args (r_str fun t => ?_)
  refine r_args ?_
  refine r_BinOp (r_local S rfl ?_)
  refine r_freeG S.gh q.hF rfl ?_
  refine r_sub fun u => ?_
  rw [show fst + at_ - fst = at_ by lia]
  refine r_args0 ?_
  refine r_newTuple S fun pt h S => ?_
  refine r_args0 ?_
  refine l_append S Pick.head.tail.tail (by rw [dd.len]; lia) fun h S => ⟨rfl, ?_⟩
  walk_at "nx"
  refine r_Return ?_
  refine r_Subscript ?_
  refine r_freeG S.gh q.hI rfl ?_
  refine r_local S rfl ?_
  have hat : ((at_.toNat : Nat) : Int) = at_ := Int.toNat_of_nonneg hc.1
  refine t_dict (i := fst + at_) (v := val i) (S.has Pick.head.tail.tail) (hat ▸ hf _ _ e1) (hQ _ _ ?_)
  refine ⟨_, _, ⟨rfl, n, f, refs ++ [.ref pt], bag ++ [(pt, TupP [.str "read" _, .int at_ u])], subL, bag_perm, ?_, hf, dd.snoc pt _ u 0 at_, sr⟩, S⟩
  show n ≤ 1000 + (ps.deeds ++ [(0, at_)]).length
  rw [List.length_append, List.length_singleton]; lia
end
end

/-! ### W8 -/
noncomputable section
open PySem PySem.W PyProof.Rows
set_option Elab.async false
set_option maxRecDepth 100000
theorem bag_perm2 {a b c d : Ch} {bag subL : List Ch} : (a :: b :: d :: c :: (bag ++ subL)).Perm (a :: b :: c :: ((bag ++ [d]) ++ subL)) := by
  refine List.Perm.cons a (List.Perm.cons b ?_)
  refine (List.Perm.swap c d _).trans (List.Perm.cons c ?_)
  rw [List.append_assoc]
  exact List.perm_middle.symm
theorem ask_perm {a b c : Ch} {bag subL : List Ch} : (a :: b :: c :: (bag ++ subL)).Perm (subL ++ (a :: b :: c :: bag)) := List.perm_append_comm (l₁ := a :: b :: c :: bag) (l₂ := subL)
theorem ask_pick {a b c : Ch} {bag subL : List Ch} : Pick c (subL ++ (a :: b :: c :: bag)) (subL ++ (a :: b :: bag)) := by
  have e1 : subL ++ (a :: b :: c :: bag) = (subL ++ [a, b]) ++ c :: bag := by simp
  have e2 : subL ++ (a :: b :: bag) = (subL ++ [a, b]) ++ bag := by simp
  unfold Pick
  rw [e1, e2]
  exact List.perm_middle
theorem ask_perm2 {a b c : Ch} {bag subL : List Ch} : (c :: (subL ++ (a :: b :: bag))).Perm (a :: b :: c :: (bag ++ subL)) := by
  have h1 : (subL ++ (a :: b :: bag)).Perm (a :: b :: (bag ++ subL)) := (List.perm_append_comm (l₁ := a :: b :: bag) (l₂ := subL)).symm
  refine (List.Perm.cons c h1).trans ?_
  refine (List.Perm.swap a c _).trans (List.Perm.cons a (List.Perm.swap b c _))
section
variable {prog : Program} {w : World} {G : Heap} {K : Frag} {c : QF} {fst : Int} {val : Nat → Value} {o : Ora} {SR : List Bool → List Ch → Prop} {a : Cells} {less cI cF cL cA cD : Addr} {tF : Tok}
set_option maxHeartbeats 4000000 in
theorem clo_put (q : Clo prog w K G c fst val o SR a less cI cF cL cA cD tF) {A : Around} {h : Heap} {sub : List Ch} {ps ps' : PS} {at_ : Int} {t : Tok} {i : Nat} (room : Room A 8) (gh : Sub G h) (O : Own G h sub) (ar : AR a fst val SR ps sub) (e : wr at_ i ps = some ps') :
    Run prog w A (call (.ref c.put) [.int (fst + at_) t, val i]) h fun v h' => ∃ sub', (v = .none ∧ AR a fst val SR ps' sub') ∧ Post G h sub sub' h' := by
  unfold wr at e
  split at e
  case isFalse => cases e
  rename_i hc
  cases e
  refine call_fn (binds := [("at", .int (fst + at_) t), ("value", val i)]) room.lt q.gl gh O (q.f2.sub gh) (by intros; rfl) (by decide) (locs rfl) rfl rfl rfl ?_
  intro B L h₁ cdv bo S
  obtain ⟨n, f, refs, bag, subL, ⟨p, hn, hf, dd, sr⟩⟩ := ar
  have S := S.perm p
  clear p O gh bo
  refine Run.gen fun Q hQ => ?_
  refine r_cons (r_Expr ?_)
  refine r_Method ?_
  refine r_freeG S.gh q.hD rfl ?_
  refine l_method (name := "append") (S.has Pick.head.tail) PySem.F.slot_list_append (by kernel_rfl) ?_
  refine r_blt ?_
  refine r_args ?_
  refine r_Tuple ?_
  refine r_args (r_str fun t => ?_)
  refine r_args ?_
  refine r_BinOp (r_local S rfl ?_)
  refine r_freeG S.gh q.hF rfl ?_
  refine r_sub fun u => ?_
  rw [show fst + at_ - fst = at_ by lia]
  refine r_args0 ?_
  refine r_newTuple S fun pt h S => ?_
  refine r_args0 ?_
  refine l_append S Pick.head.tail.tail (by rw [dd.len]; lia) fun h S => ⟨rfl, ?_⟩
  walk_at "nx"
  refine r_SetSub ?_
  refine r_local S rfl ?_
  refine r_freeG S.gh q.hI rfl ?_
  refine r_local S rfl ?_
  refine d_setItem (n := n) (f := f) S Pick.head.tail.tail (by lia) fun h S => ?_
  refine onw (r_nil (hQ _ _ ?_))
  have hat : ((at_.toNat : Nat) : Int) = at_ := Int.toNat_of_nonneg hc.1
  refine ⟨_, _, ⟨rfl, n + 1, _, refs ++ [.ref pt], bag ++ [(pt, TupP [.str "written" _, .int at_ u])], subL, bag_perm2, ?_, ?_, dd.snoc pt _ u 1 at_, sr⟩, S⟩
  · show n + 1 ≤ 1000 + (ps.deeds ++ [(1, at_)]).length
    rw [List.length_append, List.length_singleton]; lia
  · intro p j hj
    have hj : (ps.lie.set at_.toNat i)[p]? = some j := hj
    show (if fst + (p : Int) = fst + at_ then some (val i) else f (fst + p)) = some (val j)
    by_cases hp : p = at_.toNat
    · subst hp
      rw [List.getElem?_set_self hc.2.1] at hj
      cases hj
      rw [if_pos (by rw [hat])]
    · rw [List.getElem?_set_ne (fun q => hp q.symm)] at hj
      rw [if_neg (by lia)]
      exact hf p j hj
set_option maxHeartbeats 4000000 in
theorem clo_less (q : Clo prog w K G c fst val o SR a less cI cF cL cA cD tF) {A : Around} {h : Heap} {sub : List Ch} {ps : PS} {i j : Nat} (room : Room A 8) (gh : Sub G h) (O : Own G h sub) (ar : AR a fst val SR ps sub) (ft : Fit ps) :
    Run prog w A (call (.ref c.less) [val i, val j]) h fun v h' => ∃ sub', (v = .bool (ask o i j ps).1 ∧ AR a fst val SR (ask o i j ps).2 sub') ∧ Post G h sub sub' h' := by
  refine call_fn (binds := [("one", val i), ("other", val j)]) room.lt q.gl gh O (q.f3.sub gh) (by intros; rfl) (by decide) (locs rfl) rfl rfl rfl ?_
  intro B L h₁ cdv bo S
  have rm : Room (A.deeper (envX "_law_sorted.<locals>.ask" A_ask.scope L c.less cdv [("less", cL), ("answers", cA)])) 6 := (room.less (by lia : 7 ≤ 8)).deeper _
  obtain ⟨n, f, refs, bag, subL, ⟨p, hn, hf, dd, sr⟩⟩ := ar
  have S := S.perm p
  clear p O gh bo
  refine Run.gen fun Q hQ => ?_
  refine r_cons (r_Expr ?_)
  refine r_Method ?_
  refine r_freeG S.gh q.hA rfl ?_
  refine l_method (name := "append") (S.has Pick.head.tail.tail) PySem.F.slot_list_append (by kernel_rfl) ?_
  refine r_blt ?_
  refine r_args ?_
  refine r_Call ?_
  refine r_freeG S.gh q.hL rfl ?_
  refine r_fn ?_
  refine r_args (r_local S rfl ?_)
  refine r_args (r_local S rfl ?_)
  refine r_args0 ⟨q.ok.1.sub S.gh, ?_⟩
  have S := S.perm ask_perm
  refine r_callee S (List.Perm.refl _) (q.ok.2 rm S.gh (own_gl S) sr) ?_
  rintro v h subL' ⟨rfl, sr'⟩ S
  refine r_args0 ?_
  refine l_append (items := boolV ps.ans) S ask_pick (by unfold boolV; rw [List.length_map]; have := ft.2; lia) fun h S => ⟨rfl, ?_⟩
  walk_at "nx"
  refine r_Return ?_
  refine r_Subscript ?_
  refine r_freeG S.gh q.hA rfl ?_
  refine r_USub (r_int fun t => ⟨1, t, rfl, fun u => ?_⟩)
  have hlen : (boolV ps.ans ++ [Value.bool (o ps.ans i j)]).length = ps.ans.length + 1 := by unfold boolV; rw [List.length_append, List.length_map, List.length_singleton]
  refine t_listNeg (v := .bool (o ps.ans i j)) (S.has Pick.head) (by decide) (by rw [hlen]; lia) (by decide) ?_ ?_
  · rw [hlen]
    have : (-1 + ((ps.ans.length + 1 : Nat) : Int)).toNat = (boolV ps.ans).length := by unfold boolV; rw [List.length_map]; lia
    rw [this, List.getElem?_concat_length]
  refine hQ _ _ ⟨_, _, ⟨rfl, n, f, refs, bag, subL', ?_, hn, hf, dd, sr'⟩, S⟩
  have : boolV ps.ans ++ [Value.bool (o ps.ans i j)] = boolV (ask o i j ps).2.ans := by
    show _ = (ps.ans ++ [o ps.ans i j]).map Value.bool
    rw [List.map_append]; rfl
  rw [this]
  exact ask_perm2
/-- the five, as the class asks for them -/
theorem clo_cb (q : Clo prog w K G c fst val o SR a less cI cF cL cA cD tF) : CB prog w G c fst val o (AR a fst val SR) where
  f_get := q.f1.fun
  f_put := q.f2.fun
  f_less := q.f3.fun
  f_hold := q.f4.fun
  f_drop := q.f5.fun
  get := fun room gh O ar e => clo_get q room gh O ar e
  put := fun room gh O ar e => clo_put q room gh O ar e
  less := fun room gh O ar ft => clo_less q room gh O ar ft
  hold := fun room gh O ar ft => clo_hold q room gh O ar ft
  drop := fun room gh O ar ft => clo_drop q room gh O ar ft
end
end

local macro_rules | `(tactic| walk_at "pm") => `(tactic| (refine perm_by fun _ => ?_; simp only [List.append_eq, List.map_cons, List.map_append, List.map_nil, List.sum_cons, List.sum_append, List.sum_nil]; try lia))

/-! ### W9 -/
noncomputable section
open PySem PySem.W PyProof.Rows
set_option Elab.async false
set_option maxRecDepth 100000


inductive PairsAre : List Value → List Ch → List (Int × Value) → Prop
  | nil : PairsAre [] [] []
  | cons {p : Addr} {t : Tok} {k : Int} {v : Value} {refs bag ds} : PairsAre refs bag ds → PairsAre (.ref p :: refs) ((p, TupP [.int k t, v]) :: bag) ((k, v) :: ds)
theorem PairsAre.snoc {refs bag ds} (x : PairsAre refs bag ds) (p : Addr) (t : Tok) (k : Int) (v : Value) : PairsAre (refs ++ [.ref p]) (bag ++ [(p, TupP [.int k t, v])]) (ds ++ [(k, v)]) := by
  induction x with
  | nil => exact .cons .nil
  | cons _ ih => exact .cons ih
theorem PairsAre.len {refs bag ds} (x : PairsAre refs bag ds) : refs.length = ds.length := by
  induction x with
  | nil => rfl
  | cons _ ih => simp [ih]
theorem PairsAre.view {refs bag ds} {h : Heap} (x : PairsAre refs bag ds) (k : ∀ c ∈ bag, Has h c) : All2 (PairAt h) refs ds := by
  induction x with
  | nil => exact .nil
  | cons _ ih => exact .cons ⟨_, _, rfl, k _ (.head _)⟩ (ih fun c hc => k c (.tail _ hc))
noncomputable def lieKvs (fst : Int) (val : Nat → Value) (n : Nat) : List (Int × Value) := (List.range n).map fun i => (fst + (i : Nat), val i)
theorem lieKvs_succ (fst : Int) (val : Nat → Value) (n : Nat) : lieKvs fst val (n + 1) = lieKvs fst val n ++ [(fst + (n : Nat), val n)] := by
  unfold lieKvs
  rw [List.range_succ, List.map_append]; rfl
theorem lieKvs_len (fst : Int) (val : Nat → Value) (n : Nat) : (lieKvs fst val n).length = n := by unfold lieKvs; simp

noncomputable def lieComp : Expr := (exL (stV (A_sorted.body.getD 0 (.Pass ⟨0, 0, 0, 0⟩)))).getD 0 noE
section
variable {prog : Program} {w : World} {A : Around} {G B h h' : Heap} {K : Frag} {lo : List (Str × Value)} {nw rest : List Ch} {L : Addr}
set_option maxHeartbeats 4000000 in
theorem lie_comp (kf : KF K) (gl : Gl K G) {l f : Addr} {cdv : Value} {items : List Value} {fst : Int} {tF : Tok} {val : Nat → Value} (room : Room A 3) (S : St G B L h lo nw) (hl : Has G (l, LstP items)) (hz : items.length ≤ 1000) (hv : ∀ i, i < items.length → items[i]? = some (val i))
    (hs : look "some" lo = some (.ref l)) (hF : Pick (L + 1, CellP (some (.int fst tF))) nw rest) {Q : Value → Heap → Prop}
    (q : ∀ D refs bag h', PairsAre refs bag (lieKvs fst val items.length) → St G B L h' lo ((D, LstP refs) :: (bag ++ nw)) → Q (.ref D) h') :
    Run prog w A (eval lieComp (envOfC "_law_sorted" A_sorted.scope L f cdv)) h Q := by
  refine r_ListComp (G := G) (cl := [("first", L + 1)]) ?_ rfl (by decide) rfl (by decide)
  refine r_Call ?_
  refine r_builtin gl S.gh kf.g_enumerate boot_enumerate ?_
  refine r_typ ?_
  refine r_args (r_local S hs ?_)
  refine r_args0 ?_
  refine c_enum S (hl.imp fun o x => ⟨S.gh _ _ x.1, x.2⟩) fun e it h hne S => ?_
  refine en_again S.own.has ?_
  refine comp_go [(e, EnP it 0), (it, LiP l 0)] (fun v sub' => ∃ D refs bag, v = .ref D ∧ sub' = (D, LstP refs) :: bag ∧ PairsAre refs bag (lieKvs fst val items.length)) S.gh (own_gl (sub := [(e, EnP it 0), (it, LiP l 0)]) (rest := nw) S) ?_ ?_
  · rintro v h' sub' ⟨D, refs, bag, rfl, rfl, pa⟩ P
    exact q D refs bag h' pa (St.callee2 (sub := [(e, EnP it 0), (it, LiP l 0)]) (rest := nw) S P)
  · intro R' hR B' C D h₁ bo S'
    have hB : B'.IsCell (L + 1) (some (.int fst tF)) := by
      obtain ⟨oc, e1, e2⟩ := S.has (Pick.tail (Pick.tail hF))
      refine ⟨oc, bo.keep _ _ e1 fun hm => ?_, e2⟩
      obtain ⟨d, hd, ed⟩ := List.mem_map.mp hm
      exact Own.apart (l := [(e, EnP it 0), (it, LiP l 0)]) (r := nw) S.own hd (hF.mem_iff.mpr (.head _)) ed
    have hlist : ∀ h, Sub G h → h.IsList l items.toArray := fun h k => LstP.isList (hl.imp fun o x => ⟨k _ _ x.1, x.2⟩)
    have rm : A.handled = none := room.hd
    refine comp_turns (fun n h => ∀ C' : Prop, (∀ i refs bag lo, n = items.length - i → i ≤ items.length → St G B' C h lo ((e, EnP it (i : Nat)) :: (it, LiP l i) :: (D, LstP refs) :: bag) → PairsAre refs bag (lieKvs fst val i) → C') → C') items.length
      (fun _ k => k 0 [] [] [] rfl (Nat.zero_le _) (S'.perm ((List.perm_middle (l₁ := [(e, EnP it 0), (it, LiP l 0)]) (l₂ := [])).symm.trans (by rfl))) .nil) ?_ ?_
    · exact fun h hI Q hq => hI _ fun i refs bag lo _ _ S _ => en_again S.own.has hq
    · refine fun N Zf nx zz n h hI => hI _ fun i refs bag lo hn hi S pa => ?_
      clear hI
      by_cases hlt : i < items.length
      · refine en_next S (hlist h S.gh) (hv i hlt) fun pt t h S => ?_
        dsimp only
        refine en_owned S Pick.head fun h S => ?_
        refine r_assignTuple rm S (S.has Pick.head.tail.tail) fun h S _ => ?_
        refine r_ord (r_toName (r_store S fun h S => ?_))
        refine r_ord (r_toName (r_store S fun h S => ?_))
        refine r_ordNil ?_
        refine r_Tuple ?_
        refine r_args ?_
        refine r_BinOp ?_
        refine r_cell (c := L + 1) rfl (isCell_sub S.keep hB) ?_
        refine r_local S (by rw [look_put, if_neg (by decide), look_put, if_pos rfl]) ?_
        refine r_add fun u => ?_
        refine r_args (r_local S (by rw [look_put, if_pos rfl]) ?_)
        refine r_args0 ?_
        refine r_newTuple S fun p h S => ?_
        refine l_append S Pick.head.tail.tail.tail.tail (by rw [pa.len, lieKvs_len]; lia) fun h S => ?_
        have S : St G B' C h _ ((pt, TupP [.int i t, val i]) :: ((e, EnP it ((i + 1 : Nat) : Int)) :: (it, LiP l (i + 1)) :: (D, LstP (refs ++ [.ref p])) :: (bag ++ [(p, TupP [.int (fst + (i : Nat)) u, val i])]))) := S.perm (by walk_at "pm")
        exact nx _ (items.length - (i + 1)) _ (by lia) fun _ k => k (i + 1) (refs ++ [.ref p]) (bag ++ [(p, TupP [.int (fst + (i : Nat)) u, val i])]) _ rfl hlt S.drop1 (by rw [lieKvs_succ]; exact pa.snoc p u _ _)
      · have : i = items.length := by lia
        subst this
        refine en_end rm S (hlist h S.gh) (by simp) fun h S => ?_
        exact zz _ _ _ (hR _ _ ⟨D, refs, bag, rfl, rfl, pa⟩) S
end
end

/-! ### W10 -/
noncomputable section
open PySem PySem.W PyProof.Rows
set_option Elab.async false
set_option maxRecDepth 100000

/-- what the walk of _law_sorted asks beyond KF -/
structure KC (K : Frag) : Prop where
  f_lsorted : ∀ h, K.In h → IsFnAt h 121 A_sorted "_law_sorted" [] (.ref 120)
  keep93 : keepIn K (.ref 93) = true
noncomputable def qofS (line _col : Int) : Str := if line = 101 then "_law_sorted.<locals>.read" else if line = 105 then "_law_sorted.<locals>.write" else if line = 109 then "_law_sorted.<locals>.ask" else if line = 113 then "_law_sorted.<locals>.hold" else "_law_sorted.<locals>.drop"
noncomputable def cells5 (L : Addr) (li dd an : Option Value) (less : Addr) (fst : Int) (tF : Tok) : List Ch :=
  [(L + 5, CellP li), (L + 4, CellP dd), (L + 3, CellP an), (L + 2, CellP (some (.ref less))), (L + 1, CellP (some (.int fst tF)))]

theorem Gl.up {K : Frag} {G G' : Heap} (g : Gl K G) (s : Sub G G') : Gl K G' :=
  ⟨g.kin.keeps s, let ⟨mg, mb, a, b, c⟩ := g.glob; ⟨mg, mb, a.keeps s, b.keeps s, c⟩, g.nolimit.keeps s⟩
theorem frozen {G B h : Heap} {L : Addr} {lo : List (Str × Value)} {sub rest : List Ch} (S : St G B L h lo (sub ++ rest)) :
    Sub G (hideAll h (addrs sub)) ∧ Sub (hideAll h (addrs sub)) h ∧ Own (hideAll h (addrs sub)) h sub ∧ ∀ c ∈ rest, Has (hideAll h (addrs sub)) c := by
  have bo := bof_hide h sub
  have O := own_gl S
  refine ⟨fun b o eb => bo.keep b o (S.gh b o eb) fun q => ?_, bo.incl, O.base fun c hc => bo.none _ (List.mem_map_of_mem hc), fun c hc => ?_⟩
  · obtain ⟨c, hc, ec⟩ := List.mem_map.mp q
    have := (O.1 c hc).2
    rw [ec, eb] at this; cases this
  · obtain ⟨o, e, p⟩ := (S.own.1 c (List.mem_append_right _ hc)).1
    refine ⟨o, bo.keep _ _ e fun q => ?_, p⟩
    obtain ⟨d, hd, ed⟩ := List.mem_map.mp q
    exact Own.apart S.own hd hc ed
theorem Post.base {G G' h h' : Heap} {sub sub' : List Ch} (P : Post G' h sub sub' h') (gh : Sub G h) (O : Own G h sub) : Post G h sub sub' h' :=
  ⟨P.own.base fun c hc => by
    rcases P.fresh c hc with q | q
    · obtain ⟨d, hd, ed⟩ := List.mem_map.mp q
      exact ed ▸ (O.1 d hd).2
    · exact gh.none q, P.keep, P.fresh⟩

section
variable {prog : Program} {w : World} {A : Around} {G B h h' : Heap} {K : Frag} {lo : List (Str × Value)} {nw rest : List Ch} {L : Addr}
theorem r_K {env : Env} {pos : Pos} {f : Value} {first : List Value} {e : Expr} {rest : List Expr} {Q : Value → Heap → Prop} (hk : keepIn K f = true)
    (q : Run prog w A (spliced (backTo pos (starEach (e :: rest) env))) h fun vs h₁ => K.In h₁ ∧ Run prog w A (call f (first ++ vs)) h₁ Q)
    (he : starEach (e :: rest) env = (false, eval e env) :: starEach rest env := by rfl) (hplain : (backTo pos (starEach rest env)).any (·.1) = false := by rfl) :
    Run prog w A (callWith pos f first (backTo pos (starEach (e :: rest) env)) []) h Q := by
  intro s E Q' es k
  rw [he] at q ⊢
  exact callWith_of (by show ((false || (backTo pos (starEach rest env)).any (·.1)) || false) = false; rw [hplain]; rfl) (keeps_K hk)
    (Calls.evalArgs_plain (q.wp es fun _ _ r1 q1 => ⟨q1.1, q1.2.wp rfl fun _ _ r2 q2 => k _ _ (r1.trans r2) q2⟩))
theorem St.get {c : Ch} (S : St G B L h lo nw) (hc : c ∈ nw) : Has h c := (S.own.1 c hc).1
theorem ins_snoc (f : Int → Option Value) (l : List (Int × Value)) (kv : Int × Value) (x : Int) : ins f (l ++ [kv]) x = if x = kv.1 then some kv.2 else ins f l x := by
  unfold ins; rw [List.foldl_append]; rfl
theorem ins_lie (fst : Int) (val : Nat → Value) (f : Int → Option Value) : ∀ (n p : Nat), p < n → ins f (lieKvs fst val n) (fst + p) = some (val p)
  | 0, p, h => by lia
  | n + 1, p, h => by
    rw [lieKvs_succ, ins_snoc]
    by_cases q : p = n
    · subst q; rw [if_pos rfl]
    · rw [if_neg (by show ¬ (fst + (p : Int) = fst + (n : Int)); lia)]
      exact ins_lie fst val f n p (by lia)

noncomputable def outComp : Expr := (exL (stV (A_sorted.body.getD 8 (.Pass ⟨0, 0, 0, 0⟩)))).getD 0 noE
set_option maxHeartbeats 4000000 in
theorem out_comp (kf : KF K) (gl : Gl K G) {l f Li : Addr} {cdv : Value} {items : List Value} {fst : Int} {tF : Tok} {val : Nat → Value} {lie : List Nat} {m : Int → Option Value} {k : Nat} (room : Room A 3) (S : St G B L h lo nw) (hl : Has G (l, LstP items)) (hz : items.length ≤ 1000)
    (hs : look "some" lo = some (.ref l)) (hF : (L + 1, CellP (some (.int fst tF))) ∈ nw) (hI : (L + 5, CellP (some (.ref Li))) ∈ nw) (hM : (Li, MapP m k) ∈ nw)
    (hlen : lie.length = items.length) (hm : ∀ (p i : Nat), lie[p]? = some i → m (fst + p) = some (val i)) {Q : Value → Heap → Prop}
    (q : ∀ D h', St G B L h' lo ((D, LstP (lie.map val)) :: nw) → Q (.ref D) h') :
    Run prog w A (eval outComp (envOfC "_law_sorted" A_sorted.scope L f cdv)) h Q := by
  refine r_ListComp (G := G) (cl := [("lie", L + 5), ("first", L + 1)]) ?_ rfl (by decide) rfl (by decide)
  refine r_Call ?_
  refine r_builtin gl S.gh kf.g_range boot_range ?_
  refine r_typ ?_
  refine r_args ?_
  refine r_Call ?_
  refine r_builtin gl S.gh kf.g_len boot_len ?_
  refine r_blt ?_
  refine r_args (r_local S hs ?_)
  refine r_args0 ?_
  refine l_len (hl.imp fun o x => ⟨S.gh _ _ x.1, x.2⟩) (by lia) fun t => ?_
  refine r_args0 ?_
  refine c_range S fun r h S => ?_
  refine i_range (by lia) S (S.has Pick.head) fun I h S => ?_
  refine comp_go [(I, RiP 0 items.length)] (fun v sub' => ∃ D, v = .ref D ∧ sub' = [(D, LstP (lie.map val))]) S.gh (own_gl (sub := [(I, RiP 0 items.length)]) (rest := (r, RngP items.length) :: nw) S) ?_ ?_
  · rintro v h' sub' ⟨D, rfl, rfl⟩ P
    have S := St.callee2 (sub := [(I, RiP 0 items.length)]) (rest := (r, RngP items.length) :: nw) S P
    exact q D h' ((S.perm (nw' := (r, RngP items.length) :: (D, LstP (lie.map val)) :: nw) (List.Perm.swap _ _ _)).drop1)
  · intro R' hR B' C D h₁ bo S'
    have fz : ∀ c ∈ nw, Has B' c := fun c hc => by
      obtain ⟨oc, e1, e2⟩ := S.get (List.mem_cons_of_mem _ (List.mem_cons_of_mem _ hc))
      refine ⟨oc, bo.keep _ _ e1 fun hm => ?_, e2⟩
      obtain ⟨d, hd, ed⟩ := List.mem_map.mp hm
      exact Own.apart (l := [(I, RiP 0 items.length)]) (r := (r, RngP items.length) :: nw) S.own hd (List.mem_cons_of_mem _ hc) ed
    have rm : A.handled = none := room.hd
    refine comp_turns (fun n h => ∀ C' : Prop, (∀ i lo, n = items.length - i → i ≤ items.length → St G B' C h lo [(I, RiP (i : Nat) ((items.length - i : Nat) : Int)), (D, LstP ((lie.take i).map val))] → C') → C') items.length (fun _ k => k 0 [] rfl (Nat.zero_le _) (S'.perm (List.Perm.swap _ _ _))) ?_ ?_
    · exact fun h hI Q hq => hI _ fun i lo _ _ S => ri_again S.own.has hq
    · refine fun N Zf nx zz n h hI => hI _ fun i lo hn hi S => ?_
      clear hI
      by_cases hlt : i < items.length
      · refine ri_next S Pick.head (by lia) fun t h S => ?_
        dsimp only
        refine r_pure ?_
        refine r_toName (r_store S fun h S => ?_)
        refine r_Subscript ?_
        refine r_cell (c := L + 5) rfl (isCell_sub S.keep (fz _ hI)) ?_
        refine r_BinOp ?_
        refine r_cell (c := L + 1) rfl (isCell_sub S.keep (fz _ hF)) ?_
        refine r_local S (by rw [look_put, if_pos rfl]) ?_
        refine r_add fun u => ?_
        have hli : i < lie.length := by lia
        have hget : lie[i]? = some lie[i] := List.getElem?_eq_getElem hli
        refine t_dict (i := fst + (i : Nat)) (v := val lie[i]) ((fz _ hM).imp fun o x => ⟨S.keep _ _ x.1, x.2⟩) (hm _ _ hget) ?_
        refine l_append S Pick.head.tail (by rw [List.length_map, List.length_take]; lia) fun h S => ?_
        have e1 : (lie.take i).map val ++ [val lie[i]] = (lie.take (i + 1)).map val := by
          rw [List.take_add_one, hget, List.map_append]; rfl
        rw [e1] at S
        have S : St G B' C h (put "at" (.int (i : Nat) t) lo) [(I, RiP ((i + 1 : Nat) : Int) ((items.length - (i + 1) : Nat) : Int)), (D, LstP ((lie.take (i + 1)).map val))] := by
          have e2 : ((items.length - i : Nat) : Int) - 1 = ((items.length - (i + 1) : Nat) : Int) := by lia
          have e3 : ((i : Nat) : Int) + 1 = ((i + 1 : Nat) : Int) := rfl
          rw [e2, e3] at S
          exact S.perm (List.Perm.swap _ _ _)
        exact nx _ (items.length - (i + 1)) _ (by lia) fun _ k => k (i + 1) _ rfl hlt S
      · have : i = items.length := by lia
        subst this
        refine ri_end rm S Pick.head (by lia) fun h S => ?_
        refine zz _ [(D, LstP (lie.map val))] lo (hR _ _ ⟨D, rfl, rfl⟩) ?_
        rw [← hlen, List.take_length] at S
        exact S
theorem def_step {env : Env} {a : FnAst} {qual : Str} {cl : List (Str × Addr)} {pos : Pos} {c P : Addr} {l : List TE} {qof : Int → Int → Str} {Q : Flow → Heap → Prop} (gm : Gm G) (S : St G B env.locals h lo (tabCh P l ++ rest)) (hc : CodeHd G c P)
    (ok : TeOk qof l) (hqn : qualnameIn env a.name a.name = qual) (hq : qof pos.line pos.col = qual) (hcl : closureFor a.scope env = pure cl) (hg : env.globals = mainGlobals) (hcode : env.code = .ref c)
    (q : ∀ f ca l' h', TeOk qof l' → (∀ e ∈ l, e ∈ l') → InTab l' ca qual → St G B env.locals h' (put a.name (.ref f) lo) (tabCh P l' ++ ((f, FnP a qual cl ca) :: rest)) → Q .next h')
    (hk : env.scope.kind = .function) (hl : env.kindOf a.name = some .local)
    (hd0 : a.params.defaults = []) (hk0 : a.params.kw_defaults = []) (ha : annTrees a.params none env = []) :
    Run prog w A (exec (.FunctionDef a.name a.params a.body [] none [] a.scope none a.name pos) env) h Q := by
  refine r_Def ?_ hd0 hk0 ha
  rw [hqn]
  refine r_makeFn gm S hc ok hq hcl hg hcode fun f ca l' h' ok' inc hin S => ?_
  exact r_store S (fun h'' S => q f ca l' h'' ok' inc hin (S.perm List.perm_middle.symm)) hk hl

theorem LessOk.up {G G' : Heap} {less : Addr} {val : Nat → Value} {o : Ora} {SR : List Bool → List Ch → Prop} (x : LessOk prog w G less val o SR) (s : Sub G G') : LessOk prog w G' less val o SR :=
  ⟨x.1.sub s, fun room gh O sr => (x.2 room (s.trans gh) (O.base fun c hc => s.none (O.1 c hc).2) sr).mono fun v h' ⟨sub', r, P⟩ => ⟨sub', r, P.base gh O⟩⟩
set_option maxHeartbeats 8000000 in
theorem lsorted_spec (kf : KF K) (kc : KC K) (gl : Gl K G) (gm : Gm G) (hc : CodeHd G 120 118) {l less : Addr} {items : List Value} {fst : Int} {tF : Tok} {val : Nat → Value} {o : Ora} {SR : List Bool → List Ch → Prop} {te : List TE} {subL : List Ch} {F f : Nat} {ps' : PS}
    (room : Room A 20) (gh : Sub G h) (O : Own G h (tabCh 118 te ++ subL)) (hte : TeOk qofS te) (hl : Has G (l, LstP items)) (hz : items.length ≤ 1000) (hv : ∀ i, i < items.length → items[i]? = some (val i))
    (lok : LessOk prog w G less val o SR) (sr : SR [] subL) (hf : f ≤ 90000) (e : sortLoop o F f [(0, (items.length : Int) - 1)] ⟨List.range items.length, [], []⟩ = some ps') (hlen : ps'.lie.length = items.length) :
    Run prog w A (call (.ref 121) [.ref l, .int fst tF, .ref less]) h fun v h' => ∃ sub', (∃ p a d n te' bag subL' refs, v = .ref p ∧ TeOk qofS te' ∧
      sub' = (p, TupP [.ref a, .ref d, .ref n]) :: (a, LstP (ps'.lie.map val)) :: (d, LstP refs) :: (n, LstP (boolV ps'.ans)) :: (bag ++ (tabCh 118 te' ++ subL')) ∧ DeedsAre refs bag ps'.deeds ∧ SR ps'.ans subL') ∧ Post G h (tabCh 118 te ++ subL) sub' h' := by
  refine call_fnC (binds := [("some", .ref l), ("first", .int fst tF), ("less", .ref less)]) (lo := [("some", .ref l)]) room.lt gl gh O (kc.f_lsorted h (gl.kin.keeps gh)) (by intros; rfl) (fun _ => kindsX rfl _) (by decide) (fun L => ⟨rfl, trivial⟩) rfl rfl rfl ?_
  intro B L h₁ bo S
  have S : St G B L h₁ [("some", .ref l)] (cells5 L none none none less fst tF ++ (tabCh 118 te ++ subL)) := S
  have rm : Room (A.deeper (envOfC "_law_sorted" A_sorted.scope L 121 (.ref 120))) 19 := room.deeper _
  refine Run.gen fun Q hQ => ?_
  -- lie
  refine r_cons (r_AssignName ?_)
  refine r_Call ?_
  refine r_builtin gl S.gh kf.g_dict boot_dict ?_
  refine r_typ ?_
  refine r_args ?_
  refine lie_comp kf gl (rm.less (by lia)) S hl hz hv rfl (Pick.tail (Pick.tail (Pick.tail (Pick.tail Pick.head)))) fun D refs bag h pa S => ?_
  refine r_args0 ?_
  refine c_dict rm.hd (by rw [lieKvs_len]; lia) S (S.has Pick.head) (fun h S => ⟨LstP.isList (S.has Pick.head), pa.view fun c hc => (S.own.1 c (List.mem_cons_of_mem _ (List.mem_append_left _ hc))).1⟩) fun Li h S => ?_
  have S := (S.perm (nw' := ((Li, MapP (ins (fun _ => none) (lieKvs fst val items.length)) (lieKvs fst val items.length).length) :: (cells5 L none none none less fst tF ++ (tabCh 118 te ++ subL))) ++ ((D, LstP refs) :: bag)) (by walk_at "pm")).drop
  refine r_storeCell (c := L + 5) S (Pick.tail Pick.head) rfl fun h S => ?_
  walk_at "nx"
  -- deeds, answers
  refine r_AssignTup ?_ rfl rfl
  refine r_Tuple ?_
  refine r_args ?_
  refine r_List ?_
  refine r_args0 ?_
  refine r_newList S fun Dd h S => ?_
  refine r_args ?_
  refine r_List ?_
  refine r_args0 ?_
  refine r_newList S fun An h S => ?_
  refine r_args0 ?_
  refine r_newTuple S fun p h S => ?_
  refine r_assignTuple rm.hd S S.own.has fun h S _ => ?_
  have S := S.drop1
  refine r_ord (r_toName (r_storeCell (c := L + 4) S (Pick.tail (Pick.tail (Pick.tail (Pick.tail Pick.head)))) rfl fun h S => ?_))
  refine r_ord (r_toName (r_storeCell (c := L + 3) S (Pick.tail (Pick.tail (Pick.tail (Pick.tail (Pick.tail Pick.head))))) rfl fun h S => ?_))
  refine r_ordNil ?_
  walk_at "nx"
  -- the five
  have S : St G B L h [("some", .ref l)] (tabCh 118 te ++ ((Li, MapP (ins (fun _ => none) (lieKvs fst val items.length)) (lieKvs fst val items.length).length) :: (Dd, LstP []) :: (An, LstP []) ::
    (cells5 L (some (.ref Li)) (some (.ref Dd)) (some (.ref An)) less fst tF ++ subL))) := S.perm (by unfold cells5; walk_at "pm")
  refine def_step (a := A_read) (qual := "_law_sorted.<locals>.read") (cl := [("lie", L + 5), ("first", L + 1), ("deeds", L + 4)]) gm S hc hte (by kernel_rfl) rfl rfl rfl rfl ?_ rfl rfl rfl rfl rfl
  intro f1 c1 te1 h ok1 inc1 in1 S
  walk_at "nx"
  refine def_step (a := A_write) (qual := "_law_sorted.<locals>.write") (cl := [("lie", L + 5), ("first", L + 1), ("deeds", L + 4)]) gm S hc ok1 (by kernel_rfl) rfl rfl rfl rfl ?_ rfl rfl rfl rfl rfl
  intro f2 c2 te2 h ok2 inc2 in2 S
  walk_at "nx"
  refine def_step (a := A_ask) (qual := "_law_sorted.<locals>.ask") (cl := [("less", L + 2), ("answers", L + 3)]) gm S hc ok2 (by kernel_rfl) rfl rfl rfl rfl ?_ rfl rfl rfl rfl rfl
  intro f3 c3 te3 h ok3 inc3 in3 S
  walk_at "nx"
  refine def_step (a := A_hold) (qual := "_law_sorted.<locals>.hold") (cl := [("deeds", L + 4)]) gm S hc ok3 (by kernel_rfl) rfl rfl rfl rfl ?_ rfl rfl rfl rfl rfl
  intro f4 c4 te4 h ok4 inc4 in4 S
  walk_at "nx"
  refine def_step (a := A_drop) (qual := "_law_sorted.<locals>.drop") (cl := [("deeds", L + 4)]) gm S hc ok4 (by kernel_rfl) rfl rfl rfl rfl ?_ rfl rfl rfl rfl rfl
  intro f5 c5 te5 h ok5 inc5 in5 S
  walk_at "nx"
  -- Quicksort(...).sort(...)
  refine r_Expr ?_
  refine r_Method ?_
  refine r_Call ?_
  refine r_global gl S.gh kf.g_Quicksort ?_
  refine r_K kc.keep93 ?_
  refine r_args (r_local S rfl ?_)
  refine r_args (r_local S rfl ?_)
  refine r_args (r_local S rfl ?_)
  refine r_args (r_local S rfl ?_)
  refine r_args (r_local S rfl ?_)
  refine r_args0 ⟨gl.kin.keeps S.gh, ?_⟩
  refine r_new (c := ⟨f1, f2, f3, f4, f5⟩) kf gl (rm.less (by lia)) S fun x dx h S => ?_
  refine q_sort (c := ⟨f1, f2, f3, f4, f5⟩) (gl.up S.gh) kf (Sub.refl _) (isQ_of (S.has Pick.head) (S.has Pick.head.tail)) ?_
  generalize hM : ins (fun _ => none) (lieKvs fst val items.length) = M at S
  have S : St G B L h _ (((Li, MapP M (lieKvs fst val items.length).length) :: (Dd, LstP []) :: (An, LstP (boolV [])) :: ([] ++ subL)) ++ ((dx, InsP (QFields ⟨f1, f2, f3, f4, f5⟩)) :: (x, InstP 93 dx) ::
    (f1, FnP A_read "_law_sorted.<locals>.read" [("lie", L + 5), ("first", L + 1), ("deeds", L + 4)] c1) :: (f2, FnP A_write "_law_sorted.<locals>.write" [("lie", L + 5), ("first", L + 1), ("deeds", L + 4)] c2) ::
    (f3, FnP A_ask "_law_sorted.<locals>.ask" [("less", L + 2), ("answers", L + 3)] c3) :: (f4, FnP A_hold "_law_sorted.<locals>.hold" [("deeds", L + 4)] c4) :: (f5, FnP A_drop "_law_sorted.<locals>.drop" [("deeds", L + 4)] c5) ::
    (cells5 L (some (.ref Li)) (some (.ref Dd)) (some (.ref An)) less fst tF ++ tabCh 118 te5))) := S.perm (by unfold cells5 boolV; walk_at "pm")
  obtain ⟨gg, gh', O', fz⟩ := frozen S
  have ar : AR ⟨Li, Dd, An⟩ fst val SR ⟨List.range items.length, [], []⟩ ((Li, MapP M (lieKvs fst val items.length).length) :: (Dd, LstP []) :: (An, LstP (boolV [])) :: ([] ++ subL)) := by
    refine ⟨_, M, [], [], subL, List.Perm.refl _, by rw [lieKvs_len]; lia, fun p i hp => ?_, .nil, sr⟩
    obtain ⟨h1, h2⟩ := List.getElem?_eq_some_iff.mp hp
    have h1 : p < items.length := by simpa using h1
    have h2 : p = i := by simpa using h2
    subst h2
    rw [← hM]
    exact ins_lie fst val _ _ p h1
  generalize hG' : hideAll h (addrs ((Li, MapP M (lieKvs fst val items.length).length) :: (Dd, LstP []) :: (An, LstP (boolV [])) :: ([] ++ subL))) = G' at gg gh' O' fz
  have m5 : ∀ {ca q}, InTab te5 ca q → Has G' (ca, CodeP q) := by
    rintro ca q ⟨e, he, rfl, rfl⟩
    refine fz _ (List.mem_cons_of_mem _ (List.mem_cons_of_mem _ (List.mem_cons_of_mem _ (List.mem_cons_of_mem _ (List.mem_cons_of_mem _ (List.mem_cons_of_mem _ (List.mem_cons_of_mem _ (List.mem_append_right _ (List.mem_cons_of_mem _ ?_)))))))))
    exact List.mem_map.mpr ⟨e, he, rfl⟩
  have up : ∀ {l l' : List TE} {ca q}, InTab l ca q → (∀ e ∈ l, e ∈ l') → InTab l' ca q := fun ⟨e, he, h1, h2⟩ k => ⟨e, k e he, h1, h2⟩
  have clo : Clo prog w K G' ⟨f1, f2, f3, f4, f5⟩ fst val o SR ⟨Li, Dd, An⟩ less (L + 5) (L + 1) (L + 2) (L + 3) (L + 4) tF := by
    have c7 : ∀ c ∈ cells5 L (some (.ref Li)) (some (.ref Dd)) (some (.ref An)) less fst tF, Has G' c := fun c hc =>
      fz c (List.mem_cons_of_mem _ (List.mem_cons_of_mem _ (List.mem_cons_of_mem _ (List.mem_cons_of_mem _ (List.mem_cons_of_mem _ (List.mem_cons_of_mem _ (List.mem_cons_of_mem _ (List.mem_append_left _ hc))))))))
    refine ⟨gl.up gg, lok.up gg, c7 (L + 5, CellP (some (.ref Li))) (.head _), c7 (L + 1, CellP (some (.int fst tF))) (.tail _ (.tail _ (.tail _ (.tail _ (.head _))))), c7 (L + 2, CellP (some (.ref less))) (.tail _ (.tail _ (.tail _ (.head _)))),
      c7 (L + 3, CellP (some (.ref An))) (.tail _ (.tail _ (.head _))), c7 (L + 4, CellP (some (.ref Dd))) (.tail _ (.head _)),
      FnP.is (fz _ (.tail _ (.tail _ (.head _)))) (m5 (up (up (up (up in1 inc2) inc3) inc4) inc5)), FnP.is (fz _ (.tail _ (.tail _ (.tail _ (.head _))))) (m5 (up (up (up in2 inc3) inc4) inc5)),
      FnP.is (fz _ (.tail _ (.tail _ (.tail _ (.tail _ (.head _)))))) (m5 (up (up in3 inc4) inc5)), FnP.is (fz _ (.tail _ (.tail _ (.tail _ (.tail _ (.tail _ (.head _))))))) (m5 (up in4 inc5)),
      FnP.is (fz _ (.tail _ (.tail _ (.tail _ (.tail _ (.tail _ (.tail _ (.head _)))))))) (m5 in5)⟩
  have q' : Qs prog w K G' x ⟨f1, f2, f3, f4, f5⟩ fst val o (AR ⟨Li, Dd, An⟩ fst val SR) := ⟨gl.up gg, kf, isQ_of (fz _ (.head _)) (fz _ (.tail _ (.head _))), clo_cb clo⟩
  refine r_fn ?_
  refine r_args (r_cell (c := L + 1) rfl (isCell_sub gh' (fz (L + 1, CellP (some (.int fst tF))) (.tail _ (.tail _ (.tail _ (.tail _ (.tail _ (.tail _ (.tail _ (.tail _ (.tail _ (.tail _ (.tail _ (.head _)))))))))))))) ?_)
  refine r_args ?_
  refine r_BinOp ?_
  refine r_BinOp (r_cell (c := L + 1) rfl (isCell_sub gh' (fz (L + 1, CellP (some (.int fst tF))) (.tail _ (.tail _ (.tail _ (.tail _ (.tail _ (.tail _ (.tail _ (.tail _ (.tail _ (.tail _ (.tail _ (.head _)))))))))))))) ?_)
  refine r_Call ?_
  refine r_builtin gl S.gh kf.g_len boot_len ?_
  refine r_blt ?_
  refine r_args (r_local S rfl ?_)
  refine r_args0 ?_
  refine l_len (hl.imp fun o x => ⟨S.gh _ _ x.1, x.2⟩) (by lia) fun t => ?_
  refine r_add fun t => ?_
  refine r_int fun t => ?_
  refine r_sub fun u => ?_
  refine r_args0 ⟨(kf.f_sort _ (gl.kin.keeps S.gh)).fun, ?_⟩
  have call := sort_spec q' (low := 0) (high := (items.length : Int) - 1) (t1 := tF) (t2 := u) hf (rm.less (by lia)) gh' O' ar e
  rw [Int.add_zero, show fst + ((items.length : Int) - 1) = fst + (items.length : Int) - 1 by lia] at call
  refine call.mono ?_
  rintro v h' ⟨sub', ⟨rfl, ar'⟩, P⟩
  have S := S.callee2 (Post.base P S.gh (own_gl S))
  obtain ⟨n, M', refs, bag, subL', pm, hn, hM', dd, sr'⟩ := ar'
  refine ⟨rfl, ?_⟩
  walk_at "nx"
  -- return
  have S := S.perm (pm.append_right _)
  have mc : ∀ {cn : List Ch} {c : Ch}, c ∈ cells5 L (some (.ref Li)) (some (.ref Dd)) (some (.ref An)) less fst tF → c ∈ cn ++ ((dx, InsP (QFields ⟨f1, f2, f3, f4, f5⟩)) :: (x, InstP 93 dx) ::
    (f1, FnP A_read "_law_sorted.<locals>.read" [("lie", L + 5), ("first", L + 1), ("deeds", L + 4)] c1) :: (f2, FnP A_write "_law_sorted.<locals>.write" [("lie", L + 5), ("first", L + 1), ("deeds", L + 4)] c2) ::
    (f3, FnP A_ask "_law_sorted.<locals>.ask" [("less", L + 2), ("answers", L + 3)] c3) :: (f4, FnP A_hold "_law_sorted.<locals>.hold" [("deeds", L + 4)] c4) :: (f5, FnP A_drop "_law_sorted.<locals>.drop" [("deeds", L + 4)] c5) ::
    (cells5 L (some (.ref Li)) (some (.ref Dd)) (some (.ref An)) less fst tF ++ tabCh 118 te5)) := fun hc =>
      List.mem_append_right _ (List.mem_cons_of_mem _ (List.mem_cons_of_mem _ (List.mem_cons_of_mem _ (List.mem_cons_of_mem _ (List.mem_cons_of_mem _ (List.mem_cons_of_mem _ (List.mem_cons_of_mem _ (List.mem_append_left _ hc))))))))
  refine r_Return ?_
  refine r_Tuple ?_
  refine r_args ?_
  refine out_comp kf gl (rm.less (by lia)) S hl hz rfl (mc (.tail _ (.tail _ (.tail _ (.tail _ (.head _)))))) (mc (.head _)) (List.mem_append_left _ (.head _)) hlen hM' fun D2 h S => ?_
  refine r_args (r_cell (c := L + 4) rfl (S.get (c := (L + 4, CellP (some (.ref Dd)))) (List.mem_cons_of_mem _ (mc (.tail _ (.head _))))) ?_)
  refine r_args (r_cell (c := L + 3) rfl (S.get (c := (L + 3, CellP (some (.ref An)))) (List.mem_cons_of_mem _ (mc (.tail _ (.tail _ (.head _)))))) ?_)
  refine r_args0 ?_
  refine r_newTuple S fun p h S => ?_
  refine hQ _ _ ⟨_, [], ⟨p, D2, Dd, An, te5, bag, subL', refs, rfl, ok5, rfl, dd, sr'⟩, ((S.perm (nw' := ((p, TupP [.ref D2, .ref Dd, .ref An]) :: (D2, LstP (ps'.lie.map val)) :: (Dd, LstP refs) :: (An, LstP (boolV ps'.ans)) :: (bag ++ (tabCh 118 te5 ++ subL'))) ++
    ((Li, MapP M' n) :: (dx, InsP (QFields ⟨f1, f2, f3, f4, f5⟩)) :: (x, InstP 93 dx) ::
    (f1, FnP A_read "_law_sorted.<locals>.read" [("lie", L + 5), ("first", L + 1), ("deeds", L + 4)] c1) :: (f2, FnP A_write "_law_sorted.<locals>.write" [("lie", L + 5), ("first", L + 1), ("deeds", L + 4)] c2) ::
    (f3, FnP A_ask "_law_sorted.<locals>.ask" [("less", L + 2), ("answers", L + 3)] c3) :: (f4, FnP A_hold "_law_sorted.<locals>.hold" [("deeds", L + 4)] c4) :: (f5, FnP A_drop "_law_sorted.<locals>.drop" [("deeds", L + 4)] c5) ::
    cells5 L (some (.ref Li)) (some (.ref Dd)) (some (.ref An)) less fst tF)) ?_).drop).weak fun x v q => by cases q⟩
  walk_at "pm"
end
end

/-! ### Q13 -/
noncomputable section
open PySem PySem.W PyProof.Rows
set_option Elab.async false
set_option maxRecDepth 100000

section
variable {prog : Program} {w : World} {A : Around} {G B h h' : Heap} {K : Frag} {env : Env} {lo : List (Str × Value)} {nw rest : List Ch} {L : Addr}
/-! ## comparing lists -/
noncomputable def RD (h : Heap) (v : Value) (d : PyData) : Prop := ∃ as, Reads h v d as
theorem readsAll_of {vs ds} (x : All2 (RD h) vs ds) : ∃ as, ReadsAll h vs ds as := by
  induction x with
  | nil => exact ⟨[], .nil⟩
  | cons p _ ih => obtain ⟨as, r⟩ := p; obtain ⟨bs, r'⟩ := ih; exact ⟨as ++ bs, .cons r r'⟩
theorem lst_reads {p : Addr} {xs : List Value} {ds : List PyData} (hp : Has h (p, LstP xs)) (x : All2 (RD h) xs ds) : RD h (.ref p) (.list ds) := by
  obtain ⟨as, r⟩ := readsAll_of x
  obtain ⟨n, e⟩ := LstP.at hp
  exact ⟨_, reads_list_at e rfl rfl r⟩
theorem tup_reads {p : Addr} {xs : List Value} {ds : List PyData} (hp : Has h (p, TupP xs)) (x : All2 (RD h) xs ds) : RD h (.ref p) (.tuple ds) := by
  obtain ⟨as, r⟩ := readsAll_of x
  obtain ⟨o, e, n, rfl⟩ := hp
  exact ⟨_, reads_tuple_at e rfl rfl r⟩
theorem c_eqD {a b : Value} {da db : PyData} {Q : Value → Heap → Prop} (ra : RD h a da) (rb : RD h b db) (ha : SeqAt.shaped da = true) (hb : SeqAt.shaped db = true) (hu : A.units + 64 < cLine) (q : Q (.bool (PyData.eqv da db)) h) :
    Run prog w A (compareOp .Eq a b) h Q := by
  intro s E Q' es k
  subst es
  obtain ⟨as, ra⟩ := ra
  obtain ⟨bs, rb⟩ := rb
  exact eq_dataH ra rb ha hb hu (k _ _ (Rest.refl _) q)
theorem c_neD {a b : Value} {da db : PyData} {Q : Value → Heap → Prop} (ra : RD h a da) (rb : RD h b db) (ha : SeqAt.shaped da = true) (hb : SeqAt.shaped db = true) (hu : A.units + 64 < cLine) (q : Q (.bool (!PyData.eqv da db)) h) :
    Run prog w A (compareOp .NotEq a b) h Q := by
  intro s E Q' es k
  subst es
  obtain ⟨as, ra⟩ := ra
  obtain ⟨bs, rb⟩ := rb
  exact ne_dataH ra rb ha hb hu (k _ _ (Rest.refl _) q)
theorem Room.u64 {k : Nat} (r : Room A k) : A.units + 64 < cLine := by have := r.units; unfold cLine; lia

/-! ## stores into a list -/
theorem l_setItem {l : Addr} {items : List Value} {k : Int} {t : Tok} {v : Value} {Q : Unit → Heap → Prop} (S : St G B L h lo nw) (p : Pick (l, LstP items) nw rest) (h0 : 0 ≤ k) (hn : k < items.length) (hz : items.length ≤ 100000)
    (q : ∀ h', St G B L h' lo ((l, LstP (items.set k.toNat v)) :: rest) → Q () h') : Run prog w A (setItem (.ref l) (.int k t) v) h Q := by
  intro s E Q' es kk
  subst es
  obtain ⟨n, x⟩ := LstP.at (S.has p)
  have hl : s.heap.IsList l items.toArray := x.isList
  have hfit : k < 2 ^ 63 := by lia
  unfold setItem
  try with_reducible refine wpAny_holding ?_
  first | refine wpAny_bind (wpAny_pure ?_) | skip
  refine wpAny_bind (wpAny_sequenceKey hl.typeIs (by decide) ?_)
  refine wpAny_bind (wpAny_callSpecial?_slot (name := Str.ofString "__setitem__") hl.typeIs slot_list_setitem
    (wpAny_call_entry slot_list_setitem hl.typeIs entry_list_setitem ?_ (args_list_setitem _ _ _)))
  show wpAny _ _ (Builtin.List.listSubscript? (.int k t) >>= _) _ _ s
  refine wpAny_bind (wpAny_listSubscript_int (fitsIndex_of h0 hfit) ?_)
  clear hfit
  obtain ⟨j, rfl⟩ := Int.eq_ofNat_of_zero_le h0
  have hj : j < items.length := by lia
  have hx' : items.toArray[j]? = some items[j] := by simp [hj]
  show wpAny _ _ ((seqItemAt l j >>= fun r => pure (r.map (j, ·))) >>= _) _ _ s
  refine wpAny_bind (wpAny_bind (wpAny_seqItemAt x rfl (wpAny_pure ?_)))
  rw [hx']
  show wpAny _ _ (setSeqItemAt l j v >>= _) _ _ s
  have fin : Q' () { s with heap := s.heap.update l (Obj.mapSeq (·.setIfInBounds j v)) } := kk _ _ ⟨rfl, rfl, rfl⟩ (q _ (S.lst p x (·.setIfInBounds j v) (by simp)))
  refine wpAny_bind (wpAny_setSeqItemAt x rfl ?_)
  first
    | exact wpAny_bind (wpAny_pure (wpAny_pure ⟨.none, rfl, wpAny_pure fin⟩))
    | exact wpAny_pure ⟨.none, rfl, wpAny_pure fin⟩

/-! ## more of ints -/
theorem r_mod {a b : Int} {t u : Tok} {Q : Value → Heap → Prop} (hb : 0 < b) (q : ∀ t, Q (.int (a % b) t) h) : Run prog w A (binaryOp .Mod (.int a t) (.int b u)) h Q :=
  fun _ _ _ e c => PyProof.Rows.mod_int (by lia) (c _ _ ⟨rfl, rfl, rfl⟩ (e ▸ (by rw [Int.fmod_eq_emod_of_nonneg a (by lia)]; exact q _)))
theorem r_mul {a b : Int} {t u : Tok} {Q : Value → Heap → Prop} (hm : IntMulOk a b) (q : ∀ t, Q (.int (a * b) t) h) : Run prog w A (binaryOp .Mult (.int a t) (.int b u)) h Q :=
  fun _ _ _ e c => PyProof.Rows.mul_int (c _ _ ⟨rfl, rfl, rfl⟩ (e ▸ q _)) hm
end
end

/-! ### W11 -/
noncomputable section
open PySem PySem.W PyProof.Rows
set_option Elab.async false
set_option maxRecDepth 100000
theorem mulOk {a b : Int} (h : b.natAbs < 2 ^ 60) : IntMulOk a b := by
  refine .of_right ?_
  unfold Builtin.Int.intBits
  split
  · lia
  · rename_i hb
    have h0 : b.natAbs ≠ 0 := by intro q; apply hb; simpa using q
    have := (Nat.log2_lt h0).mpr h
    lia
/-- the box of the law -/
noncomputable def BoxIs (bx : Addr) (sub : List Ch) : Prop := ∃ inner c t vs ns, sub = [(bx, LstP [.ref inner, .int c t]), (inner, LstP vs)] ∧ IntsAre vs ns ∧ ns.length ≤ 100 ∧ 0 ≤ c ∧ c ≤ 1000000
noncomputable def rankOf (k a b : Int) : Int := if k = 0 then a else if k = 1 then 0 - a else if k = 2 then a % 4 else a * 64 + b

section
variable {prog : Program} {w : World} {A : Around} {G B h h' : Heap} {K : Frag} {env : Env} {lo : List (Str × Value)} {nw rest : List Ch} {L : Addr}
theorem intsAre_rd {vs ns} (x : IntsAre vs ns) : All2 (RD h) vs (ns.map PyData.int) := by
  induction x with
  | nil => exact .nil
  | cons n t _ ih => exact .cons ⟨[], .int n t⟩ ih

set_option maxHeartbeats 4000000 in
/-- the counter may grow by one at each call: `n` calls are left -/
theorem take_spec (kf : KF K) (gl : Gl K G) {bx inner : Addr} {c wd : Int} {t u : Tok} {vs : List Value} {ns : List Int} (room : Room A 3) (gh : Sub G h) (O : Own G h [(bx, LstP [.ref inner, .int c t]), (inner, LstP vs)]) (hi : IntsAre vs ns) (hn : ns.length ≤ 100) (hc : 0 ≤ c ∧ c ≤ 100000) (hw : 0 < wd) :
    Run prog w A (call (.ref 104) [.ref bx, .int wd u]) h fun v h' => ∃ sub', (∃ r t' vs' ns' u', v = .int r u' ∧ 0 ≤ r ∧ r < wd ∧ sub' = [(bx, LstP [.ref inner, .int (c + 1) t']), (inner, LstP vs')] ∧ IntsAre vs' ns' ∧ ns'.length ≤ 100) ∧ Post G h [(bx, LstP [.ref inner, .int c t]), (inner, LstP vs)] sub' h' := by
  refine call_fn (binds := [("box", .ref bx), ("wide", .int wd u)]) room.lt gl gh O (kf.f_take h (gl.kin.keeps gh)) (by intros; rfl) (by decide) (locs rfl) rfl rfl rfl ?_
  intro B L h₁ cdv bo S
  have rm : Room (A.deeper (envX "_law_take" A_take.scope L 104 cdv [])) 2 := room.deeper _
  refine Run.gen fun Q hQ => ?_
  refine r_cons (r_SetSub ?_)
  refine r_BinOp ?_
  refine r_Subscript (r_local S rfl (r_int fun t1 => ?_))
  refine t_list (v := .int c t) S.own.has (by decide) (by decide) rfl ?_
  refine r_int fun t2 => r_add fun t3 => ?_
  refine r_local S rfl (r_int fun t4 => ?_)
  refine l_setItem S Pick.head (by decide) (by show (1 : Int) < 2; decide) (by show 2 ≤ 100000; decide) fun h S => ?_
  have S : St G B L h [("wide", .int wd u), ("box", .ref bx)] [(bx, LstP [.ref inner, .int (c + 1) t3]), (inner, LstP vs)] := S
  walk_at "nx"
  refine r_If ?_
  refine r_testCmp ?_
  refine r_Subscript (r_local S rfl (r_int fun t5 => ?_))
  refine t_list (v := .ref inner) S.own.has (by decide) (by decide) rfl ?_
  refine r_List (r_args0 ?_)
  refine r_newList S fun e h S => ?_
  refine c_neD (lst_reads (S.has Pick.head.tail.tail) (intsAre_rd hi)) (lst_reads (S.has Pick.head) .nil) (ke_shaped_ints _) (by decide) rm.u64 ?_
  refine r_truthB ?_
  have S := S.drop1
  cases hi with
  | nil =>
    rw [show (!PyData.eqv (.list (List.map PyData.int [])) (.list [])) = false from rfl, if_neg Bool.false_ne_true]
    refine r_nil ?_
    walk_at "nx"
    refine r_Return ?_
    refine r_BinOp ?_
    refine r_BinOp ?_
    refine r_BinOp ?_
    refine r_Subscript (r_local S rfl (r_int fun t6 => ?_))
    refine t_list (v := .int (c + 1) t3) S.own.has (by decide) (by decide) rfl ?_
    refine r_BinOp ?_
    refine r_Subscript (r_local S rfl (r_int fun t6 => ?_))
    refine t_list (v := .int (c + 1) t3) S.own.has (by decide) (by decide) rfl ?_
    refine r_int fun t7 => r_add fun t8 => ?_
    refine r_mul (mulOk (by lia)) fun t9 => ?_
    refine r_int fun t7 => r_fdiv (by decide) (by decide) fun t8 => ?_
    refine r_local S rfl ?_
    refine r_mod hw fun t9 => ?_
    exact hQ _ _ ⟨_, _, ⟨_, _, _, _, _, rfl, Int.emod_nonneg _ (by lia), Int.emod_lt_of_pos _ hw, rfl, .nil, Nat.zero_le _⟩, S⟩
  | @cons n tn vs' ns' r =>
    rw [show (!PyData.eqv (.list (List.map PyData.int (n :: ns'))) (.list [])) = true from rfl, if_pos rfl]
    refine r_cons (r_Return ?_)
    refine r_BinOp ?_
    refine r_Method ?_
    refine r_Subscript (r_local S rfl (r_int fun t6 => ?_))
    refine t_list (v := .ref inner) S.own.has (by decide) (by decide) rfl ?_
    refine l_method (name := "pop") (S.has Pick.head.tail) PySem.F.slot_list_pop (by kernel_rfl) ?_
    refine r_blt ?_
    refine r_args (r_int fun t7 => ?_)
    refine r_args0 ?_
    refine l_pop0 S Pick.head.tail (by rw [r.length]; simp only [List.length_cons] at hn; lia) fun h S => ?_
    refine r_local S rfl ?_
    refine r_mod hw fun t9 => ?_
    exact ret1 (hQ _ _ ⟨_, _, ⟨_, _, _, _, _, rfl, Int.emod_nonneg _ (by lia), Int.emod_lt_of_pos _ hw, rfl, r, by simp only [List.length_cons] at hn; lia⟩, S.perm (List.Perm.swap _ _ _)⟩)
end
end

/-! ### W12 -/
noncomputable section
open PySem PySem.W PyProof.Rows
set_option Elab.async false
set_option maxRecDepth 100000

/-- a pair: its value, its number and its tag -/
structure Z where
  v : Value
  a : Int
  b : Int
noncomputable def rk (k : Int) (z : Z) : Int := rankOf k z.a z.b
noncomputable def PairIn (h : Heap) (z : Z) : Prop := ∃ p t u, z.v = .ref p ∧ Has h (p, TupP [.int z.a t, .int z.b u])
theorem PairIn.sub {h h' : Heap} {z : Z} (x : PairIn h z) (s : Sub h h') : PairIn h' z := let ⟨p, t, u, e, q⟩ := x; ⟨p, t, u, e, s.has q⟩
noncomputable def zD (zs : List Z) : PyData := .list (zs.map fun z => .tuple [.int z.a, .int z.b])
theorem pairIn_rd {h : Heap} {zs : List Z} (k : ∀ z ∈ zs, PairIn h z) : All2 (RD h) (zs.map Z.v) (zs.map fun z => PyData.tuple [.int z.a, .int z.b]) := by
  induction zs with
  | nil => exact .nil
  | cons z r ih =>
    obtain ⟨p, t, u, e, q⟩ := k z (.head _)
    refine .cons ?_ (ih fun z hz => k z (.tail _ hz))
    rw [e]
    exact tup_reads q (.cons ⟨[], .int _ _⟩ (.cons ⟨[], .int _ _⟩ .nil))
theorem zD_lay : ∀ zs : List Z, PyData.canLayAll0 (zs.map fun z => PyData.tuple [.int z.a, .int z.b]) = true
  | [] => rfl
  | z :: r => by simp only [List.map_cons, PyData.canLayAll0, zD_lay r]; rfl
theorem zD_depth : ∀ zs : List Z, PyData.depthAll (zs.map fun z => PyData.tuple [.int z.a, .int z.b]) ≤ 1
  | [] => by simp [PyData.depthAll]
  | z :: r => by
    have := zD_depth r
    simp only [List.map_cons, PyData.depthAll, PyData.depth]
    lia
theorem zD_shaped (zs : List Z) : SeqAt.shaped (zD zs) = true := by
  have h := zD_depth zs
  refine Bool.and_eq_true_iff.mpr ⟨?_, decide_eq_true ?_⟩
  · show PyData.canLay0 (.list _) = true
    simp only [PyData.canLay0, zD_lay]
  · show PyData.depth (.list _) ≤ 64
    simp only [PyData.depth]
    lia

section
variable {prog : Program} {w : World} {A : Around} {G B h h' : Heap} {K : Frag} {env : Env} {lo : List (Str × Value)} {nw rest : List Ch} {L : Addr}
theorem r_IfExp {test body orelse : Expr} {pos : Pos} {Q : Value → Heap → Prop} (q : Run prog w A (isTrue test env (eval test env)) h fun c h₂ => if c then Run prog w A (eval body env) h₂ Q else Run prog w A (eval orelse env) h₂ Q) :
    Run prog w A (eval (.IfExp test body orelse pos) env) h Q :=
  fun _ _ _ es k => IfExp_ (q.wp es fun c _ r1 q1 => by
    cases c
    · exact (show Run prog w A (eval orelse env) _ Q from q1).wp rfl fun _ _ r2 q2 => k _ _ (r1.trans r2) q2
    · exact (show Run prog w A (eval body env) _ Q from q1).wp rfl fun _ _ r2 q2 => k _ _ (r1.trans r2) q2)
theorem r_and {x : Expr} {rest : List Expr} {pos : Pos} {whole : Sem Value} {Q : Bool → Heap → Prop} (q : Run prog w A (isTrue x env (eval x env)) h fun c h₂ => if c then Run prog w A (isTrue (.BoolOp .And rest pos) env whole) h₂ Q else Q false h₂) :
    Run prog w A (isTrue (.BoolOp .And (x :: rest) pos) env whole) h Q :=
  fun _ _ _ es k => isTrue_and (q.wp es fun c _ r1 q1 => by
    cases c
    · exact k _ _ r1 q1
    · exact (show Run prog w A (isTrue (.BoolOp .And rest pos) env whole) _ Q from q1).wp rfl fun _ _ r2 q2 => k _ _ (r1.trans r2) q2)
theorem r_and0 {pos : Pos} {whole : Sem Value} {Q : Bool → Heap → Prop} (q : Q true h) : Run prog w A (isTrue (.BoolOp .And [] pos) env whole) h Q := fun _ _ _ es k => isTrue_and_nil (k _ _ (Rest.refl _) (es ▸ q))
theorem r_or {x : Expr} {rest : List Expr} {pos : Pos} {whole : Sem Value} {Q : Bool → Heap → Prop} (q : Run prog w A (isTrue x env (eval x env)) h fun c h₂ => if c then Q true h₂ else Run prog w A (isTrue (.BoolOp .Or rest pos) env whole) h₂ Q) :
    Run prog w A (isTrue (.BoolOp .Or (x :: rest) pos) env whole) h Q :=
  fun _ _ _ es k => isTrue_or (q.wp es fun c _ r1 q1 => by
    cases c
    · exact (show Run prog w A (isTrue (.BoolOp .Or rest pos) env whole) _ Q from q1).wp rfl fun _ _ r2 q2 => k _ _ (r1.trans r2) q2
    · exact k _ _ r1 q1)
theorem r_or0 {pos : Pos} {whole : Sem Value} {Q : Bool → Heap → Prop} (q : Q false h) : Run prog w A (isTrue (.BoolOp .Or [] pos) env whole) h Q := fun _ _ _ es k => isTrue_or_nil (k _ _ (Rest.refl _) (es ▸ q))
theorem ownNil {G h : Heap} : Own G h [] := Own.nil
theorem St.call0 {B : Heap} {L : Addr} {h' : Heap} {lo nw sub'} (S : St G B L h lo nw) (P : Post G h [] sub' h') : St G B L h' lo (sub' ++ nw) := S.call (sub := []) (rest := nw) (List.Perm.refl _) P
theorem bof_nil {h B : Heap} (bo : Bof h [] B) : Sub h B := fun b o e => bo.keep b o e (by intro q; cases q)

set_option maxHeartbeats 4000000 in
theorem rank_spec (kf : KF K) (gl : Gl K G) {z : Z} {k : Int} {t : Tok} (room : Room A 2) (gh : Sub G h) (hz : PairIn G z) (hk : 0 ≤ k ∧ k < 4) :
    Run prog w A (call (.ref 111) [.int k t, z.v]) h fun v h' => ∃ sub', (∃ u, v = .int (rk k z) u ∧ sub' = []) ∧ Post G h [] sub' h' := by
  obtain ⟨p, ta, tb, ez, hp⟩ := hz
  rw [ez]
  refine call_fn (binds := [("kind", .int k t), ("one", .ref p)]) room.lt gl gh ownNil (kf.f_rank h (gl.kin.keeps gh)) (by intros; rfl) (by decide) (locs rfl) rfl rfl rfl ?_
  intro B L h₁ cdv bo S
  refine Run.gen fun Q hQ => ?_
  have hp' : ∀ h, Sub G h → Has h (p, TupP [.int z.a ta, .int z.b tb]) := fun h s => s.has hp
  refine r_cons (r_Return ?_)
  refine r_Subscript ?_
  refine r_List ?_
  refine r_args ?_
  refine r_Subscript (r_local S rfl (r_int fun t1 => ?_))
  refine t_tuple (i := 0) (hp' _ S.gh) (by decide) rfl ?_
  refine r_args ?_
  refine r_BinOp (r_int fun t2 => ?_)
  refine r_Subscript (r_local S rfl (r_int fun t1 => ?_))
  refine t_tuple (i := 0) (hp' _ S.gh) (by decide) rfl ?_
  refine r_sub fun t3 => ?_
  refine r_args ?_
  refine r_BinOp ?_
  refine r_Subscript (r_local S rfl (r_int fun t1 => ?_))
  refine t_tuple (i := 0) (hp' _ S.gh) (by decide) rfl ?_
  refine r_int fun t4 => r_mod (by decide) fun t5 => ?_
  refine r_args ?_
  refine r_BinOp ?_
  refine r_BinOp ?_
  refine r_Subscript (r_local S rfl (r_int fun t1 => ?_))
  refine t_tuple (i := 0) (hp' _ S.gh) (by decide) rfl ?_
  refine r_int fun t6 => r_mul (mulOk (by decide)) fun t7 => ?_
  refine r_Subscript (r_local S rfl (r_int fun t1 => ?_))
  refine t_tuple (i := 1) (hp' _ S.gh) (by decide) rfl ?_
  refine r_add fun t8 => ?_
  refine r_args0 ?_
  refine r_newList S fun D h S => ?_
  refine r_local S rfl ?_
  have hcase : k = 0 ∨ k = 1 ∨ k = 2 ∨ k = 3 := by lia
  rcases hcase with rfl | rfl | rfl | rfl
  · refine t_list S.own.has (by decide) (by decide) rfl ?_
    exact ret1 (hQ _ _ ⟨[], _, ⟨_, rfl, rfl⟩, S.drop1⟩)
  · refine t_list S.own.has (by decide) (by decide) rfl ?_
    exact ret1 (hQ _ _ ⟨[], _, ⟨_, rfl, rfl⟩, S.drop1⟩)
  · refine t_list S.own.has (by decide) (by decide) rfl ?_
    exact ret1 (hQ _ _ ⟨[], _, ⟨_, rfl, rfl⟩, S.drop1⟩)
  · refine t_list S.own.has (by decide) (by decide) rfl ?_
    exact ret1 (hQ _ _ ⟨[], _, ⟨_, rfl, rfl⟩, S.drop1⟩)

set_option maxHeartbeats 4000000 in
theorem ranks_spec (kf : KF K) (gl : Gl K G) {l : Addr} {zs : List Z} {k : Int} {t : Tok} (room : Room A 5) (gh : Sub G h) (hl : Has G (l, LstP (zs.map Z.v))) (hz : ∀ z ∈ zs, PairIn G z) (hn : zs.length ≤ 1000) (hk : 0 ≤ k ∧ k < 4) :
    Run prog w A (call (.ref 116) [.int k t, .ref l]) h fun v h' => ∃ sub', (∃ D vs, v = .ref D ∧ sub' = [(D, LstP vs)] ∧ IntsAre vs (zs.map (rk k))) ∧ Post G h [] sub' h' := by
  obtain ⟨cdv, hf⟩ := (kf.f_ranks h (gl.kin.keeps gh)).get
  refine call_fnC (binds := [("kind", .int k t), ("some", .ref l)]) (lo := [("some", .ref l)]) room.lt gl gh ownNil hf (by intros; rfl) (fun _ => kindsX rfl _) (by decide) (fun L => ⟨rfl, trivial⟩) rfl rfl rfl ?_
  intro B L h₁ bo S
  have S : St G B L h₁ [("some", .ref l)] [(L + 1, CellP (some (.int k t)))] := S
  have rm : Room (A.deeper (envOfC "_law_ranks" A_ranks.scope L 116 cdv)) 4 := room.deeper _
  refine Run.gen fun Q hQ => ?_
  refine r_cons (r_Return ?_)
  refine r_ListComp (G := G) (cl := [("kind", L + 1)]) ?_ rfl (by decide) rfl (by decide)
  refine r_local S rfl ?_
  have hlist : ∀ h, Sub G h → h.IsList l (zs.map Z.v).toArray := fun h s => LstP.isList (s.has hl)
  refine i_list S (hlist _ S.gh) fun I h S _ => ?_
  refine comp_go [(I, LiP l 0)] (fun v sub' => ∃ D vs, v = .ref D ∧ sub' = [(D, LstP vs)] ∧ IntsAre vs (zs.map (rk k))) S.gh (own_gl (sub := [(I, LiP l 0)]) (rest := [(L + 1, CellP (some (.int k t)))]) S) ?_ ?_
  · rintro v h' sub' ⟨D, vs, rfl, rfl, hi⟩ P
    have S := St.callee2 (sub := [(I, LiP l 0)]) (rest := [(L + 1, CellP (some (.int k t)))]) S P
    exact ret1 (hQ _ _ ⟨[(D, LstP vs)], _, ⟨D, vs, rfl, rfl, hi⟩, S.drop⟩)
  · intro R' hR B' C D h₁ bo' S'
    have hB : B'.IsCell (L + 1) (some (.int k t)) := by
      obtain ⟨oc, e1, e2⟩ := S.has (Pick.tail Pick.head)
      refine ⟨oc, bo'.keep _ _ e1 fun hm => ?_, e2⟩
      obtain ⟨d, hd, ed⟩ := List.mem_map.mp hm
      exact Own.apart (l := [(I, LiP l 0)]) (r := [(L + 1, CellP (some (.int k t)))]) S.own hd (.head _) ed
    have rmh : A.handled = none := room.hd
    refine comp_turns (fun n h => ∀ C' : Prop, (∀ i vs lo, n = zs.length - i → i ≤ zs.length → St G B' C h lo [(I, LiP l i), (D, LstP vs)] → IntsAre vs ((zs.take i).map (rk k)) → C') → C') zs.length (fun _ k => k 0 [] [] rfl (Nat.zero_le _) (S'.perm (List.Perm.swap _ _ _)) .nil) ?_ ?_
    · exact fun h hI Q hq => hI _ fun i vs lo _ _ S _ => i_again S.own.has hq
    · refine fun N Zf nx zz n h hI => hI _ fun i vs lo hn' hi S hvs => ?_
      clear hI
      by_cases hlt : i < zs.length
      · have hget : zs[i]? = some zs[i] := List.getElem?_eq_getElem hlt
        refine i_next (v := zs[i].v) S Pick.head (hlist h S.gh) (by rw [List.getElem?_map, hget]; rfl) fun h S => ?_
        dsimp only
        refine r_pure ?_
        refine r_toName (r_store S fun h S => ?_)
        refine r_Call ?_
        refine r_global gl S.gh kf.g_rank ?_
        refine r_fn ?_
        refine r_args (r_cell (c := L + 1) rfl (isCell_sub S.keep hB) ?_)
        refine r_args (r_local S (by rw [look_put, if_pos rfl]) ?_)
        refine r_args0 ⟨(kf.f_rank _ (gl.kin.keeps S.gh)).fun, ?_⟩
        refine (rank_spec kf gl (rm.less (by lia)) S.gh (hz _ (List.getElem_mem hlt)) hk).mono ?_
        rintro v h' ⟨sub', ⟨u, rfl, rfl⟩, P⟩
        have S := S.call0 P
        refine l_append S Pick.head.tail (by rw [hvs.length, List.length_map, List.length_take]; lia) fun h S => ?_
        refine nx _ (zs.length - (i + 1)) _ (by lia) fun _ k' => k' (i + 1) (vs ++ [.int (rk k zs[i]) u]) _ rfl hlt (S.perm (List.Perm.swap _ _ _)) ?_
        rw [List.take_add_one, hget, List.map_append]
        exact ksk_snoc hvs
      · have : i = zs.length := by lia
        subst this
        refine i_end rmh S Pick.head (hlist h S.gh) (by simp) fun h S => ?_
        refine zz _ [(D, LstP vs)] lo (hR _ _ ⟨D, vs, rfl, rfl, ?_⟩) S
        rw [List.take_length] at hvs
        exact hvs
end
end

/-! ### W13 -/
noncomputable section
open PySem PySem.W PyProof.Rows
set_option Elab.async false
set_option maxRecDepth 100000

noncomputable def mrg (key : Z → Int) (xs : List Z) : List Z → List Z :=
  @List.rec Z (fun _ => List Z → List Z) (fun ys => ys)
    (fun x xs ih ys => @List.rec Z (fun _ => List Z) (x :: xs) (fun y ys ih2 => if key y < key x then y :: ih2 else x :: ih (y :: ys)) ys) xs
theorem mrg_cons (key : Z → Int) (x y : Z) (xs ys : List Z) : mrg key (x :: xs) (y :: ys) = if key y < key x then y :: mrg key (x :: xs) ys else x :: mrg key xs (y :: ys) := rfl
theorem mrg_left (key : Z → Int) (ys : List Z) : mrg key [] ys = ys := rfl
theorem mrg_nil (key : Z → Int) (xs : List Z) : mrg key xs [] = xs := by cases xs <;> rfl
theorem eqv_nil (zs : List Z) : PyData.eqv (zD zs) (.list []) = zs.isEmpty := by cases zs <;> rfl

section
variable {prog : Program} {w : World} {A : Around} {G B h h' : Heap} {K : Frag} {env : Env} {lo : List (Str × Value)} {nw rest : List Ch} {L : Addr}
set_option maxHeartbeats 8000000 in
theorem merged_spec (kf : KF K) (gl : Gl K G) {l1 l2 : Addr} {xs ys : List Z} {k : Int} {t : Tok} (room : Room A 5) (gh : Sub G h) (h1 : Has G (l1, LstP (xs.map Z.v))) (h2 : Has G (l2, LstP (ys.map Z.v)))
    (hz : ∀ z ∈ xs ++ ys, PairIn G z) (hn : xs.length + ys.length ≤ 1000) (hk : 0 ≤ k ∧ k < 4) :
    Run prog w A (call (.ref 128) [.int k t, .ref l1, .ref l2]) h fun v h' => ∃ sub', (∃ D, v = .ref D ∧ sub' = [(D, LstP ((mrg (rk k) xs ys).map Z.v))]) ∧ Post G h [] sub' h' := by
  refine call_fn (binds := [("kind", .int k t), ("one", .ref l1), ("other", .ref l2)]) room.lt gl gh ownNil (kf.f_merged h (gl.kin.keeps gh)) (by intros; rfl) (by decide) (locs rfl) rfl rfl rfl ?_
  intro B L h₁ cdv bo S
  have rm : Room (A.deeper (envX "_law_merged" A_merged.scope L 128 cdv [])) 4 := room.deeper _
  refine Run.gen fun Q hQ => ?_
  refine r_cons (r_AssignTupS (names := ["found", "here", "there"]) ?_ rfl rfl)
  refine r_Tuple ?_
  refine r_args ?_
  refine r_List (r_args0 ?_)
  refine r_newList S fun F h S => ?_
  refine r_args ?_
  refine r_Call ?_
  refine r_builtin gl S.gh kf.g_list boot_list ?_
  refine r_typ ?_
  refine r_args (r_local S rfl ?_)
  refine r_args0 ?_
  refine c_list S (LstP.isList (S.gh.has h1)) (by rw [List.length_map]; lia) fun H h S => ?_
  refine r_args ?_
  refine r_Call ?_
  refine r_builtin gl S.gh kf.g_list boot_list ?_
  refine r_typ ?_
  refine r_args (r_local S rfl ?_)
  refine r_args0 ?_
  refine c_list S (LstP.isList (S.gh.has h2)) (by rw [List.length_map]; lia) fun T h S => ?_
  refine r_args0 ?_
  refine r_newTuple S fun p h S => ?_
  refine r_unpackItems rm.hd S S.own.has rfl fun h S _ => ?_
  have S := S.drop1
  refine r_ord (r_bindName (r_store S fun h S => ?_))
  refine r_ord (r_bindName (r_store S fun h S => ?_))
  refine r_ord (r_bindName (r_store S fun h S => ?_))
  refine r_ordNil ?_
  walk_at "nx"
  refine r_While' (fun n h => ∀ C : Prop, (∀ fs hs ts lo, n = hs.length + ts.length → St G B L h lo [(F, LstP (fs.map Z.v)), (H, LstP (hs.map Z.v)), (T, LstP (ts.map Z.v))] → look "kind" lo = some (.int k t) → look "found" lo = some (.ref F) → look "here" lo = some (.ref H) → look "there" lo = some (.ref T) →
    fs ++ mrg (rk k) hs ts = mrg (rk k) xs ys → (∀ z ∈ hs ++ ts, PairIn G z) → fs.length + hs.length + ts.length ≤ 1000 → C) → C) (xs.length + ys.length)
    (fun _ k => k [] xs ys _ rfl (S.perm (by show List.Perm _ ([(F, LstP []), _, _] : List Ch); walk_at "pm")) rfl rfl rfl rfl rfl hz (by simpa using hn)) fun T' nx bk n h hI => hI _ fun fs hs ts lo hnn S e1 e2 e3 e4 em hz' hlen => ?_
  clear hI
  have done : (hs = [] ∨ ts = []) → ∀ h, St G B L h lo [(F, LstP (fs.map Z.v)), (H, LstP (hs.map Z.v)), (T, LstP (ts.map Z.v))] →
      Run prog w (A.deeper (envX "_law_merged" A_merged.scope L 128 cdv [])) (execs [] (envX "_law_merged" A_merged.scope L 128 cdv [])) h (Onward prog w (A.deeper (envX "_law_merged" A_merged.scope L 128 cdv [])) (envX "_law_merged" A_merged.scope L 128 cdv []) (A_merged.body.drop 2)
        Q) := by
    intro hor h S
    refine r_nil ?_
    refine onw ?_
    refine r_cons (r_Return ?_)
    refine r_BinOp ?_
    refine r_BinOp (r_local S e2 (r_local S e3 ?_))
    refine l_add S (S.has Pick.head) (S.has Pick.head.tail) (by rw [List.length_map]; lia) (by rw [List.length_map]; lia) fun D1 h S => ?_
    refine r_local S e4 ?_
    refine l_add S (S.has Pick.head) (S.has Pick.head.tail.tail.tail) (by rw [List.length_append, List.length_map, List.length_map]; lia) (by rw [List.length_map]; lia) fun D2 h S => ?_
    have : fs.map Z.v ++ hs.map Z.v ++ ts.map Z.v = (mrg (rk k) xs ys).map Z.v := by
      rw [← em, List.map_append, List.append_assoc]
      rcases hor with rfl | rfl
      · rw [mrg_left]; rfl
      · rw [mrg_nil]; simp
    rw [this] at S
    exact ret1 (hQ _ _ ⟨[(D2, _)], _, ⟨D2, rfl, rfl⟩, S.drop (nw := [(D2, LstP ((mrg (rk k) xs ys).map Z.v))])⟩)
  refine r_and ?_
  refine r_testCmp ?_
  refine r_local S e3 ?_
  refine r_List (r_args0 ?_)
  refine r_newList S fun E1 h S => ?_
  refine c_neD (lst_reads (S.has Pick.head.tail.tail) (pairIn_rd fun z hz => (hz' z (List.mem_append_left _ hz)).sub S.gh)) (lst_reads (S.has Pick.head) .nil) (zD_shaped _) (by decide) rm.u64 ?_
  refine r_truthB ?_
  have S := S.drop1
  have ev : PyData.eqv (.list (hs.map fun z => PyData.tuple [.int z.a, .int z.b])) (.list []) = hs.isEmpty := eqv_nil hs
  rw [ev]
  cases hs with
  | nil =>
    rw [if_neg (by decide)]
    rw [if_neg (by decide)]
    exact done (.inl rfl) _ S
  | cons x hs =>
    rw [if_pos (by rfl)]
    refine r_and ?_
    refine r_testCmp ?_
    refine r_local S e4 ?_
    refine r_List (r_args0 ?_)
    refine r_newList S fun E1 h S => ?_
    refine c_neD (lst_reads (S.has Pick.head.tail.tail.tail) (pairIn_rd fun z hz => (hz' z (List.mem_append_right _ hz)).sub S.gh)) (lst_reads (S.has Pick.head) .nil) (zD_shaped _) (by decide) rm.u64 ?_
    refine r_truthB ?_
    have S := S.drop1
    have ev : PyData.eqv (.list (ts.map fun z => PyData.tuple [.int z.a, .int z.b])) (.list []) = ts.isEmpty := eqv_nil ts
    rw [ev]
    cases ts with
    | nil =>
      rw [if_neg (by decide)]
      rw [if_neg (by decide)]
      exact done (.inr rfl) _ S
    | cons y ts =>
      rw [if_pos (by rfl)]
      refine r_and0 ?_
      rw [if_pos rfl]
      refine r_cons (r_AssignName ?_)
      refine r_IfExp ?_
      refine r_testCmp ?_
      refine r_Call ?_
      refine r_global gl S.gh kf.g_rank ?_
      refine r_fn ?_
      refine r_args (r_local S e1 ?_)
      refine r_args ?_
      refine r_Subscript (r_local S e4 (r_int fun t1 => ?_))
      refine t_list (v := y.v) (S.has Pick.head.tail.tail) (by decide) (by decide) rfl ?_
      refine r_args0 ⟨(kf.f_rank _ (gl.kin.keeps S.gh)).fun, ?_⟩
      refine (rank_spec kf gl (rm.less (by lia)) S.gh (hz' y (List.mem_append_right _ (.head _))) hk).mono ?_
      rintro v h ⟨sub', ⟨u, rfl, rfl⟩, P⟩
      have S := S.call0 P
      refine r_Call ?_
      refine r_global gl S.gh kf.g_rank ?_
      refine r_fn ?_
      refine r_args (r_local S e1 ?_)
      refine r_args ?_
      refine r_Subscript (r_local S e3 (r_int fun t1 => ?_))
      refine t_list (v := x.v) (S.has Pick.head.tail) (by decide) (by decide) rfl ?_
      refine r_args0 ⟨(kf.f_rank _ (gl.kin.keeps S.gh)).fun, ?_⟩
      refine (rank_spec kf gl (rm.less (by lia)) S.gh (hz' x (List.mem_append_left _ (.head _))) hk).mono ?_
      rintro v h ⟨sub', ⟨u', rfl, rfl⟩, P⟩
      have S := S.call0 P
      refine r_lt ?_
      refine r_truthB ?_
      have em' := em
      rw [mrg_cons] at em'
      by_cases hlt : rk k y < rk k x
      · rw [decide_eq_true hlt, if_pos rfl]
        rw [if_pos hlt] at em'
        refine r_local S e4 ?_
        refine r_store S fun h S => ?_
        walk_at "nx"
        refine r_Expr ?_
        refine r_Method ?_
        refine r_local S (by rw [look_put, if_neg (by decide)]; exact e2) ?_
        refine l_method (name := "append") (S.has Pick.head) PySem.F.slot_list_append (by kernel_rfl) ?_
        refine r_blt ?_
        refine r_args ?_
        refine r_Method ?_
        refine r_local S (by rw [look_put, if_pos rfl]) ?_
        refine l_method (name := "pop") (S.has Pick.head.tail.tail) PySem.F.slot_list_pop (by kernel_rfl) ?_
        refine r_blt ?_
        refine r_args (r_int fun t7 => ?_)
        refine r_args0 ?_
        refine l_pop0 S Pick.head.tail.tail (by simp only [List.length_cons] at hlen; rw [List.length_map]; lia) fun h S => ?_
        refine r_args0 ?_
        refine l_append S Pick.head.tail (by rw [List.length_map]; lia) fun h S => ⟨rfl, ?_⟩
        refine onw (r_nil ?_)
        refine nx _ ((x :: hs).length + ts.length) _ (by simp only [List.length_cons] at *; lia) fun _ k => k (fs ++ [y]) (x :: hs) (ts) _ rfl (S.perm (nw' := [(F, LstP ((fs ++ [y]).map Z.v)), (H, LstP ((x :: hs).map Z.v)), (T, LstP (ts.map Z.v))]) ?_) (by rw [look_put, if_neg (by decide)]; exact e1) (by rw [look_put, if_neg (by decide)]; exact e2)
          (by rw [look_put, if_neg (by decide)]; exact e3) (by rw [look_put, if_neg (by decide)]; exact e4) ?_ ?_ ?_
        · rw [show (fs ++ [y]).map Z.v = fs.map Z.v ++ [y.v] by rw [List.map_append]; rfl]
          walk_at "pm"
        · rw [List.append_assoc]; exact em'
        · exact fun z hz => hz' z (by rcases List.mem_append.mp hz with q | q; exact List.mem_append_left _ q; exact List.mem_append_right _ (.tail _ q))
        · simp only [List.length_append, List.length_cons, List.length_nil] at *; lia
      · rw [decide_eq_false hlt, if_neg (by decide)]
        rw [if_neg hlt] at em'
        refine r_local S e3 ?_
        refine r_store S fun h S => ?_
        walk_at "nx"
        refine r_Expr ?_
        refine r_Method ?_
        refine r_local S (by rw [look_put, if_neg (by decide)]; exact e2) ?_
        refine l_method (name := "append") (S.has Pick.head) PySem.F.slot_list_append (by kernel_rfl) ?_
        refine r_blt ?_
        refine r_args ?_
        refine r_Method ?_
        refine r_local S (by rw [look_put, if_pos rfl]) ?_
        refine l_method (name := "pop") (S.has Pick.head.tail) PySem.F.slot_list_pop (by kernel_rfl) ?_
        refine r_blt ?_
        refine r_args (r_int fun t7 => ?_)
        refine r_args0 ?_
        refine l_pop0 S Pick.head.tail (by simp only [List.length_cons] at hlen; rw [List.length_map]; lia) fun h S => ?_
        refine r_args0 ?_
        refine l_append S Pick.head.tail (by rw [List.length_map]; lia) fun h S => ⟨rfl, ?_⟩
        refine onw (r_nil ?_)
        refine nx _ (hs.length + (y :: ts).length) _ (by simp only [List.length_cons] at *; lia) fun _ k => k (fs ++ [x]) (hs) (y :: ts) _ rfl (S.perm (nw' := [(F, LstP ((fs ++ [x]).map Z.v)), (H, LstP (hs.map Z.v)), (T, LstP ((y :: ts).map Z.v))]) ?_) (by rw [look_put, if_neg (by decide)]; exact e1) (by rw [look_put, if_neg (by decide)]; exact e2)
          (by rw [look_put, if_neg (by decide)]; exact e3) (by rw [look_put, if_neg (by decide)]; exact e4) ?_ ?_ ?_
        · rw [show (fs ++ [x]).map Z.v = fs.map Z.v ++ [x.v] by rw [List.map_append]; rfl]
        · rw [List.append_assoc]; exact em'
        · exact fun z hz => hz' z (by rcases List.mem_append.mp hz with q | q; exact List.mem_append_left _ (.tail _ q); exact List.mem_append_right _ q)
        · simp only [List.length_append, List.length_cons, List.length_nil] at *; lia
end
end

/-! ### W14 -/
noncomputable section
open PySem PySem.W PyProof.Rows
set_option Elab.async false
set_option maxRecDepth 100000

section
variable {prog : Program} {w : World} {A : Around} {G h : Heap} {K : Frag}
theorem call_lam {f : Addr} {a : LamAst} {qual : Str} {cl : List (Str × Addr)} {args : List Value} {binds : List (Str × Value)} {sub : List Ch} {R : Value → List Ch → Prop}
    (room : A.depth < recursionLimit) (gl : Gl K G) (gh : Sub G h) (O : Own G h sub) (hf : IsLam h f a qual cl)
    (hbind : ∀ pm cdv ct, bindArgs (kla_fn "<lambda>" qual a.params a.body a.scope cl pm cdv ct) ⟨args, []⟩ = pure binds)
    (hcell : ∀ x ∈ a.scope.names, x.2 ≠ .cell) (hloc : ∀ x ∈ binds, a.scope.names.lookup x.1 = some .local)
    (hco : a.scope.isCoroutine = false) (hgen : a.scope.isGenerator = false) (hk : a.scope.kind = .function)
    (body : ∀ B L h₁ cdv, Bof h sub B → St G B L h₁ binds.reverse sub →
      Run prog w (A.deeper (envX qual a.scope L f cdv cl)) (eval a.body (envX qual a.scope L f cdv cl)) h₁ fun v h' => ∃ sub' lo', R v sub' ∧ St G B L h' lo' sub') :
    Run prog w A (call (.ref f) args) h fun v h' => ∃ sub', R v sub' ∧ Post G h sub sub' h' := by
  intro s E Q' e k
  subst e
  obtain ⟨o, pm, cdv, ct, ho, hd, hcd⟩ := hf
  have bo := bof_hide s.heap sub
  have gb : Sub G (hideAll s.heap (addrs sub)) := fun b ob eb => bo.keep b ob (gh b ob eb) fun q => by
    obtain ⟨c, hc, ec⟩ := List.mem_map.mp q
    have := (O.1 c hc).2
    rw [ec, eb] at this; cases this
  refine wpAny_call (kla_callFunE (fd := kla_fn "<lambda>" qual a.params a.body a.scope cl pm cdv ct) room ho hd hco hgen rfl hcd ?_)
  rw [hbind]
  refine wpAny_pure (wpAny_newFunctionEnv hcell hloc (fun h₁ hns hsb => ⟨(gl.nolimit.keeps gh).fresh _ hsb, ?_⟩) hk)
  show codeAny _ _ (.expr a.body (envX qual a.scope s.heap.objs.size f cdv cl)) _ _
  have hk₁ : Sub s.heap h₁ := fun b o e => hsb.extBut b o (Nat.ne_of_lt (Heap.lt_size e)) (Heap.get?_push_of_some _ e)
  have S : St G (hideAll s.heap (addrs sub)) s.heap.objs.size h₁ binds.reverse sub := by
    refine ⟨⟨_, hns, fun x v q => ?_⟩, gb, bo.incl.trans hk₁, Nat.le_of_eq (hideAll_size _ _), ⟨fun c hc => ⟨Sub.has hk₁ (O.1 c hc).1, bo.none _ (List.mem_map_of_mem hc)⟩, O.2⟩, fun c hc => ?_⟩
    · show binds.reverse.lookup x = some v
      rw [lookup_look]; exact q
    · obtain ⟨o', e', _⟩ := (O.1 c hc).1
      exact Nat.ne_of_lt (Heap.lt_size e')
  refine kla_codeExpr ((body _ _ h₁ cdv bo S).wp rfl fun v s' re q => ?_)
  obtain ⟨sub', lo', hr, T⟩ := q
  refine k _ s' ⟨re.1, re.2.1, re.2.2⟩ ⟨sub', hr, ?_, fun b ob eb nb => T.keep _ _ (bo.keep b ob eb nb), fun c hc => ?_⟩
  · exact T.own.base fun c hc => gb.none (T.own.1 c hc).2
  · have hn := (T.own.1 c hc).2
    by_cases q : c.1 ∈ addrs sub
    · exact .inl q
    · right
      cases z : s.heap.get? c.1 with
      | none => rfl
      | some ob => rw [bo.keep _ _ z q] at hn; cases hn
end

noncomputable def lawS (i : Nat) : Stmt := A_law.body.getD i (.Pass ⟨0, 0, 0, 0⟩)
noncomputable def A_less : FnAst := fnOfS (lawS 4)
noncomputable def lamOf : Expr → LamAst
  | .Lambda p b s _ => ⟨p, b, s⟩
  | _ => ⟨⟨[], [], none, [], [], none, []⟩, .Constant .none 0 ⟨0, 0, 0, 0⟩, ⟨.function, [], false, false, []⟩⟩
noncomputable def A_lamT : LamAst := lamOf ((exL (exA (stV (lawS 14)))).getD 2 noE)
noncomputable def A_lamR : LamAst := lamOf ((exL (stV (lawS 17))).getD 2 noE)
noncomputable def keyOra (key : Nat → Int) : Ora := fun _ i j => decide (key i < key j)
noncomputable def SR0 : List Bool → List Ch → Prop := fun _ sub => sub = []
noncomputable def SRL (left : Addr) (T : List Bool) : List Bool → List Ch → Prop := fun ans sub => sub = [(left, LstP (boolV (T.drop ans.length)))]
noncomputable def repOra (T : List Bool) : Ora := fun ans _ _ => T.getD ans.length false
theorem boolV_rd {h : Heap} (l : List Bool) : All2 (RD h) (boolV l) (l.map PyData.bool) := by
  induction l with
  | nil => exact .nil
  | cons b r ih => exact .cons ⟨[], .bool b⟩ ih
theorem bools_lay : ∀ l : List Bool, PyData.canLayAll0 (l.map PyData.bool) = true
  | [] => rfl
  | b :: r => by simp only [List.map_cons, PyData.canLayAll0, bools_lay r]; rfl
theorem bools_depth : ∀ l : List Bool, PyData.depthAll (l.map PyData.bool) = 0
  | [] => by simp [PyData.depthAll]
  | b :: r => by simp [PyData.depthAll, PyData.depth, bools_depth r]
theorem bools_shaped (l : List Bool) : SeqAt.shaped (.list (l.map PyData.bool)) = true := by
  refine Bool.and_eq_true_iff.mpr ⟨?_, decide_eq_true ?_⟩
  · show PyData.canLay0 (.list _) = true
    simp only [PyData.canLay0, bools_lay]
  · show PyData.depth (.list _) ≤ 64
    simp only [PyData.depth, bools_depth]
    lia
section
variable {prog : Program} {w : World} {A : Around} {G h : Heap} {K : Frag}
set_option maxHeartbeats 4000000 in
theorem less_run (kf : KF K) (gl : Gl K G) {f ck : Addr} {k : Int} {t : Tok} {zs : Nat → Z} {i j : Nat} (room : Room A 4) (gh : Sub G h) (hf : IsFn G f A_less "law.<locals>.less" [("kind", ck)]) (hc : G.IsCell ck (some (.int k t))) (hz : ∀ i, PairIn G (zs i)) (hk : 0 ≤ k ∧ k < 4) :
    Run prog w A (call (.ref f) [(zs i).v, (zs j).v]) h fun v h' => ∃ sub', (v = .bool (decide (rk k (zs i) < rk k (zs j))) ∧ sub' = []) ∧ Post G h [] sub' h' := by
  refine call_fn (binds := [("one", (zs i).v), ("other", (zs j).v)]) room.lt gl gh ownNil (hf.sub gh) (by intros; rfl) (by decide) (locs rfl) rfl rfl rfl ?_
  intro B L h₁ cdv bo S
  have rm : Room (A.deeper (envX "law.<locals>.less" A_less.scope L f cdv [("kind", ck)])) 3 := room.deeper _
  refine r_cons (r_Return ?_)
  refine r_Cmp ?_
  refine r_Call ?_
  refine r_global gl S.gh kf.g_rank ?_
  refine r_fn ?_
  refine r_args (r_freeG S.gh hc rfl ?_)
  refine r_args (r_local S rfl ?_)
  refine r_args0 ⟨(kf.f_rank _ (gl.kin.keeps S.gh)).fun, ?_⟩
  refine (rank_spec kf gl (rm.less (by lia)) S.gh (hz i) hk).mono ?_
  rintro v h ⟨sub', ⟨u, rfl, rfl⟩, P⟩
  have S := S.call0 P
  refine r_Call ?_
  refine r_global gl S.gh kf.g_rank ?_
  refine r_fn ?_
  refine r_args (r_freeG S.gh hc rfl ?_)
  refine r_args (r_local S rfl ?_)
  refine r_args0 ⟨(kf.f_rank _ (gl.kin.keeps S.gh)).fun, ?_⟩
  refine (rank_spec kf gl (rm.less (by lia)) S.gh (hz j) hk).mono ?_
  rintro v h ⟨sub', ⟨u', rfl, rfl⟩, P⟩
  have S := S.call0 P
  refine r_lt ?_
  exact ret1 ⟨[], _, ⟨rfl, rfl⟩, S⟩
theorem less_ok (kf : KF K) (gl : Gl K G) {f ck : Addr} {k : Int} {t : Tok} {zs : Nat → Z} (hf : IsFn G f A_less "law.<locals>.less" [("kind", ck)]) (hc : G.IsCell ck (some (.int k t))) (hz : ∀ i, PairIn G (zs i)) (hk : 0 ≤ k ∧ k < 4) :
    LessOk prog w G f (fun i => (zs i).v) (keyOra fun i => rk k (zs i)) SR0 :=
  ⟨hf.fun, fun room gh _ sr => by
    cases sr
    exact (less_run kf gl (room.less (by lia)) gh hf hc hz hk).mono fun v h' ⟨sub', ⟨hv, hs⟩, P⟩ => ⟨sub', ⟨hv, hs⟩, P⟩⟩
set_option maxHeartbeats 4000000 in
theorem turned_ok (kf : KF K) (gl : Gl K G) {g f ck cl : Addr} {k : Int} {t : Tok} {zs : Nat → Z} (hg : IsLam G g A_lamT "law.<locals>.<lambda>" [("less", cl)]) (hcl : G.IsCell cl (some (.ref f)))
    (hf : IsFn G f A_less "law.<locals>.less" [("kind", ck)]) (hc : G.IsCell ck (some (.int k t))) (hz : ∀ i, PairIn G (zs i)) (hk : 0 ≤ k ∧ k < 4) :
    LessOk prog w G g (fun i => (zs i).v) (keyOra fun i => - rk k (zs i)) SR0 := by
  refine ⟨hg.fun, fun {A h sub ans i j} room gh _ sr => ?_⟩
  cases sr
  refine call_lam (binds := [("one", (zs i).v), ("other", (zs j).v)]) room.lt gl gh ownNil (hg.sub gh) (by intros; rfl) (by decide) (locs rfl) rfl rfl rfl ?_
  intro B L h₁ cdv bo S
  have rm : Room (A.deeper (envX "law.<locals>.<lambda>" A_lamT.scope L g cdv [("less", cl)])) 5 := room.deeper _
  refine r_Call ?_
  refine r_freeG S.gh hcl rfl ?_
  refine r_fn ?_
  refine r_args (r_local S rfl ?_)
  refine r_args (r_local S rfl ?_)
  refine r_args0 ⟨(hf.sub S.gh).fun, ?_⟩
  refine (less_run kf gl (rm.less (by lia)) S.gh hf hc hz hk).mono ?_
  rintro v h ⟨sub', ⟨rfl, rfl⟩, P⟩
  have S := S.call0 P
  refine ⟨[], _, ⟨?_, rfl⟩, S⟩
  show Value.bool _ = Value.bool (decide (- rk k (zs i) < - rk k (zs j)))
  congr 1
  exact decide_eq_decide.mpr (by lia)
set_option maxHeartbeats 4000000 in
theorem replay_ok (gl : Gl K G) {g left cl : Addr} {T : List Bool} {val : Nat → Value} (hT : T.length ≤ 50000) (hg : IsLam G g A_lamR "law.<locals>.<lambda>" [("left", cl)]) (hcl : G.IsCell cl (some (.ref left))) :
    LessOk prog w G g val (repOra T) (SRL left T) := by
  refine ⟨hg.fun, fun {A h sub ans i j} room gh O sr => ?_⟩
  cases sr
  refine call_lam (binds := [("one", val i), ("other", val j)]) room.lt gl gh O (hg.sub gh) (by intros; rfl) (by decide) (locs rfl) rfl rfl rfl ?_
  intro B L h₁ cdv bo S
  have rm : Room (A.deeper (envX "law.<locals>.<lambda>" A_lamR.scope L g cdv [("left", cl)])) 5 := room.deeper _
  refine r_IfExp ?_
  refine r_testCmp ?_
  refine r_freeG S.gh hcl rfl ?_
  refine r_List (r_args0 ?_)
  refine r_newList S fun E1 h S => ?_
  refine c_neD (lst_reads (S.has Pick.head.tail) (boolV_rd _)) (lst_reads (S.has Pick.head) .nil) (bools_shaped _) (by decide) rm.u64 ?_
  refine r_truthB ?_
  have S := S.drop1
  have hdrop : ∀ n, T.drop (n + 1) = (T.drop n).tail := fun n => by simp
  have hget : T.getD ans.length false = (T.drop ans.length).headD false := by
    simp [List.headD_eq_head?_getD, List.getD_eq_getElem?_getD]
  generalize hd : T.drop ans.length = D at S hget
  cases D with
  | nil =>
    rw [show (!PyData.eqv (.list (List.map PyData.bool [])) (.list [])) = false from rfl, if_neg Bool.false_ne_true]
    refine r_bool ?_
    refine ⟨_, _, ⟨by show Value.bool false = Value.bool (T.getD ans.length false); rw [hget]; rfl, ?_⟩, S⟩
    show _ = [(left, LstP (boolV (T.drop (ans ++ [_]).length)))]
    rw [List.length_append, List.length_singleton, hdrop, hd]; rfl
  | cons b r =>
    rw [show (!PyData.eqv (.list (List.map PyData.bool (b :: r))) (.list [])) = true from rfl, if_pos rfl]
    refine r_Method ?_
    refine r_freeG S.gh hcl rfl ?_
    refine l_method (name := "pop") (S.has Pick.head) PySem.F.slot_list_pop (by kernel_rfl) ?_
    refine r_blt ?_
    refine r_args (r_int fun t7 => ?_)
    refine r_args0 ?_
    refine l_pop0 (v := .bool b) (items := boolV r) S Pick.head ?_ fun h S => ?_
    · have : (T.drop ans.length).length = r.length + 1 := by rw [hd]; rfl
      rw [List.length_drop] at this
      unfold boolV; rw [List.length_map]; lia
    refine ⟨_, _, ⟨by show Value.bool b = Value.bool (T.getD ans.length false); rw [hget]; rfl, ?_⟩, S⟩
    show _ = [(left, LstP (boolV (T.drop (ans ++ [_]).length)))]
    rw [List.length_append, List.length_singleton, hdrop, hd]; rfl
end
end

/-! ### P0 -/
noncomputable section
open PySem PySem.W PyProof.Rows
set_option Elab.async false
set_option maxRecDepth 100000

/-! ## the kit's tree of `sorted` sorts -/
noncomputable def KRuns {α : Type} (key : Nat → Int) (N : Nat) : KasT α → (α → Prop) → Prop
  | .ret a, Q => Q a
  | .ask i j k, Q => i < N ∧ j < N ∧ KRuns key N (k (decide (key i < key j))) Q
theorem KRuns.bind {α β : Type} {key : Nat → Int} {N : Nat} {f : α → KasT β} {Q : β → Prop} : ∀ (t : KasT α), KRuns key N t (fun a => KRuns key N (f a) Q) → KRuns key N (t.bind f) Q
  | .ret _, h => h
  | .ask _ _ k, h => ⟨h.1, h.2.1, KRuns.bind (k _) h.2.2⟩
theorem KRuns.mono {α : Type} {key : Nat → Int} {N : Nat} {Q Q' : α → Prop} (hq : ∀ a, Q a → Q' a) : ∀ (t : KasT α), KRuns key N t Q → KRuns key N t Q'
  | .ret a, h => hq a h
  | .ask _ _ k, h => ⟨h.1, h.2.1, KRuns.mono hq (k _) h.2.2⟩

section
variable {key : Nat → Int} {N : Nat}
noncomputable def kv (key : Nat → Int) (p : Array Nat) (i : Nat) : Int := key (p.getD i 0)
/-- an arrangement of the places -/
structure Arr (key : Nat → Int) (N : Nat) (p : Array Nat) : Prop where
  size : p.size = N
  perm : p.toList.Perm (List.range N)
  inj : ∀ i j, i < N → j < N → key i = key j → i = j
  pos : 0 < N
theorem Arr.lt {p : Array Nat} (a : Arr key N p) (i : Nat) : p.getD i 0 < N := by
  rw [Array.getD_eq_getD_getElem?]
  by_cases h : i < p.size
  · rw [Array.getElem?_eq_getElem h]
    have : p[i] ∈ p.toList := by simp
    have := a.perm.mem_iff.mp this
    simpa using this
  · rw [Array.getElem?_eq_none (by (clear a; lia))]
    exact a.pos
theorem Arr.ne {p : Array Nat} (a : Arr key N p) {i j : Nat} (hi : i < N) (hj : j < N) (h : i ≠ j) : kv key p i ≠ kv key p j := by
  intro e
  have e2 := a.inj _ _ (a.lt i) (a.lt j) e
  have hn : p.toList.Nodup := a.perm.nodup_iff.mpr List.nodup_range
  have hs := a.size
  have h1 : p.getD i 0 = p.toList[i]'(by simp; (clear hn e2 e h hj a; lia)) := by simp [Array.getD, show i < p.size by (clear hn e2 e h hj a; lia)]
  have h2 : p.getD j 0 = p.toList[j]'(by simp; (clear hn e2 e h a; lia)) := by simp [Array.getD, show j < p.size by (clear hn e2 e h a; lia)]
  rw [h1, h2] at e2
  exact h ((List.getElem_inj hn).mp e2)
theorem Arr.bub {p : Array Nat} (a : Arr key N p) (k d : Nat) : Arr key N (bubble p k d) := ⟨by rw [bubble_size, a.size], (Array.perm_iff_toList_perm.mp (bubble_perm p k d)).trans a.perm, a.inj, a.pos⟩
theorem Arr.rev {p : Array Nat} (a : Arr key N p) (i j : Nat) : Arr key N (kas_rev p i j) := ⟨by rw [kas_rev_size, a.size], (Array.perm_iff_toList_perm.mp (mirror_perm p i j _)).trans a.perm, a.inj, a.pos⟩
noncomputable def Asc (key : Nat → Int) (p : Array Nat) (k : Nat) : Prop := ∀ i j, i < j → j < k → kv key p i < kv key p j
noncomputable def Desc (key : Nat → Int) (p : Array Nat) (k : Nat) : Prop := ∀ i j, i < j → j < k → kv key p j < kv key p i
theorem Asc.succ {p : Array Nat} {n : Nat} (h : Asc key p n) (h1 : 1 ≤ n) (k : kv key p (n - 1) < kv key p n) : Asc key p (n + 1) := by
  intro i j hij hj
  by_cases q : j < n
  · exact h i j hij q
  · have : j = n := by (clear hij k h1 h; lia)
    subst this
    by_cases q2 : i = j - 1
    · rw [q2]; exact k
    · exact Int.lt_trans (h i (j - 1) (by (clear q hj k h1 h; lia)) (by (clear q2 q hj k h hij; lia))) k
theorem Desc.succ {p : Array Nat} {n : Nat} (h : Desc key p n) (h1 : 1 ≤ n) (k : kv key p n < kv key p (n - 1)) : Desc key p (n + 1) := by
  intro i j hij hj
  by_cases q : j < n
  · exact h i j hij q
  · have : j = n := by (clear hij k h1 h; lia)
    subst this
    by_cases q2 : i = j - 1
    · rw [q2]; exact k
    · exact Int.lt_trans k (h i (j - 1) (by (clear q hj k h1 h; lia)) (by (clear q2 q hj k h hij; lia)))
theorem kv_rev {p : Array Nat} {n : Nat} (hn : n ≤ p.size) (i : Nat) (hi : i < n) : kv key (kas_rev p 0 n) i = kv key p (n - 1 - i) := by
  unfold kv kas_rev
  rw [Array.getD_eq_getD_getElem?, Array.getD_eq_getD_getElem?, getElem?_mirror_all hn, if_pos ⟨Nat.zero_le _, hi⟩, show 0 + n - 1 - i = n - 1 - i by (clear hi hn; lia)]
theorem Desc.rev {p : Array Nat} {n : Nat} (hn : n ≤ p.size) (h : Desc key p n) : Asc key (kas_rev p 0 n) n := by
  intro i j hij hj
  rw [kv_rev hn i (by (clear h hn; lia)), kv_rev hn j hj]
  exact h (n - 1 - j) (n - 1 - i) (by (clear h hn; lia)) (by (clear hij h hn; lia))

theorem run_asc {p : Array Nat} (a : Arr key N p) : ∀ (f n : Nat), 1 ≤ n → n + f ≤ N → Asc key p n →
    KRuns key N (kas_asc p f n) fun m => n ≤ m ∧ m ≤ n + f ∧ Asc key p m ∧ (m < n + f → kv key p m < kv key p (m - 1))
  | 0, n, h1, h2, h => ⟨Nat.le_refl _, Nat.le_refl _, h, fun q => absurd q (Nat.lt_irrefl _)⟩
  | f + 1, n, h1, h2, h => by
    refine ⟨a.lt _, a.lt _, ?_⟩
    by_cases c : kv key p n < kv key p (n - 1)
    · rw [show decide (key (p.getD n 0) < key (p.getD (n - 1) 0)) = true from decide_eq_true c]; dsimp only; rw [if_pos rfl]
      exact ⟨Nat.le_refl _, by (clear c h h2 h1 a; lia), h, fun _ => c⟩
    · rw [show decide (key (p.getD n 0) < key (p.getD (n - 1) 0)) = false from decide_eq_false c]; dsimp only; rw [if_neg (by decide)]
      have ne := a.ne (i := n) (j := n - 1) (by (clear c h h1 a; lia)) (by (clear c h h1 a; lia)) (by (clear c h h2 a; lia))
      refine KRuns.mono (fun m hm => ?_) _ (run_asc a f (n + 1) (by (clear ne c h h2 h1 a; lia)) (by (clear ne c h h1 a; lia)) (h.succ h1 (by (clear h h2 h1 a; lia))))
      exact ⟨by (clear ne c h h2 h1 a; lia), by (clear ne c h h2 h1 a; lia), hm.2.2.1, fun q => hm.2.2.2 (by (clear hm ne c h h2 h1 a; lia))⟩
theorem run_desc {p : Array Nat} (a : Arr key N p) : ∀ (f n : Nat), 1 ≤ n → n + f ≤ N → Desc key p n →
    KRuns key N (kas_desc f p n 0) fun r => r.1 = p ∧ r.2.2 = 0 ∧ n ≤ r.2.1 ∧ r.2.1 ≤ n + f ∧ Desc key p r.2.1
  | 0, n, h1, h2, h => ⟨rfl, rfl, Nat.le_refl _, Nat.le_refl _, h⟩
  | f + 1, n, h1, h2, h => by
    refine ⟨a.lt _, a.lt _, ?_⟩
    by_cases c : kv key p n < kv key p (n - 1)
    · rw [show decide (key (p.getD n 0) < key (p.getD (n - 1) 0)) = true from decide_eq_true c]; dsimp only; rw [if_pos rfl, if_neg (by decide)]
      exact KRuns.mono (fun r hr => ⟨hr.1, hr.2.1, by (clear c h h2 h1 a; lia), by (clear c h h2 h1 a; lia), hr.2.2.2.2⟩) _ (run_desc a f (n + 1) (by (clear c h h2 h1 a; lia)) (by (clear c h h1 a; lia)) (h.succ h1 c))
    · rw [show decide (key (p.getD n 0) < key (p.getD (n - 1) 0)) = false from decide_eq_false c]; dsimp only; rw [if_neg (by decide)]
      have ne := a.ne (i := n) (j := n - 1) (by (clear c h h1 a; lia)) (by (clear c h h1 a; lia)) (by (clear c h h2 a; lia))
      refine ⟨a.lt _, a.lt _, ?_⟩
      rw [show decide (key (p.getD (n - 1) 0) < key (p.getD n 0)) = true from decide_eq_true (by show kv key p (n - 1) < kv key p n; (clear h h2 h1 a; lia))]; dsimp only; rw [if_pos rfl]
      exact ⟨rfl, rfl, Nat.le_refl _, by show n ≤ n + (f + 1); (clear ne c h h2 h1 a; lia), h⟩
theorem run_count {p : Array Nat} (a : Arr key N p) : KRuns key N (kas_count N p) fun r => Arr key N r.2 ∧ 1 ≤ r.1 ∧ r.1 ≤ N ∧ Asc key r.2 r.1 := by
  have hpos := a.pos
  have hs := a.size
  unfold kas_count
  refine KRuns.bind _ (KRuns.mono (fun n hn => ?_) _ (run_asc a (N - 1) 1 (Nat.le_refl _) (by (clear hs a; lia)) (fun i j h1 h2 => by (clear hs hpos a; lia))))
  obtain ⟨h1, h2, h3, h4⟩ := hn
  by_cases hnN : n = N
  · rw [if_pos (by simpa using hnN)]
    exact ⟨a, h1, by (clear h4 h3 h2 h1 hs hpos a; lia), h3⟩
  · rw [if_neg (by simpa using hnN)]
    by_cases hn1 : n > 1
    · rw [if_pos hn1]
      refine ⟨a.lt _, a.lt _, ?_⟩
      rw [show decide (key (p.getD 0 0) < key (p.getD (n - 1) 0)) = true from decide_eq_true (h3 0 (n - 1) (by (clear hnN h4 h3 h2 h1 hs hpos a; lia)) (by (clear hnN h4 h3 h2 h1 hs hpos a; lia)))]; dsimp only; rw [if_pos rfl]
      exact ⟨a, h1, by (clear hnN h4 h3 h1 hs hpos a; lia), h3⟩
    · rw [if_neg hn1]
      have hn1' : n = 1 := by (clear hnN h4 h3 h2 hs hpos a; lia)
      subst hn1'
      have hd2 : Desc key p 2 := by
        intro i j hij hj
        have : i = 0 := by (clear hn1 hnN h4 h3 h2 h1 hs hpos a; lia)
        have : j = 1 := by (clear this hn1 hnN h4 h3 h2 h1 hs hpos a; lia)
        subst_vars
        exact h4 (by (clear hij hj h4 h2 a hn1 h3 h1; lia))
      unfold kas_descPart
      refine KRuns.bind _ (KRuns.mono (fun r hr => ?_) _ (run_desc a (N - (1 + 1)) (1 + 1) (by (clear hd2 hn1 hnN h4 h3 h2 h1 hs hpos a; lia)) (by (clear hd2 hn1 h4 h3 h2 h1 hs a; lia)) hd2))
      obtain ⟨p', m, q⟩ := r
      obtain ⟨r1, r2, r3, r4, r5⟩ := hr
      dsimp only at r1 r2 r3 r4 r5 ⊢
      subst r1 r2
      rw [if_neg (by decide)]
      unfold kas_tail3
      refine KRuns.bind _ (KRuns.mono (fun m' hm' => ?_) _ (run_asc (a.rev 0 m) (N - m) m (by (clear r5 hd2 h4 h3 hs a r4 hn1 hnN h2 h1 hpos; lia)) (by (clear r5 hd2 h4 h3 hs a r3 hn1 h2 h1; lia)) (r5.rev (by (clear r5 hd2 h4 h3 a r3 hn1 h2 h1; lia)))))
      exact ⟨a.rev 0 m, by (clear r5 hd2 h4 h3 hs a r4 hn1 hnN h2 h1 hpos; lia), by (clear r5 hd2 h4 h3 hs a r3 hn1 h2 h1; lia), hm'.2.2.1⟩
theorem run_place {p : Array Nat} (a : Arr key N p) {k : Nat} (hk : k < N) : ∀ (f l r : Nat), l ≤ r → r ≤ k → r - l ≤ f → (∀ i, i < l → kv key p i < kv key p k) → (∀ i, r ≤ i → i < k → kv key p k < kv key p i) → Asc key p k →
    KRuns key N (kas_place p k f l r) fun m => m ≤ k ∧ (∀ i, i < m → kv key p i < kv key p k) ∧ (∀ i, m ≤ i → i < k → kv key p k < kv key p i)
  | 0, l, r, h1, h2, h3, h4, h5, _ => ⟨by (clear h5 h4 h3 hk a; lia), h4, fun i hi => h5 i (by (clear h5 h4 h2 h1 hk a; lia))⟩
  | f + 1, l, r, h1, h2, h3, h4, h5, h6 => by
    unfold kas_place
    by_cases hlr : l ≥ r
    · rw [if_pos hlr]; exact ⟨by (clear hlr h6 h5 h4 h3 hk a; lia), h4, fun i hi => h5 i (by (clear h6 h5 h4 h3 h2 h1 hk a; lia))⟩
    · rw [if_neg hlr]
      refine ⟨a.lt _, a.lt _, ?_⟩
      have hm : (l + r) / 2 < r ∧ l ≤ (l + r) / 2 := by (clear h6 h5 h4 h3 h2 h1 hk a; lia)
      by_cases c : kv key p k < kv key p ((l + r) / 2)
      · rw [show decide (key (p.getD k 0) < key (p.getD ((l + r) / 2) 0)) = true from decide_eq_true c]; dsimp only; rw [if_pos rfl]
        refine run_place a hk f l ((l + r) / 2) hm.2 (by (clear c hlr h6 h5 h4 h3 h1 hk a; lia)) (by (clear c hm hlr h6 h5 h4 h2 h1 hk a; lia)) h4 (fun i hi hik => ?_) h6
        by_cases q : i = (l + r) / 2
        · rw [q]; exact c
        · exact Int.lt_trans c (h6 _ i (by (clear hik c hm hlr h6 h5 h4 h3 h2 h1 hk a; lia)) hik)
      · rw [show decide (key (p.getD k 0) < key (p.getD ((l + r) / 2) 0)) = false from decide_eq_false c]; dsimp only; rw [if_neg (by decide)]
        have ne := a.ne (i := k) (j := (l + r) / 2) hk (by (clear c hlr h6 h5 h4 h3 h1 a; lia)) (by (clear c hlr h6 h5 h4 h3 h1 hk a; lia))
        refine run_place a hk f ((l + r) / 2 + 1) r (by (clear ne c hlr h6 h5 h4 h3 h2 h1 hk a; lia)) h2 (by (clear ne c hm hlr h6 h5 h4 h2 h1 hk a; lia)) (fun i hi => ?_) h5 h6
        by_cases q : i = (l + r) / 2
        · rw [q]; (clear q hi hm hlr h6 h5 h4 h3 h2 h1 hk a; lia)
        · have := h6 i ((l + r) / 2) (by (clear ne c hm hlr h6 h5 h4 h3 h2 h1 hk a; lia)) (by (clear q hi ne c hlr h6 h5 h4 h3 h1 hk a; lia))
          (clear q hi ne hm hlr h6 h5 h4 h3 h2 h1 hk a; lia)
theorem kv_bubble {p : Array Nat} {k d : Nat} (hk : k < p.size) (hd : d ≤ k) (i : Nat) : kv key (bubble p k d) i = if i = k - d then kv key p k else if k - d < i ∧ i ≤ k then kv key p (i - 1) else kv key p i := by
  simp only [kv, Array.getD_eq_getD_getElem?, getElem?_bubble hk d hd]
  by_cases h1 : i = k - d
  · rw [if_pos h1, if_pos h1]
  · rw [if_neg h1, if_neg h1]
    by_cases h2 : k - d < i ∧ i ≤ k
    · rw [if_pos h2, if_pos h2]
    · rw [if_neg h2, if_neg h2]
theorem run_bin : ∀ (f : Nat) (p : Array Nat) (k : Nat), Arr key N p → 1 ≤ k → k + f = N → Asc key p k → KRuns key N (kas_bin f p k) fun r => Arr key N r ∧ Asc key r N
  | 0, p, k, a, _, h2, h => ⟨a, by rw [← h2]; exact h⟩
  | f + 1, p, k, a, h1, h2, h => by
    unfold kas_bin
    have hs := a.size
    refine KRuns.bind _ (KRuns.mono (fun l hl => ?_) _ (run_place a (k := k) (by (clear hs h h1 a; lia)) k 0 k (Nat.zero_le _) (Nat.le_refl _) (by (clear hs h h2 h1 a; lia)) (fun i hi => by (clear hs h h2 h1 a; lia)) (fun i h3 h4 => by (clear hs h h2 h1 a; lia)) h))
    obtain ⟨l1, l2, l3⟩ := hl
    refine run_bin f _ (k + 1) (a.bub _ _) (by (clear l3 l2 l1 hs h h2 h1 a; lia)) (by (clear l3 l2 l1 hs h h1 a; lia)) (fun i j hij hj => ?_)
    rw [kv_bubble (by (clear hj hij l3 l2 l1 h h1 a; lia)) (by (clear hj hij l3 l2 l1 hs h h2 h1 a; lia)), kv_bubble (by (clear hj hij l3 l2 l1 h h1 a; lia)) (by (clear hj hij l3 l2 l1 hs h h2 h1 a; lia))]
    have e : k - (k - l) = l := by (clear hj hij l3 l2 hs h h2 h1 a; lia)
    rw [e]
    by_cases i1 : i = l
    · rw [if_pos i1]
      rw [if_neg (by (clear e hj l3 l2 l1 hs h h2 h1 a; lia)), if_pos (by (clear e l3 l2 l1 hs h h2 h1 a; lia))]
      exact l3 (j - 1) (by (clear e hj l3 l2 l1 hs h h2 h1 a; lia)) (by (clear i1 e l3 l2 l1 hs h h2 h1 a; lia))
    · rw [if_neg i1]
      by_cases i2 : l < i ∧ i ≤ k
      · rw [if_pos i2, if_neg (by (clear i1 e hj l3 l2 l1 hs h h2 h1 a; lia)), if_pos (by (clear i1 e l3 l2 l1 hs h h2 h1 a; lia))]
        exact h (i - 1) (j - 1) (by (clear i1 e hj l3 l2 l1 hs h h2 h1 a; lia)) (by (clear i1 e hij l3 l2 l1 hs h h2 h1 a; lia))
      · rw [if_neg i2]
        by_cases j1 : j = l
        · rw [if_pos j1]; exact l2 i (by (clear i2 i1 e hj l3 l2 l1 hs h h2 h1 a; lia))
        · rw [if_neg j1]
          by_cases j2 : l < j ∧ j ≤ k
          · rw [if_pos j2]
            by_cases q : i = j - 1
            · (clear j1 e hj hij l3 l2 l1 hs h h2 h1 a; lia)
            · exact h i (j - 1) (by (clear j2 j1 i2 i1 e hj l3 l2 l1 hs h h2 h1 a; lia)) (by (clear q j1 i2 i1 e hj hij l3 l2 l1 hs h h2 h1 a; lia))
          · rw [if_neg j2]; exact h i j hij (by (clear i2 i1 hij l3 l2 l1 hs h h2 h1 a; lia))
theorem run_sort (inj : ∀ i j, i < N → j < N → key i = key j → i = j) (pos : 0 < N) : KRuns key N (kas_sort N) fun p => p.toList.Perm (List.range N) ∧ (p.toList.map key).Pairwise (· < ·) := by
  have a : Arr key N (List.toArray (List.range N)) := ⟨by simp, by simp, inj, pos⟩
  have fin : ∀ p, Arr key N p → Asc key p N → p.toList.Perm (List.range N) ∧ (p.toList.map key).Pairwise (· < ·) := by
    intro p a h
    refine ⟨a.perm, ?_⟩
    rw [List.pairwise_iff_getElem]
    intro i j hi hj hij
    have hs := a.size
    simp only [List.length_map, Array.length_toList] at hi hj
    have := h i j hij (by (clear hi hij h a pos inj; lia))
    unfold kv at this
    simpa [Array.getD, hi, hj] using this
  unfold kas_sort
  refine KRuns.bind _ (KRuns.mono (fun r hr => ?_) _ (run_count a))
  obtain ⟨r1, r2, r3, r4⟩ := hr
  by_cases hlt : r.1 < N
  · rw [if_pos hlt]
    have e : max r.1 1 = r.1 := by (clear hlt r4 r3 r1 fin a pos inj; lia)
    rw [e]
    exact KRuns.mono (fun p hp => fin p hp.1 hp.2) _ (run_bin (N - r.1) r.2 r.1 r1 r2 (by (clear e r4 r3 r2 r1 fin a pos inj; lia)) r4)
  · rw [if_neg hlt]
    have : r.1 = N := by (clear r4 r2 r1 fin a pos inj; lia)
    exact fin _ r1 (this ▸ r4)
end
end

/-! ### W15 -/
noncomputable section
open PySem PySem.W PyProof.Rows
set_option Elab.async false
set_option maxRecDepth 100000
section
variable {prog : Program} {w : World} {A : Around} {G B h h' : Heap} {K : Frag} {env : Env} {lo : List (Str × Value)} {nw rest : List Ch} {L : Addr}
theorem St.ofCons {m : Str → Option Value} {news : List (Addr × Obj)} {D : Addr} {o : Obj} {P : Obj → Prop} (S : St G B L h lo nw) (F : Fr B L h' m) (hl : ∀ x v, look x lo = some v → m x = some v) (N : News B L h' ((D, o) :: news))
    (a : All2 (fun (c : Ch) (p : Addr × Obj) => c.1 = p.1 ∧ c.2 p.2) nw news) (lt : ∀ q ∈ news, q.1 < D) (p : P o) : St G B L h' lo ((D, P) :: nw) := by
  refine .ofNews S.gb F hl N (.cons ⟨rfl, p⟩ a) ?_
  refine List.nodup_cons.mpr ⟨fun q => ?_, S.own.2⟩
  rw [all2_addr a] at q
  obtain ⟨p, hp, e⟩ := List.mem_map.mp q
  exact Nat.lt_irrefl D (by have := lt p hp; rw [e] at this; exact this)
theorem c_sortedInts {l : Addr} {vs : List Value} {ns : List Int} {Q : Value → Heap → Prop} (S : St G B L h lo nw) (hl : h.IsList l vs.toArray) (hi : IntsAre vs ns) (h64 : ns.length < 64)
    (q : ∀ D vs' ns' h', St G B L h' lo ((D, LstP vs') :: nw) → IntsAre vs' ns' → ns'.Perm ns → ns'.Pairwise (· ≤ ·) → Q (.ref D) h') : Run prog w A (call (.builtin "sorted") [.ref l]) h Q := by
  intro s E Q' es k
  subst es
  obtain ⟨m, news, F, hlo, N, a⟩ := S.toNews
  exact kso_sorted F N hl hi h64 fun D vs' ns' c h' F' N' lt i1 _ pm pw _ => k _ _ ⟨rfl, rfl, rfl⟩ (q D vs' ns' h' (S.ofCons F' hlo N' a lt ⟨c, rfl⟩) i1 pm pw)

/-! ## sorted of pairs -/
theorem kr_wp {α : Type} {key : Nat → Int} {N : Nat} {cmp : Nat → Nat → (Bool → Shared → Prop) → Shared → Prop} {s₀ : Shared}
    (hc : ∀ i j C s, i < N → j < N → Rest s₀ s → s.heap = s₀.heap → (∀ s', Rest s₀ s' → s'.heap = s₀.heap → C (decide (key i < key j)) s') → cmp i j C s) {Q : α → Shared → Prop} {P : α → Prop} (hq : ∀ a s, P a → Rest s₀ s → s.heap = s₀.heap → Q a s) :
    ∀ (t : KasT α) (s : Shared), Rest s₀ s → s.heap = s₀.heap → KRuns key N t P → t.kasWp cmp Q s
  | .ret a, s, r, e, h => hq a s h r e
  | .ask i j k, s, r, e, h => hc i j _ s h.1 h.2.1 r e fun s' r' e' => kr_wp hc hq (k _) s' r' e' h.2.2
theorem lex_key {a b c d : Int} (hb : 0 ≤ b ∧ b < 64) (hd : 0 ≤ d ∧ d < 64) : (a * 64 + b < c * 64 + d) ↔ (a < c ∨ (a = c ∧ b < d)) := by lia
noncomputable def lexK (z : Z) : Int := z.a * 64 + z.b
theorem katTups {h : Heap} : ∀ {zs : List Z}, (∀ z ∈ zs, PairIn h z) → ∃ fs, KatTups h (zs.map Z.v) fs ∧ fs.length = zs.length ∧ ∀ v ∈ fs, ∃ n t, v = .int n t
  | [], _ => ⟨[], .nil, rfl, fun _ q => nomatch q⟩
  | z :: r, k => by
    obtain ⟨fs, a, b, c⟩ := katTups fun z hz => k z (.tail _ hz)
    obtain ⟨p, t, u, e, o, ho, n, rfl⟩ := k z (.head _)
    refine ⟨.int z.a t :: fs, ?_, by simp [b], fun v hv => ?_⟩
    · rw [List.map_cons, e]
      exact .cons ho rfl rfl rfl a
    · rcases List.mem_cons.mp hv with rfl | hv
      · exact ⟨_, _, rfl⟩
      · exact c v hv
theorem zkey_lt {z z' : Z} {s : Shared} {Q : Bool → Shared → Prop} {E : Value → Shared → Prop} (hz : PairIn s.heap z) (hz' : PairIn s.heap z') (hb : 0 ≤ z.b ∧ z.b < 64) (hb' : 0 ≤ z'.b ∧ z'.b < 64)
    (q : ∀ s', Rest s s' → s'.heap = s.heap → Q (decide (lexK z < lexK z')) s') : wpAny (model prog w) A (keyLt' (tuples' true) z.v z'.v) Q E s := by
  obtain ⟨p, t, u, e, o, ho, n, rfl⟩ := hz
  obtain ⟨p', t', u', e', o', ho', n', rfl⟩ := hz'
  rw [e, e']
  refine kat_lt ho rfl ho' rfl ?_
  show KatLex prog w A true _ Q [(.int z.a t, .int z'.a t'), (.int z.b u, .int z'.b u')] 0 s
  refine kat_cons (wpAny_eqBool_int ?_)
  have hk := lex_key (a := z.a) (c := z'.a) hb hb'
  by_cases h1 : z.a = z'.a
  · rw [show (z.a == z'.a) = true by simpa using h1]
    refine kat_yes ?_
    refine kat_cons (wpAny_eqBool_int ?_)
    by_cases h2 : z.b = z'.b
    · rw [show (z.b == z'.b) = true by simpa using h2]
      refine kat_yes ?_
      refine kat_nil ?_
      have := q s (Rest.refl s) rfl
      rw [show decide (lexK z < lexK z') = false from decide_eq_false (by unfold lexK; lia)] at this
      exact this
    · rw [show (z.b == z'.b) = false by simpa using h2]
      refine kat_no ?_
      refine kat_one _ _ ?_
      refine PyProof.Rows.lt_int ?_
      have := q { s with toks := s.toks } (Rest.refl s) rfl
      rw [show decide (lexK z < lexK z') = decide (z.b < z'.b) from decide_eq_decide.mpr (by unfold lexK; lia)] at this
      exact this
  · rw [show (z.a == z'.a) = false by simpa using h1]
    refine kat_no ?_
    refine oneLt_int ?_
    have := q s (Rest.refl s) rfl
    rw [show decide (lexK z < lexK z') = decide (z.a < z'.a) from decide_eq_decide.mpr (by unfold lexK; lia)] at this
    exact this
noncomputable def zd : Z := ⟨.none, 0, 0⟩
theorem getD_map {zs : List Z} {i : Nat} (hi : i < zs.length) : (zs.map Z.v).getD i Value.none = (zs.getD i zd).v := by simp [hi]
theorem range_getD (zs : List Z) : (List.range zs.length).map (fun i => zs.getD i zd) = zs := by
  apply List.ext_getElem
  · simp
  · intro i h1 h2
    simp [h2]
theorem c_sortedZ {l : Addr} {zs : List Z} {Q : Value → Heap → Prop} (S : St G B L h lo nw) (hl : h.IsList l (zs.map Z.v).toArray) (view : ∀ h, St G B L h lo nw → ∀ z ∈ zs, PairIn h z) (hb : ∀ z ∈ zs, 0 ≤ z.b ∧ z.b < 64) (hn : 2 ≤ zs.length) (h64 : zs.length < 64) (nd : (zs.map lexK).Nodup)
    (q : ∀ D (zs' : List Z) h', St G B L h' lo ((D, LstP (zs'.map Z.v)) :: nw) → zs'.Perm zs → (zs'.map lexK).Pairwise (· < ·) → Q (.ref D) h') : Run prog w A (call (.builtin "sorted") [.ref l]) h Q := by
  intro s E Q' es k
  subst es
  obtain ⟨m, news, F, hlo, N, a⟩ := S.toNews
  have hlen : (zs.map Z.v).length = zs.length := List.length_map ..
  refine kat_sorted F N hl (by rw [hlen]; exact hn) (by rw [hlen]; exact h64) fun D e1 h' F' N' lt => ?_
  have S' : St G B L h' lo ((D, fun o => o = seqObj "list" #[] e1) :: nw) := S.ofCons F' hlo N' a lt rfl
  have hz := view h' S'.drop1
  obtain ⟨fs, kt, fl, fi⟩ := katTups hz
  refine kat_kind (T := .type "int") kt (by lia) (fun v hv => ?_) rfl ?_
  · obtain ⟨n, t, rfl⟩ := fi v hv
    exact Looks.of_pure rfl
  rw [hlen, show (Value.type "int" != Value.type "tuple") = true by decide]
  refine kr_wp (key := fun i => lexK (zs.getD i zd)) (N := zs.length) (s₀ := { s with heap := h' }) (fun i j C s' hi hj r e c => ?_) (fun p s' hp r e => ?_) _ _ (Rest.refl _) rfl (run_sort (fun i j hi hj he => ?_) (by lia))
  · unfold kas_ask
    rw [getD_map hi, getD_map hj]
    have gi : zs.getD i zd ∈ zs := by simp [hi]
    have gj : zs.getD j zd ∈ zs := by simp [hj]
    exact zkey_lt (e ▸ hz _ gi) (e ▸ hz _ gj) (hb _ gi) (hb _ gj) fun s'' r' e' => c s'' (r.trans r') (e'.trans e)
  · obtain ⟨pm, pw⟩ := hp
    have e : s'.heap = h' := e
    have hout : (p.toList.map fun i => (zs.map Z.v).getD i Value.none) = (p.toList.map fun i => zs.getD i zd).map Z.v := by
      rw [List.map_map]
      refine List.map_congr_left fun i hi => ?_
      have : i < zs.length := by simpa using pm.mem_iff.mp hi
      exact getD_map this
    rw [hout]
    refine KasFin.intro (e ▸ F') (e ▸ N') (.head fun p hp => Nat.ne_of_lt (lt p hp)) fun h'' c F'' N'' => k _ _ ⟨r.1, r.2.1, r.2.2⟩ (q D (p.toList.map fun i => zs.getD i zd) h'' (S.ofCons F'' hlo N'' a lt ⟨c, rfl⟩) ?_ ?_)
    · have := pm.map fun i => zs.getD i zd
      rwa [range_getD] at this
    · rw [List.map_map]; exact pw
  · have e1 : (zs.map lexK)[i]'(by simpa using hi) = (zs.map lexK)[j]'(by simpa using hj) := by
      simp only [List.getElem_map]
      simpa [hi, hj] using he
    exact (List.getElem_inj nd).mp e1
end
end

/-! ### L0 -/
noncomputable section
open PySem PySem.W PyProof.Rows
set_option Elab.async false
set_option maxRecDepth 100000

theorem pick_to (items : List Value) {y : Int} (h : 0 ≤ y) : slicePick items.toArray none (some y) none = (items.take y.toNat).toArray := by
  have e : sliceBounds none (some y) none items.toArray.size = (((0 : Nat) : Int), ((min y.toNat items.toArray.size : Nat) : Int), 1) := by
    simp only [sliceBounds, Option.getD_none, show (1 : Int) > 0 by decide, if_true, if_neg (show ¬ (y < 0) by lia)]
    congr 1
    congr 1
    lia
  rw [kmk_pick_nat _ e, List.drop_zero, Nat.sub_zero, List.size_toArray, kmk_take_min]
theorem pick_from (items : List Value) {x : Int} (h : 0 ≤ x) : slicePick items.toArray (some x) none none = (items.drop x.toNat).toArray := by
  have e : sliceBounds (some x) none none items.toArray.size = (((min x.toNat items.toArray.size : Nat) : Int), ((items.toArray.size : Nat) : Int), 1) := by
    simp only [sliceBounds, Option.getD_none, show (1 : Int) > 0 by decide, if_true, if_neg (show ¬ (x < 0) by lia)]
    congr 1
    lia
  rw [kmk_pick_nat _ e]
  show ((items.drop (min x.toNat items.toArray.size)).take (items.toArray.size - min x.toNat items.toArray.size)).toArray = _
  rw [List.size_toArray, kmk_drop_min, List.take_of_length_le (by rw [List.length_drop]; lia)]

section
variable {prog : Program} {w : World} {A : Around} {G B h h' : Heap} {K : Frag} {env : Env} {lo : List (Str × Value)} {nw rest : List Ch} {L : Addr}
theorem slice_st {items : List Value} {s : Shared} {vl vu : Value} (S : St G B L s.heap lo nw) (its : List Value) (lo' hi' : Option Int) (e : slicePick items.toArray lo' hi' none = its.toArray) :
    St G B L ((s.heap.push { cls := .type "slice", data := .fields #[vl, vu, .none] }).push { cls := .type "list", data := .seq (slicePick items.toArray lo' hi' none) }) lo ((s.heap.objs.size + 1, LstP its) :: nw) := by
  have S1 := (S.push { cls := .type "slice", data := .fields #[vl, vu, .none] } rfl (P := fun _ => True) trivial).drop1.push { cls := .type "list", data := .seq (slicePick items.toArray lo' hi' none) } rfl (P := LstP its) ⟨0, by rw [e]⟩
  rwa [Heap.size_push] at S1
theorem r_sliceTo {value e : Expr} {p pos : Pos} {l : Addr} {items : List Value} {y : Int} {Q : Value → Heap → Prop} (S : St G B L h lo nw) (hl : h.IsList l items.toArray) (hz : items.length ≤ 100000) (hv : PE prog w A env h value (· = .ref l)) (he : PE prog w A env h e (IntV y)) (hy : 0 ≤ y)
    (q : ∀ D h', St G B L h' lo ((D, LstP (items.take y.toNat)) :: nw) → Q (.ref D) h') (ht : ∀ o r, letTemporaryGo value o r = pure () := by intro _ _; rfl) :
    Run prog w A (eval (.Subscript value (.Slice none (some e) none p) pos) env) h Q := by
  intro s E Q' es k
  subst es
  refine wpAny_Subscript_list_slice (hv.wp rfl fun o s1 r1 q1 => ?_) ht
  obtain ⟨e1, rfl⟩ := q1
  rw [evalPart_none]
  refine wpAny_pure ?_
  rw [evalPart_some]
  refine (show Run prog w A (eval e env) s1.heap _ from e1 ▸ he).wp rfl fun u s2 r2 q2 => ?_
  obtain ⟨e2, t, rfl⟩ := q2
  have e3 : s2.heap = s.heap := e2.trans e1
  refine ⟨l, items.toArray, none, some y, rfl, e3 ▸ hl, by rw [List.size_toArray, PySem.sizeLine_eq]; lia, .none, .int y t, k _ _ ⟨(r1.trans r2).1, (r1.trans r2).2.1, (r1.trans r2).2.2⟩ (q _ _ ?_)⟩
  exact slice_st (e3 ▸ S) _ none (some y) (pick_to items hy)
theorem r_sliceFrom {value e : Expr} {p pos : Pos} {l : Addr} {items : List Value} {y : Int} {Q : Value → Heap → Prop} (S : St G B L h lo nw) (hl : h.IsList l items.toArray) (hz : items.length ≤ 100000) (hv : PE prog w A env h value (· = .ref l)) (he : PE prog w A env h e (IntV y)) (hy : 0 ≤ y)
    (q : ∀ D h', St G B L h' lo ((D, LstP (items.drop y.toNat)) :: nw) → Q (.ref D) h') (ht : ∀ o r, letTemporaryGo value o r = pure () := by intro _ _; rfl) :
    Run prog w A (eval (.Subscript value (.Slice (some e) none none p) pos) env) h Q := by
  intro s E Q' es k
  subst es
  refine wpAny_Subscript_list_slice (hv.wp rfl fun o s1 r1 q1 => ?_) ht
  obtain ⟨e1, rfl⟩ := q1
  rw [evalPart_some]
  refine (show Run prog w A (eval e env) s1.heap _ from e1 ▸ he).wp rfl fun u s2 r2 q2 => ?_
  obtain ⟨e2, t, rfl⟩ := q2
  rw [evalPart_none]
  refine wpAny_pure ?_
  have e3 : s2.heap = s.heap := e2.trans e1
  refine ⟨l, items.toArray, some y, none, rfl, e3 ▸ hl, by rw [List.size_toArray, PySem.sizeLine_eq]; lia, .int y t, .none, k _ _ ⟨(r1.trans r2).1, (r1.trans r2).2.1, (r1.trans r2).2.2⟩ (q _ _ ?_)⟩
  exact slice_st (e3 ▸ S) _ (some y) none (pick_from items hy)
theorem r_sliceRev {value e : Expr} {p pos : Pos} {l : Addr} {items : List Value} {Q : Value → Heap → Prop} (S : St G B L h lo nw) (hl : h.IsList l items.toArray) (hz : items.length ≤ 100000) (hv : PE prog w A env h value (· = .ref l)) (he : PE prog w A env h e (IntV (-1)))
    (q : ∀ D h', St G B L h' lo ((D, LstP items.reverse) :: nw) → Q (.ref D) h') (ht : ∀ o r, letTemporaryGo value o r = pure () := by intro _ _; rfl) :
    Run prog w A (eval (.Subscript value (.Slice none none (some e) p) pos) env) h Q := by
  intro s E Q' es k
  subst es
  refine wpAny_Subscript_Slice_step (T := "list") list_getitem_lookup (hv.wp rfl fun o s1 r1 q1 => ?_) ht
  obtain ⟨e1, rfl⟩ := q1
  refine wpAny_Slice ?_
  rw [evalPart_none]
  refine wpAny_pure (wpAny_pure ?_)
  rw [evalPart_some]
  refine (show Run prog w A (eval e env) s1.heap _ from e1 ▸ he).wp rfl fun u s2 r2 q2 => ?_
  obtain ⟨e2, t, rfl⟩ := q2
  have e3 : s2.heap = s.heap := e2.trans e1
  have hl2 : s2.heap.IsList l items.toArray := e3 ▸ hl
  refine ⟨(hl2.push _).typeIs, wpAny_getItem_list_slice (hl2.push _) (Heap.IsSliceOf.new ..) .none .none (.int (-1) t) (by decide) ?_ (by rw [List.size_toArray, PySem.sizeLine_eq]; lia)⟩
  refine k _ _ ⟨(r1.trans r2).1, (r1.trans r2).2.1, (r1.trans r2).2.2⟩ (q _ _ ?_)
  have S2 : St G B L s2.heap lo nw := e3 ▸ S
  exact (S2.push { cls := .type "slice", data := .fields #[.none, .none, .int (-1) t] } rfl (P := fun _ => True) trivial).drop1.push { cls := .type "list", data := .seq (slicePick items.toArray none none (some (-1))) } rfl (P := LstP items.reverse)
    ⟨0, by rw [krv_pick]⟩

/-! ## the helpers, at the law's frame -/
theorem call_take (kf : KF K) (gl : Gl K G) {bx inner : Addr} {c wd : Int} {t u : Tok} {vs : List Value} {ns : List Int} {Q : Value → Heap → Prop} (room : Room A 3) (S : St G B L h lo (((bx, LstP [.ref inner, .int c t]) :: (inner, LstP vs) :: rest))) (hi : IntsAre vs ns) (hn : ns.length ≤ 100) (hc : 0 ≤ c ∧ c ≤ 100000) (hw : 0 < wd)
    (q : ∀ r t' vs' ns' u' h', 0 ≤ r → r < wd → IntsAre vs' ns' → ns'.length ≤ 100 → St G B L h' lo ((bx, LstP [.ref inner, .int (c + 1) t']) :: (inner, LstP vs') :: rest) → Q (.int r u') h') :
    Run prog w A (call (.ref 104) [.ref bx, .int wd u]) h Q := by
  refine (take_spec kf gl room S.gh (own_gl (sub := [(bx, LstP [.ref inner, .int c t]), (inner, LstP vs)]) (rest := rest) S) hi hn hc hw).mono ?_
  rintro v h' ⟨sub', ⟨r, t', vs', ns', u', rfl, h0, h1, rfl, hi', hn'⟩, P⟩
  exact q r t' vs' ns' u' h' h0 h1 hi' hn' (St.callee2 (sub := [(bx, LstP [.ref inner, .int c t]), (inner, LstP vs)]) (rest := rest) S P)
theorem frozen0 (S : St G B L h lo nw) : Sub G (hideAll h []) ∧ Sub (hideAll h []) h ∧ ∀ c ∈ nw, Has (hideAll h []) c := by
  obtain ⟨a, b, _, d⟩ := frozen (sub := []) (rest := nw) S
  exact ⟨a, b, d⟩
theorem call_ranks (kf : KF K) (gl : Gl K G) {l : Addr} {zs : List Z} {k : Int} {t : Tok} {Q : Value → Heap → Prop} (room : Room A 5) (S : St G B L h lo nw) (hl : (l, LstP (zs.map Z.v)) ∈ nw) (hz : ∀ h, (∀ c ∈ nw, Has h c) → ∀ z ∈ zs, PairIn h z) (hn : zs.length ≤ 1000) (hk : 0 ≤ k ∧ k < 4)
    (q : ∀ D vs h', IntsAre vs (zs.map (rk k)) → St G B L h' lo ((D, LstP vs) :: nw) → Q (.ref D) h') : Run prog w A (call (.ref 116) [.int k t, .ref l]) h Q := by
  obtain ⟨a, b, d⟩ := frozen0 S
  refine (ranks_spec kf (gl.up a) room b (d _ hl) (hz _ d) hn hk).mono ?_
  rintro v h' ⟨sub', ⟨D, vs, rfl, rfl, hi⟩, P⟩
  exact q D vs h' hi (S.call0 (P.base S.gh Own.nil))
theorem call_merged (kf : KF K) (gl : Gl K G) {l1 l2 : Addr} {xs ys : List Z} {k : Int} {t : Tok} {Q : Value → Heap → Prop} (room : Room A 5) (S : St G B L h lo nw) (h1 : (l1, LstP (xs.map Z.v)) ∈ nw) (h2 : (l2, LstP (ys.map Z.v)) ∈ nw)
    (hz : ∀ h, (∀ c ∈ nw, Has h c) → ∀ z ∈ xs ++ ys, PairIn h z) (hn : xs.length + ys.length ≤ 1000) (hk : 0 ≤ k ∧ k < 4)
    (q : ∀ D h', St G B L h' lo ((D, LstP ((mrg (rk k) xs ys).map Z.v)) :: nw) → Q (.ref D) h') : Run prog w A (call (.ref 128) [.int k t, .ref l1, .ref l2]) h Q := by
  obtain ⟨a, b, d⟩ := frozen0 S
  refine (merged_spec kf (gl.up a) room b (d _ h1) (d _ h2) (hz _ d) hn hk).mono ?_
  rintro v h' ⟨sub', ⟨D, rfl, rfl⟩, P⟩
  exact q D h' (S.call0 (P.base S.gh Own.nil))
theorem Gm.up {G G' : Heap} (g : Gm G) (s : Sub G G') : Gm G' := let ⟨mg, bm, ob, a, b, c, d, e⟩ := g.at'; ⟨mg, bm, ob, a.keeps s, b, c, s _ _ d, e⟩
theorem call_sorted (kf : KF K) (kc : KC K) (gl : Gl K G) (gm : Gm G) (hc : CodeHd G 120 118) {l less : Addr} {items : List Value} {fst : Int} {tF : Tok} {val : Nat → Value} {o : Ora} {SR : List Bool → List Ch → Prop} {te : List TE} {subL : List Ch} {F f : Nat} {ps' : PS} {Q : Value → Heap → Prop}
    (room : Room A 20) (S : St G B L h lo ((tabCh 118 te ++ subL) ++ rest)) (hte : TeOk qofS te) (hl : (l, LstP items) ∈ rest) (hz : items.length ≤ 1000) (hv : ∀ i, i < items.length → items[i]? = some (val i))
    (lok : ∀ G', Sub G G' → (∀ c ∈ rest, Has G' c) → LessOk prog w G' less val o SR) (sr : SR [] subL) (hf : f ≤ 90000) (e : sortLoop o F f [(0, (items.length : Int) - 1)] ⟨List.range items.length, [], []⟩ = some ps') (hlen : ps'.lie.length = items.length)
    (q : ∀ p a d n te' bag subL' refs h', TeOk qofS te' → DeedsAre refs bag ps'.deeds → SR ps'.ans subL' →
      St G B L h' lo ((p, TupP [.ref a, .ref d, .ref n]) :: (a, LstP (ps'.lie.map val)) :: (d, LstP refs) :: (n, LstP (boolV ps'.ans)) :: (bag ++ (tabCh 118 te' ++ (subL' ++ rest)))) → Q (.ref p) h') :
    Run prog w A (call (.ref 121) [.ref l, .int fst tF, .ref less]) h Q := by
  obtain ⟨a, b, O, d⟩ := frozen S
  refine (lsorted_spec kf kc (gl.up a) (gm.up a) (hc.keeps a) room b O hte (d _ hl) hz hv (lok _ a d) sr hf e hlen).mono ?_
  rintro v h' ⟨sub', ⟨p, x, dd, n, te', bag, subL', refs, rfl, ok, rfl, da, sr'⟩, P⟩
  have S := S.callee2 (P.base S.gh (own_gl S))
  refine q p x dd n te' bag subL' refs h' ok da sr' (S.perm ?_)
  walk_at "pm"
end
end

/-! ### P2 -/
noncomputable section
set_option Elab.async false
set_option maxRecDepth 100000
/-! ## a run given its own answers -/
noncomputable def repO (T : List Bool) : Ora := fun ans _ _ => T.getD ans.length false
theorem ask_rep {o : Ora} {i j : Nat} {s : PS} {T : List Bool} (h : (ask o i j s).2.ans <+: T) : ask (repO T) i j s = ask o i j s := by
  obtain ⟨r, hr⟩ := h
  have hr : s.ans ++ [o s.ans i j] ++ r = T := hr
  have : repO T s.ans i j = o s.ans i j := by
    unfold repO
    rw [← hr]
    simp
  unfold ask
  rw [this]
theorem ask_mono {o : Ora} {i j : Nat} {s : PS} : s.ans <+: (ask o i j s).2.ans := List.prefix_append _ _
theorem rd_ans {p : Int} {s s' : PS} {i : Nat} (e : rd p s = some (i, s')) : s'.ans = s.ans := by
  unfold rd at e
  split at e
  · obtain ⟨j, _, e⟩ := Option.map_eq_some_iff.mp e
    cases e; rfl
  · cases e
theorem wr_ans {p : Int} {s s' : PS} {i : Nat} (e : wr p i s = some s') : s'.ans = s.ans := by
  unfold wr at e
  split at e
  · cases e; rfl
  · cases e
/-- what a step does with an answer list, given what it did with an oracle -/
noncomputable def Reps {X : Type} (g : X → PS) (s : PS) (o : Ora) (F : Ora → Option X) : Prop := ∀ x, F o = some x → s.ans <+: (g x).ans ∧ ∀ T, (g x).ans <+: T → F (repO T) = some x
section
variable {X Y : Type} {g : X → PS} {s s₂ : PS} {o : Ora}
theorem reps_none : Reps g s o fun _ => none := fun _ e => nomatch e
theorem reps_some {x : X} (h : s.ans <+: (g x).ans) : Reps g s o fun _ => some x := fun y e => by cases e; exact ⟨h, fun _ _ => rfl⟩
theorem reps_same {F : Ora → Option X} (h : s₂.ans = s.ans) (k : Reps g s₂ o F) : Reps g s o F := fun x e => h ▸ k x e
theorem reps_ask {i j : Nat} {F : Ora → Bool × PS → Option X} (k : ∀ b s₂, Reps g s₂ o fun o => F o (b, s₂)) : Reps g s o fun o => F o (ask o i j s) := fun x e => by
  obtain ⟨m, r⟩ := k (ask o i j s).1 (ask o i j s).2 x e
  refine ⟨ask_mono.trans m, fun T hT => ?_⟩
  have q := ask_rep (m.trans hT)
  exact (congrArg (F (repO T)) q).trans (r T hT)
theorem reps_rd {p : Int} {F : Ora → Option (Nat × PS) → Option X} (h0 : F o none = none) (k : ∀ i s₂, Reps g s₂ o fun o => F o (some (i, s₂))) : Reps g s o fun o => F o (rd p s) := by
  cases h : rd p s with
  | none => exact fun _ e => nomatch h0.symm.trans e
  | some q => exact reps_same (rd_ans h) (k q.1 q.2)
theorem reps_wr {p : Int} {i : Nat} {F : Ora → Option PS → Option X} (h0 : F o none = none) (k : ∀ s₂, Reps g s₂ o fun o => F o (some s₂)) : Reps g s o fun o => F o (wr p i s) := by
  cases h : wr p i s with
  | none => exact fun _ e => nomatch h0.symm.trans e
  | some q => exact reps_same (wr_ans h) (k q)
theorem reps_wr1 {p : Int} {i : Nat} : Reps id s o fun _ => wr p i s := fun x e => ⟨by rw [← wr_ans e]; exact List.prefix_rfl, fun _ _ => e⟩
theorem reps_bind {gY : Y → PS} {C : Ora → Option Y} {F : Ora → Option Y → Option X} (y : Reps gY s o C) (h0 : F o none = none) (k : ∀ y, Reps g (gY y) o fun o => F o (some y)) : Reps g s o fun o => F o (C o) := fun x e => by
  cases h : C o with
  | none => exact nomatch h0.symm.trans ((congrArg (F o) h).symm.trans e)
  | some v =>
    obtain ⟨m, r⟩ := y v h
    obtain ⟨m2, r2⟩ := k v x ((congrArg (F o) h).symm.trans e)
    exact ⟨m.trans m2, fun T hT => (congrArg (F (repO T)) (r T (m2.trans hT))).trans (r2 T hT)⟩
theorem reps_if {c : Prop} [Decidable c] {a a' : Ora → Option X} (k : c → Reps g s o a) (k' : ¬ c → Reps g s o a') : Reps g s o fun o => if c then a o else a' o := by
  by_cases h : c
  · simp only [if_pos h]; exact k h
  · simp only [if_neg h]; exact k' h
end
noncomputable abbrev ps3 : Int × Nat × PS → PS := fun x => x.2.2
noncomputable abbrev ps2 : Int × PS → PS := fun x => x.2
theorem finish_ans {high up : Int} {s s' : PS} (e : finish high up s = some s') : s'.ans = s.ans := by
  unfold finish at e
  split at e
  · cases e
  rename_i h1
  split at e
  · cases e
  rename_i h2
  split at e
  · cases e
  rename_i h3
  rw [wr_ans e, wr_ans h3, rd_ans h2, rd_ans h1]
theorem reps_fin {o : Ora} {high up : Int} {s : PS} : Reps ps2 s o fun _ => (finish high up (drop s)).map fun s => (up, s) := fun x e => by
  obtain ⟨s3, h3, ez⟩ := Option.map_eq_some_iff.mp e
  cases ez
  have h := finish_ans h3
  exact ⟨by show s.ans <+: s3.ans; rw [h]; exact List.prefix_rfl, fun _ _ => e⟩
theorem upLoop_rep {o : Ora} {pv : Nat} {high : Int} : ∀ {f : Nat} {at_ : Int} {v : Nat} {s : PS}, Reps ps3 s o fun o => upLoop o pv high f at_ v s
  | 0, _, _, _ => reps_none
  | f + 1, at_, v, s => reps_ask (F := fun o q => match q with | (false, s) => some (at_, v, s) | (true, s) => (if high < at_ then none else (match rd (at_ + 1) s with | none => none | some (v, s) => upLoop o pv high f (at_ + 1) v s))) fun b s => match b with
    | false => reps_some List.prefix_rfl
    | true => reps_if (fun _ => reps_none) fun _ => reps_rd (F := fun o q => match q with | none => none | some (v, s) => upLoop o pv high f (at_ + 1) v s) rfl fun v s => upLoop_rep
theorem downLoop_rep {o : Ora} {pv : Nat} {low : Int} : ∀ {f : Nat} {at_ : Int} {v : Nat} {s : PS}, Reps ps3 s o fun o => downLoop o pv low f at_ v s
  | 0, _, _, _ => reps_none
  | f + 1, at_, v, s => reps_ask (F := fun o q => match q with | (false, s) => some (at_, v, s) | (true, s) => (if at_ < low then none else (match rd (at_ - 1) s with | none => none | some (v, s) => downLoop o pv low f (at_ - 1) v s))) fun b s => match b with
    | false => reps_some List.prefix_rfl
    | true => reps_if (fun _ => reps_none) fun _ => reps_rd (F := fun o q => match q with | none => none | some (v, s) => downLoop o pv low f (at_ - 1) v s) rfl fun v s => downLoop_rep
theorem goUp_rep {o : Ora} {pv : Nat} {at_ high : Int} {f : Nat} {s : PS} : Reps ps3 s o fun o => goUp o pv at_ high f s :=
  reps_rd (F := fun o q => match q with | none => none | some (v, s) => upLoop o pv high f (at_ + 1) v s) rfl fun v s => upLoop_rep
theorem goDown_rep {o : Ora} {pv : Nat} {at_ low : Int} {f : Nat} {s : PS} : Reps ps3 s o fun o => goDown o pv at_ low f s :=
  reps_rd (F := fun o q => match q with | none => none | some (v, s) => downLoop o pv low f (at_ - 1) v s) rfl fun v s => downLoop_rep
theorem two_rep {o : Ora} {low high : Int} {s : PS} : Reps id s o fun o => two o low high s :=
  reps_rd (F := fun o q => match q with | none => none | some (one, s) => (match rd high s with | none => none | some (other, s) => (match ask o other one s with | (false, s) => some s | (true, s) => (match wr low other s with | none => none | some s => wr high one s)))) rfl fun one s => reps_rd (F := fun o q => match q with | none => none | some (other, s) => (match ask o other one s with | (false, s) => some s | (true, s) => (match wr low other s with | none => none | some s => wr high one s))) rfl fun other s => reps_ask (F := fun o q => match q with | (false, s) => some s | (true, s) => (match wr low other s with | none => none | some s => wr high one s)) fun b s => match b with
    | false => reps_some List.prefix_rfl
    | true => reps_wr (F := fun o q => match q with | none => none | some s => wr high one s) rfl fun s => reps_wr1
theorem mid_rep {o : Ora} {low m high : Int} {s : PS} : Reps id s o fun o => mid o low m high s :=
  reps_rd (F := fun o q => match q with | none => none | some (one, s) => (match rd low s with | none => none | some (first, s) => (match ask o one first s with | (true, s) => (match wr m first s with | none => none | some s => wr low one s) | (false, s) => (match rd high s with | none => none | some (last, s) => (match ask o last one s with | (false, s) => some s | (true, s) => (match wr m last s with | none => none | some s => wr high one s)))))) rfl fun one s => reps_rd (F := fun o q => match q with | none => none | some (first, s) => (match ask o one first s with | (true, s) => (match wr m first s with | none => none | some s => wr low one s) | (false, s) => (match rd high s with | none => none | some (last, s) => (match ask o last one s with | (false, s) => some s | (true, s) => (match wr m last s with | none => none | some s => wr high one s))))) rfl fun first s => reps_ask (F := fun o q => match q with | (true, s) => (match wr m first s with | none => none | some s => wr low one s) | (false, s) => (match rd high s with | none => none | some (last, s) => (match ask o last one s with | (false, s) => some s | (true, s) => (match wr m last s with | none => none | some s => wr high one s)))) fun b s => match b with
    | true => reps_wr (F := fun o q => match q with | none => none | some s => wr low one s) rfl fun s => reps_wr1
    | false => reps_rd (F := fun o q => match q with | none => none | some (last, s) => (match ask o last one s with | (false, s) => some s | (true, s) => (match wr m last s with | none => none | some s => wr high one s))) rfl fun last s => reps_ask (F := fun o q => match q with | (false, s) => some s | (true, s) => (match wr m last s with | none => none | some s => wr high one s)) fun b s => match b with
    | false => reps_some List.prefix_rfl
    | true => reps_wr (F := fun o q => match q with | none => none | some s => wr high one s) rfl fun s => reps_wr1
theorem partLoop_rep {o : Ora} {F pv : Nat} {low high : Int} : ∀ {f : Nat} {up down : Int} {s : PS}, Reps ps2 s o fun o => partLoop o F pv low high f up down s
  | 0, _, _, _ => reps_none
  | f + 1, up, down, s => reps_bind (C := fun o => goUp o pv up high F s) (goUp_rep) (F := fun o q => match q with | none => none | some (up, one, s) => (match goDown o pv down low F (hold s) with | none => none | some (down, other, s) => (if down < up then ((finish high up (drop s)).map fun s => (up, s)) else (match wr up other (drop s) with | none => none | some s => (match wr down one s with | none => none | some s => partLoop o F pv low high f up down s))))) rfl fun ⟨up, one, s⟩ => reps_bind (C := fun o => goDown o pv down low F (hold s)) (reps_same (s₂ := hold s) rfl goDown_rep) (F := fun o q => match q with | none => none | some (down, other, s) => (if down < up then ((finish high up (drop s)).map fun s => (up, s)) else (match wr up other (drop s) with | none => none | some s => (match wr down one s with | none => none | some s => partLoop o F pv low high f up down s)))) rfl fun ⟨down, other, s⟩ => reps_if (fun _ => reps_fin) fun _ => reps_same (s₂ := (drop s)) rfl (reps_wr (F := fun o q => match q with | none => none | some s => (match wr down one s with | none => none | some s => partLoop o F pv low high f up down s)) rfl fun s => reps_wr (F := fun o q => match q with | none => none | some s => partLoop o F pv low high f up down s) rfl fun s => partLoop_rep)
theorem part_rep {o : Ora} {F : Nat} {low high : Int} {s : PS} : Reps ps2 s o fun o => part o F low high s :=
  reps_rd (F := fun o q => match q with | none => none | some (pv, s) => (match rd (high - 1) s with | none => none | some (y, s) => (match wr ((low + high) / 2) y s with | none => none | some s => (match wr (high - 1) pv s with | none => none | some s => partLoop o F pv low high F low (high - 1) s)))) rfl fun pv s => reps_rd (F := fun o q => match q with | none => none | some (y, s) => (match wr ((low + high) / 2) y s with | none => none | some s => (match wr (high - 1) pv s with | none => none | some s => partLoop o F pv low high F low (high - 1) s))) rfl fun y s => reps_wr (F := fun o q => match q with | none => none | some s => (match wr (high - 1) pv s with | none => none | some s => partLoop o F pv low high F low (high - 1) s)) rfl fun s => reps_wr (F := fun o q => match q with | none => none | some s => partLoop o F pv low high F low (high - 1) s) rfl fun s => partLoop_rep
theorem stepTwo_rep {o : Ora} {low high : Int} {s : PS} : Reps id s o fun o => stepTwo o low high s := reps_if (fun _ => two_rep) fun _ => reps_some List.prefix_rfl
theorem stepMid_rep {o : Ora} {low high : Int} {s : PS} : Reps id s o fun o => stepMid o low high s := reps_if (fun _ => mid_rep) fun _ => reps_some List.prefix_rfl
theorem sortLoop_rep {o : Ora} {F : Nat} : ∀ {f : Nat} {st : List (Int × Int)} {s : PS}, Reps id s o fun o => sortLoop o F f st s
  | 0, _, _ => reps_none
  | f + 1, [], s => reps_some List.prefix_rfl
  | f + 1, (low, high) :: st, s => reps_bind (C := fun o => stepTwo o low high s) (stepTwo_rep) (F := fun o q => match q with | none => none | some s => (match stepMid o low high s with | none => none | some s => (if 2 < high - low then (match part o F low high s with | none => none | some (seam, s) => (if high - seam ≤ seam - low then sortLoop o F f ((seam + 1, high) :: (low, seam - 1) :: st) s else sortLoop o F f ((low, seam - 1) :: (seam + 1, high) :: st) s)) else sortLoop o F f st s))) rfl fun s => reps_bind (C := fun o => stepMid o low high s) (stepMid_rep) (F := fun o q => match q with | none => none | some s => (if 2 < high - low then (match part o F low high s with | none => none | some (seam, s) => (if high - seam ≤ seam - low then sortLoop o F f ((seam + 1, high) :: (low, seam - 1) :: st) s else sortLoop o F f ((low, seam - 1) :: (seam + 1, high) :: st) s)) else sortLoop o F f st s)) rfl fun s => reps_if (fun _ => reps_bind (C := fun o => part o F low high s) (part_rep) (F := fun o q => match q with | none => none | some (seam, s) => (if high - seam ≤ seam - low then sortLoop o F f ((seam + 1, high) :: (low, seam - 1) :: st) s else sortLoop o F f ((low, seam - 1) :: (seam + 1, high) :: st) s)) rfl fun ⟨seam, s⟩ => reps_if (fun _ => sortLoop_rep) fun _ => sortLoop_rep) fun _ => sortLoop_rep
end

/-! ### P3 -/
noncomputable section
set_option Elab.async false
set_option maxRecDepth 100000
/-! ## the plain run sorts -/
noncomputable def lat (s : PS) (p : Int) : Nat := s.lie.getD p.toNat 0
/-- deeds and answers so far -/
noncomputable def cnt (s : PS) : Int := s.deeds.length + s.ans.length
noncomputable def Rm (s : PS) (d : Int) : Prop := cnt s + d ≤ 40000
theorem Rm.le {s : PS} {j k : Int} (r : Rm s k) (h : j ≤ k) : Rm s j := Int.le_trans (Int.add_le_add_left h _) r
theorem cnt_d {l l' : List Nat} {d : List (Nat × Int)} {a : List Bool} {x : Nat × Int} : cnt ⟨l', d ++ [x], a⟩ = cnt ⟨l, d, a⟩ + 1 := by
  show (((d ++ [x]).length : Nat) : Int) + a.length = d.length + a.length + 1
  rw [List.length_append, List.length_singleton]; lia
theorem cnt_a {l l' : List Nat} {d : List (Nat × Int)} {a : List Bool} {b : Bool} : cnt ⟨l', d, a ++ [b]⟩ = cnt ⟨l, d, a⟩ + 1 := by
  show (d.length : Int) + ((a ++ [b]).length : Nat) = d.length + a.length + 1
  rw [List.length_append, List.length_singleton]; lia
theorem len_a {a : List Bool} {b : Bool} : (((a ++ [b]).length : Nat) : Int) = a.length + 1 := by rw [List.length_append, List.length_singleton]; rfl
theorem rm_step {a b j k : Int} (e : b = a + 1) (r : a + k ≤ 40000) (h : j + 1 ≤ k) : b + j ≤ 40000 := by lia
theorem Rm.d {l l' : List Nat} {d : List (Nat × Int)} {a : List Bool} {x : Nat × Int} {j k : Int} (r : Rm ⟨l, d, a⟩ k) (h : j + 1 ≤ k) : Rm ⟨l', d ++ [x], a⟩ j := rm_step (cnt_d (l := l)) r h
theorem Rm.a {l l' : List Nat} {d : List (Nat × Int)} {a : List Bool} {b : Bool} {j k : Int} (r : Rm ⟨l, d, a⟩ k) (h : j + 1 ≤ k) : Rm ⟨l', d, a ++ [b]⟩ j := rm_step (cnt_a (l := l)) r h
theorem Rm.fits {s : PS} {k : Int} (r : Rm s k) (h : 0 ≤ k) : s.deeds.length ≤ 40000 ∧ s.ans.length ≤ 40000 := by unfold Rm cnt at r; lia
theorem rd_ok {s : PS} {p : Int} {N : Nat} {k : Int} (hN : s.lie.length = N) (h0 : 0 ≤ p) (h1 : p < N) (r : Rm s k) (hk : 0 ≤ k) : rd p s = some (lat s p, { s with deeds := s.deeds ++ [(0, p)] }) := by
  have hp : p.toNat < s.lie.length := by lia
  unfold rd
  rw [if_pos ⟨h0, (r.fits hk).1, (r.fits hk).2⟩, List.getElem?_eq_getElem hp]
  show some _ = some _
  unfold lat
  simp [hp]
theorem wr_ok {s : PS} {p : Int} {i N : Nat} {k : Int} (hN : s.lie.length = N) (h0 : 0 ≤ p) (h1 : p < N) (r : Rm s k) (hk : 0 ≤ k) : wr p i s = some { s with lie := s.lie.set p.toNat i, deeds := s.deeds ++ [(1, p)] } := by
  unfold wr
  rw [if_pos ⟨h0, by lia, (r.fits hk).1, (r.fits hk).2⟩]
theorem ask_key {key : Nat → Int} {i j : Nat} {s : PS} : ask (fun _ i j => decide (key i < key j)) i j s = (decide (key i < key j), { s with ans := s.ans ++ [decide (key i < key j)] }) := rfl

section
variable {key : Nat → Int} {N : Nat}
noncomputable abbrev kO (key : Nat → Int) : Ora := fun _ i j => decide (key i < key j)

structure UpOk (key : Nat → Int) (pv : Nat) (at_ e c : Int) (s : PS) (r : Int) (s' : PS) : Prop where
  ge : at_ ≤ r
  le : r ≤ e
  stop : ¬ key (lat s r) < key pv
  pass : ∀ p, at_ ≤ p → p < r → key (lat s p) < key pv
  lie : s'.lie = s.lie
  ans : (s'.ans.length : Int) = s.ans.length + (r - at_ + 1)
  cnt : cnt s' = cnt s + (2 * (r - at_) + 1 + c)
structure DownOk (key : Nat → Int) (pv : Nat) (at_ e c : Int) (s : PS) (r : Int) (s' : PS) : Prop where
  le : r ≤ at_
  ge : e ≤ r
  stop : ¬ key pv < key (lat s r)
  pass : ∀ p, p ≤ at_ → r < p → key pv < key (lat s p)
  lie : s'.lie = s.lie
  ans : (s'.ans.length : Int) = s.ans.length + (at_ - r + 1)
  cnt : cnt s' = cnt s + (2 * (at_ - r) + 1 + c)
theorem far {a e : Int} {f : Nat} (h : e - a < (f + 1 : Nat)) : e - (a + 1) < f := by lia
theorem upLoop_ok {pv : Nat} {high e : Int} (he : e ≤ high) (heN : e < N) : ∀ (f : Nat) (at_ : Int) (s : PS), s.lie.length = N → 0 ≤ at_ → at_ ≤ e → ¬ key (lat s e) < key pv → e - at_ < f → Rm s (2 * (e - at_) + 4) →
    ∃ r s', upLoop (kO key) pv high f at_ (lat s at_) s = some (r, lat s r, s') ∧ UpOk key pv at_ e 0 s r s'
  | 0, at_, s, _, _, _, _, hf, _ => by lia
  | f + 1, at_, ⟨l, d, a⟩, hN, h0, h1, hs, hf, hr => by
    unfold upLoop
    rw [ask_key]
    by_cases c : key (lat ⟨l, d, a⟩ at_) < key pv
    · rw [decide_eq_true c]
      dsimp only
      have hlt : at_ + 1 ≤ e := by
        have hne : at_ ≠ e := by intro q; rw [q] at c; exact hs c
        lia
      rw [if_neg (by lia), rd_ok (N := N) (s := ⟨l, d, a ++ [true]⟩) hN (by lia) (by lia) (hr.a (j := 2 * (e - (at_ + 1)) + 4 + 1) (by lia)) (by lia)]
      dsimp only
      obtain ⟨r, s', e1, u⟩ := upLoop_ok he heN f (at_ + 1) ⟨l, d ++ [(0, at_ + 1)], a ++ [true]⟩ hN (by lia) hlt hs (far hf) ((hr.a (l' := l) (j := 2 * (e - (at_ + 1)) + 4 + 1) (by lia)).d (Int.le_refl _))
      have hc : cnt ⟨l, d ++ [(0, at_ + 1)], a ++ [true]⟩ = cnt ⟨l, d, a⟩ + 1 + 1 := (cnt_d (l := l)).trans (congrArg (· + 1) cnt_a)
      have ha := u.ans
      have hc' := u.cnt
      refine ⟨r, s', e1, by have := u.ge; lia, u.le, u.stop, fun p hp1 hp2 => ?_, u.lie, ?_, ?_⟩
      · by_cases q : p = at_
        · rw [q]; exact c
        · exact u.pass p (by lia) hp2
      · rw [ha]; show (((a ++ [true]).length : Nat) : Int) + _ = a.length + _; rw [len_a]; lia
      · rw [hc', hc]; lia
    · rw [decide_eq_false c]
      refine ⟨at_, _, rfl, Int.le_refl _, h1, c, fun p hp1 hp2 => absurd hp2 (Int.not_lt.mpr hp1), rfl, ?_, ?_⟩
      · show (((a ++ [false]).length : Nat) : Int) = a.length + _; rw [len_a]; lia
      · rw [cnt_a (l := l)]; lia
theorem downLoop_ok {pv : Nat} {low e : Int} (he : low ≤ e) (he0 : 0 ≤ e) : ∀ (f : Nat) (at_ : Int) (s : PS), s.lie.length = N → at_ < N → e ≤ at_ → ¬ key pv < key (lat s e) → at_ - e < f → Rm s (2 * (at_ - e) + 4) →
    ∃ r s', downLoop (kO key) pv low f at_ (lat s at_) s = some (r, lat s r, s') ∧ DownOk key pv at_ e 0 s r s'
  | 0, at_, s, _, _, _, _, hf, _ => by lia
  | f + 1, at_, ⟨l, d, a⟩, hN, h0, h1, hs, hf, hr => by
    unfold downLoop
    rw [ask_key]
    by_cases c : key pv < key (lat ⟨l, d, a⟩ at_)
    · rw [decide_eq_true c]
      dsimp only
      have hlt : e ≤ at_ - 1 := by
        have hne : at_ ≠ e := by intro q; rw [q] at c; exact hs c
        lia
      rw [if_neg (by lia), rd_ok (N := N) (s := ⟨l, d, a ++ [true]⟩) hN (by lia) (by lia) (hr.a (j := 2 * (at_ - 1 - e) + 4 + 1) (by lia)) (by lia)]
      dsimp only
      obtain ⟨r, s', e1, u⟩ := downLoop_ok he he0 f (at_ - 1) ⟨l, d ++ [(0, at_ - 1)], a ++ [true]⟩ hN (by lia) hlt hs (by lia) ((hr.a (l' := l) (j := 2 * (at_ - 1 - e) + 4 + 1) (by lia)).d (Int.le_refl _))
      have hc : cnt ⟨l, d ++ [(0, at_ - 1)], a ++ [true]⟩ = cnt ⟨l, d, a⟩ + 1 + 1 := (cnt_d (l := l)).trans (congrArg (· + 1) cnt_a)
      have ha := u.ans
      have hc' := u.cnt
      refine ⟨r, s', e1, by have := u.le; lia, u.ge, u.stop, fun p hp1 hp2 => ?_, u.lie, ?_, ?_⟩
      · by_cases q : p = at_
        · rw [q]; exact c
        · exact u.pass p (by lia) hp2
      · rw [ha]; show (((a ++ [true]).length : Nat) : Int) + _ = a.length + _; rw [len_a]; lia
      · rw [hc', hc]; lia
    · rw [decide_eq_false c]
      refine ⟨at_, _, rfl, Int.le_refl _, h1, c, fun p hp1 hp2 => absurd hp2 (Int.not_lt.mpr hp1), rfl, ?_, ?_⟩
      · show (((a ++ [false]).length : Nat) : Int) = a.length + _; rw [len_a]; lia
      · rw [cnt_a (l := l)]; lia
end
end

/-! ### P4 -/
noncomputable section
set_option Elab.async false
set_option maxRecDepth 100000
section
variable {key : Nat → Int} {N : Nat}
theorem goUp_ok {pv : Nat} {up high e : Int} {F : Nat} {s : PS} (hN : s.lie.length = N) (h0 : 0 ≤ up) (he : e ≤ high) (heN : e < N) (h1 : up + 1 ≤ e) (hs : ¬ key (lat s e) < key pv) (hf : e - (up + 1) < F) (hr : Rm s (2 * (e - (up + 1)) + 4 + 1)) :
    ∃ r s', goUp (kO key) pv up high F s = some (r, lat s r, s') ∧ UpOk key pv (up + 1) e 1 s r s' := by
  obtain ⟨l, d, a⟩ := s
  unfold goUp
  rw [rd_ok hN (by lia) (by lia) hr (by lia)]
  dsimp only
  obtain ⟨r, s', e1, u⟩ := upLoop_ok (key := key) (pv := pv) he heN F (up + 1) ⟨l, d ++ [(0, up + 1)], a⟩ hN (by lia) h1 hs hf (hr.d (Int.le_refl _))
  exact ⟨r, s', e1, u.ge, u.le, u.stop, u.pass, u.lie, u.ans, by rw [u.cnt, cnt_d (l := l)]; lia⟩
theorem goDown_ok {pv : Nat} {down low e : Int} {F : Nat} {s : PS} (hN : s.lie.length = N) (h0 : down ≤ N) (he : low ≤ e) (he0 : 0 ≤ e) (h1 : e ≤ down - 1) (hs : ¬ key pv < key (lat s e)) (hf : down - 1 - e < F) (hr : Rm s (2 * (down - 1 - e) + 4 + 1)) :
    ∃ r s', goDown (kO key) pv down low F s = some (r, lat s r, s') ∧ DownOk key pv (down - 1) e 1 s r s' := by
  obtain ⟨l, d, a⟩ := s
  unfold goDown
  rw [rd_ok hN (by lia) (by lia) hr (by lia)]
  dsimp only
  obtain ⟨r, s', e1, u⟩ := downLoop_ok (key := key) (pv := pv) (N := N) he he0 F (down - 1) ⟨l, d ++ [(0, down - 1)], a⟩ hN (by lia) h1 hs hf (hr.d (Int.le_refl _))
  exact ⟨r, s', e1, u.le, u.ge, u.stop, u.pass, u.lie, u.ans, by rw [u.cnt, cnt_d (l := l)]; lia⟩

/-! ## exchanges -/
structure Shuf (low high : Int) (s s' : PS) : Prop where
  len : s'.lie.length = s.lie.length
  perm : s'.lie.Perm s.lie
  inn : ∀ p, low ≤ p → p ≤ high → ∃ p', low ≤ p' ∧ p' ≤ high ∧ lat s' p = lat s p'
  out : ∀ p, 0 ≤ p → (p < low ∨ high < p) → lat s' p = lat s p
theorem Shuf.refl {low high : Int} {s s' : PS} (e : s'.lie = s.lie) : Shuf low high s s' :=
  ⟨by rw [e], by rw [e], fun p h1 h2 => ⟨p, h1, h2, by unfold lat; rw [e]⟩, fun p _ _ => by unfold lat; rw [e]⟩
theorem Shuf.trans {low high : Int} {a b c : PS} (x : Shuf low high a b) (y : Shuf low high b c) : Shuf low high a c :=
  ⟨y.len.trans x.len, y.perm.trans x.perm, fun p h1 h2 => by
    obtain ⟨p1, a1, a2, a3⟩ := y.inn p h1 h2
    obtain ⟨p2, b1, b2, b3⟩ := x.inn p1 a1 a2
    exact ⟨p2, b1, b2, a3.trans b3⟩, fun p h0 h => (y.out p h0 h).trans (x.out p h0 h)⟩
theorem lat_set {l : List Nat} {d : List (Nat × Int)} {a : List Bool} {p q : Int} {i : Nat} (h0 : 0 ≤ p) (h1 : p < l.length) (hq : 0 ≤ q) : lat ⟨l.set p.toNat i, d, a⟩ q = if q = p then i else lat ⟨l, d, a⟩ q := by
  unfold lat
  show (l.set p.toNat i).getD q.toNat 0 = if q = p then i else l.getD q.toNat 0
  rw [List.getD_eq_getElem?_getD, List.getD_eq_getElem?_getD, List.getElem?_set]
  by_cases h : q = p
  · subst h
    rw [if_pos rfl, if_pos rfl, if_pos (by lia)]; rfl
  · rw [if_neg (by lia), if_neg h]
theorem lat_swap {l : List Nat} {d d' : List (Nat × Int)} {a a' : List Bool} {p q x : Int} (hp : 0 ≤ p ∧ p < l.length) (hq : 0 ≤ q ∧ q < l.length) (hx : 0 ≤ x) :
    lat ⟨(l.set p.toNat (lat ⟨l, d, a⟩ q)).set q.toNat (lat ⟨l, d, a⟩ p), d', a'⟩ x = if x = q then lat ⟨l, d, a⟩ p else if x = p then lat ⟨l, d, a⟩ q else lat ⟨l, d, a⟩ x := by
  rw [lat_set hq.1 (by rw [List.length_set]; exact hq.2) hx]
  by_cases h : x = q
  · rw [if_pos h, if_pos h]
  · rw [if_neg h, if_neg h, lat_set hp.1 hp.2 hx]
    by_cases h2 : x = p
    · rw [if_pos h2, if_pos h2]
    · rw [if_neg h2, if_neg h2]; rfl
theorem swap_shuf {l : List Nat} {d d' : List (Nat × Int)} {a a' : List Bool} {p q low high : Int} (h0 : 0 ≤ low) (hN : high < l.length) (hp : low ≤ p ∧ p ≤ high) (hq : low ≤ q ∧ q ≤ high) :
    Shuf low high ⟨l, d, a⟩ ⟨(l.set p.toNat (lat ⟨l, d, a⟩ q)).set q.toNat (lat ⟨l, d, a⟩ p), d', a'⟩ := by
  refine ⟨by simp, ?_, fun x h1 h2 => ?_, fun x hx h => ?_⟩
  · have hp' : p.toNat < l.length := by lia
    have hq' : q.toNat < l.length := by lia
    have e1 : lat ⟨l, d, a⟩ q = l[q.toNat] := by unfold lat; simp [hq']
    have e2 : lat ⟨l, d, a⟩ p = l[p.toNat] := by unfold lat; simp [hp']
    show ((l.set p.toNat _).set q.toNat _).Perm l
    rw [e1, e2]
    exact List.set_set_perm hp' hq'
  · rw [lat_swap (by lia) (by lia) (by lia)]
    by_cases c1 : x = q
    · rw [if_pos c1]; exact ⟨p, hp.1, hp.2, rfl⟩
    · rw [if_neg c1]
      by_cases c2 : x = p
      · rw [if_pos c2]; exact ⟨q, hq.1, hq.2, rfl⟩
      · rw [if_neg c2]; exact ⟨x, h1, h2, rfl⟩
  · rw [lat_swap (by lia) (by lia) hx, if_neg (by lia), if_neg (by lia)]
/-- two stores that exchange two places -/
structure SwapOk (low high p q : Int) (s : PS) (d : List (Nat × Int)) (a : List Bool) (s₂ : PS) : Prop where
  sh : Shuf low high s s₂
  ans : s₂.ans = a
  cnt : cnt s₂ = cnt ⟨s.lie, d, a⟩ + 1 + 1
  at_ : ∀ x, 0 ≤ x → lat s₂ x = if x = q then lat s p else if x = p then lat s q else lat s x
theorem swap_ok {s : PS} {d : List (Nat × Int)} {a : List Bool} {p q low high : Int} (hN : s.lie.length = N) (h0 : 0 ≤ low) (hh : high < N) (hp : low ≤ p ∧ p ≤ high) (hq : low ≤ q ∧ q ≤ high) (r : Rm ⟨s.lie, d, a⟩ 2) :
    ∃ s₁ s₂, wr p (lat s q) ⟨s.lie, d, a⟩ = some s₁ ∧ wr q (lat s p) s₁ = some s₂ ∧ SwapOk low high p q s d a s₂ := by
  obtain ⟨l, d0, a0⟩ := s
  have hN : l.length = N := hN
  exact ⟨_, _, wr_ok (N := N) hN (by lia) (by lia) r (by decide), wr_ok (N := N) (by show (l.set _ _).length = N; rw [List.length_set]; exact hN) (by lia) (by lia) (r.d (j := 1) (by decide)) (by decide),
    swap_shuf h0 (by lia) hp hq, rfl, (cnt_d (l := l)).trans (congrArg (· + 1) (cnt_d (l := l))), fun x hx => lat_swap (by lia) (by lia) hx⟩
end
end

/-! ### P5 -/
noncomputable section
set_option Elab.async false
set_option maxRecDepth 100000
section
variable {key : Nat → Int} {N : Nat}
structure FinOk (low high up : Int) (s s' : PS) : Prop where
  sh : Shuf low high s s'
  ans : s'.ans = s.ans
  cnt : cnt s' = cnt s + 4
  at_ : ∀ x, 0 ≤ x → lat s' x = if x = up then lat s (high - 1) else if x = high - 1 then lat s up else lat s x
theorem finish_ok {s : PS} {low high up : Int} (hN : s.lie.length = N) (h0 : 0 ≤ low) (hh : high < N) (hu : low ≤ up ∧ up ≤ high) (hl : low ≤ high - 1) (r : Rm s 4) : ∃ s', finish high up s = some s' ∧ FinOk low high up s s' := by
  obtain ⟨l, d, a⟩ := s
  unfold finish
  rw [rd_ok hN (by (clear r hN hu hh; lia)) (by (clear r hN hl hu h0; lia)) r (by decide)]
  dsimp only
  have r1 : Rm ⟨l, d ++ [(0, high - 1)], a⟩ 3 := r.d (by decide)
  rw [rd_ok (s := ⟨l, d ++ [(0, high - 1)], a⟩) hN (by (clear r1 r hN hl hh; lia)) (by (clear r1 r hN hl h0; lia)) r1 (by decide)]
  dsimp only
  obtain ⟨s1, s2, e1, e2, w⟩ := swap_ok (s := ⟨l, d, a⟩) (d := d ++ [(0, high - 1)] ++ [(0, up)]) (a := a) (p := high - 1) (q := up) hN h0 hh ⟨hl, by (clear r1 r hN hl hu hh h0; lia)⟩ hu (r1.d (by decide))
  have e1 : wr (high - 1) (lat ⟨l, d ++ [(0, high - 1)], a⟩ up) ⟨l, d ++ [(0, high - 1)] ++ [(0, up)], a⟩ = some s1 := e1
  rw [e1]
  exact ⟨s2, e2, w.sh, w.ans, by rw [w.cnt, cnt_d (l := l), cnt_d (l := l)]; (clear e1 w e2 r1 r hN hl hu hh h0; lia), w.at_⟩

structure PartOk (key : Nat → Int) (low high : Int) (pv : Nat) (w c : Int) (s : PS) (seam : Int) (s' : PS) : Prop where
  b1 : low < seam
  b2 : seam ≤ high - 1
  sh : Shuf low high s s'
  piv : lat s' seam = pv
  lo : ∀ p, low ≤ p → p < seam → ¬ key pv < key (lat s' p)
  hi : ∀ p, seam < p → p ≤ high → ¬ key (lat s' p) < key pv
  amin : (s.ans.length : Int) + (w + 1) ≤ s'.ans.length
  amax : (s'.ans.length : Int) ≤ s.ans.length + (w + 2)
  cnt : cnt s' ≤ cnt s + 4 * ((s'.ans.length : Int) - s.ans.length) + c
theorem partLoop_ok {pv : Nat} {low high : Int} {F : Nat} (h0 : 0 ≤ low) (hh : high < N) (hF : high - low < F) : ∀ (f : Nat) (up down : Int) (s : PS), s.lie.length = N → low ≤ up → up ≤ down → down ≤ high - 1 → (up = down → low < up ∧ down < high - 1) →
    (∀ p, low ≤ p → p ≤ up → ¬ key pv < key (lat s p)) → (∀ p, down ≤ p → p ≤ high → ¬ key (lat s p) < key pv) → lat s (high - 1) = pv → down - up < f → Rm s (8 * (down - up) + 60) →
    ∃ seam s', partLoop (kO key) F pv low high f up down s = some (seam, s') ∧ PartOk key low high pv (down - up) 4 s seam s'
  | 0, up, down, s, _, _, _, _, _, _, _, _, hf, _ => by (clear hF hh h0; lia)
  | f + 1, up, down, s, hN, a1, a2, a3, a4, lo, hi, hpv, hf, hr => by
    unfold partLoop
    obtain ⟨e, he1, he2, he3, he4, he5⟩ : ∃ e, up + 1 ≤ e ∧ e ≤ high - 1 ∧ e ≤ down + 1 ∧ ¬ key (lat s e) < key pv ∧ (up < down → e ≤ down) := by
      by_cases c : up < down
      · exact ⟨down, c, a3, Int.le_add_one (Int.le_refl _), hi down (Int.le_refl _) (by (clear c hr hf hpv hi lo a4 a2 a1 hN hF hh h0; lia)), fun _ => Int.le_refl _⟩
      · have h4 := a4 (by (clear hr hf hpv hi lo a4 a3 a1 hN hF hh h0; lia))
        exact ⟨up + 1, Int.le_refl _, by (clear c hr hf hpv hi lo a4 a3 a1 hN hF hh h0; lia), by (clear h4 c hr hf hpv hi lo a4 a3 a1 hN hF hh h0; lia), hi (up + 1) (by (clear h4 hr hf hpv hi lo a4 a3 a2 a1 hN hF hh h0; lia)) (by (clear c hr hf hpv hi lo a4 a3 a1 hN hF hh h0; lia)), fun q => absurd q c⟩
    obtain ⟨e', he1', he2', he3', he4', he5'⟩ : ∃ e', e' ≤ down - 1 ∧ low ≤ e' ∧ up - 1 ≤ e' ∧ ¬ key pv < key (lat s e') ∧ (up < down → up ≤ e') := by
      by_cases c : up < down
      · exact ⟨up, Int.le_sub_one_of_lt c, a1, Int.sub_le_self _ (by decide), lo up a1 (Int.le_refl _), fun _ => Int.le_refl _⟩
      · have h4 := a4 (by (clear he5 he4 he2 hr hf hpv hi lo a4 a3 a2 a1 hN hF hh h0; lia))
        exact ⟨up - 1, by (clear h4 c he5 he4 he2 hr hf hpv hi lo a4 a3 a2 a1 hN hF hh h0; lia), by (clear c he5 he4 he3 he2 he1 hr hf hpv hi lo a4 a3 a2 a1 hN hF hh h0; lia), Int.le_refl _, lo (up - 1) (by (clear c he5 he4 he3 he2 he1 hr hf hpv hi lo a4 a3 a2 a1 hN hF hh h0; lia)) (by (clear h4 c he5 he4 he3 he2 he1 hr hf hpv hi lo a4 a3 a2 a1 hN hF hh h0; lia)), fun q => absurd q c⟩
    obtain ⟨u, ⟨l1, d1, n1⟩, g1, g⟩ := goUp_ok (key := key) (pv := pv) (up := up) (high := high) (e := e) (F := F) hN (by (clear he5' he4' he3' he2' he1' he5 he4 he3 he2 he1 hr hf hpv hi lo a4 a3 a2 hN hF hh; lia)) (by (clear he5' he4' he3' he2' he1' he5 he4 he3 he1 hr hf hpv hi lo a4 a3 a2 a1 hN hF hh h0; lia)) (by (clear he5' he4' he3' he2' he1' he5 he4 he3 he1 hr hf hpv hi lo a4 a3 a2 a1 hN hF h0; lia)) he1 he4 (by (clear he5' he4' he3' he2' he1' he5 he4 he3 he1 hr hf hpv hi lo a4 a3 a2 hN hh h0; lia)) (hr.le (by (clear he5' he4' he2' he5 he4 he2 he1 hr hf hpv hi lo a4 a3 a2 a1 hN hF hh h0; lia)))
    rw [g1]
    have q : l1 = s.lie := g.lie
    subst q
    have gc := g.cnt
    have ga : (n1.length : Int) = s.ans.length + (u - (up + 1) + 1) := g.ans
    have gu := g.ge
    have ge := g.le
    have hr : cnt s + (8 * (down - up) + 60) ≤ 40000 := hr
    have hc1 : cnt ⟨s.lie, d1 ++ [(2, 0)], n1⟩ = cnt ⟨s.lie, d1, n1⟩ + 1 := cnt_d (l := s.lie)
    dsimp only
    obtain ⟨v, ⟨l2, d2, n2⟩, k1, k⟩ := goDown_ok (key := key) (pv := pv) (down := down) (low := low) (e := e') (F := F) (s := ⟨s.lie, d1 ++ [(2, 0)], n1⟩) hN (by (clear hc1 hr ge gu ga gc g g1 he5' he4' he3' he2' he1' he5 he4 he3 he2 he1 hf hpv hi lo a4 a2 a1 hN hF h0; lia)) he2' (by (clear hc1 hr ge gu ga gc g g1 he5' he4' he3' he1' he5 he4 he3 he2 he1 hf hpv hi lo a4 a3 a2 a1 hN hF hh; lia)) he1' he4' (by (clear hc1 hr ge gu ga gc g g1 he5' he4' he3' he1' he5 he4 he3 he2 he1 hf hpv hi lo a4 a2 a1 hN hh h0; lia)) (by show cnt _ + _ ≤ 40000; rw [hc1, gc]; (clear hc1 ga gc g g1 he5' he4' he2' he1' he5 he4 he2 he1 hf hpv hi lo a4 a3 a2 a1 hN hF hh h0; lia))
    have k1 : goDown (kO key) pv down low F (hold ⟨s.lie, d1, n1⟩) = some (v, lat s v, ⟨l2, d2, n2⟩) := k1
    rw [k1]
    have q : l2 = s.lie := k.lie
    subst q
    have ka : (n2.length : Int) = (n1.length : Nat) + (down - 1 - v + 1) := k.ans
    have kc : cnt ⟨s.lie, d2, n2⟩ = cnt ⟨s.lie, d1 ++ [(2, 0)], n1⟩ + (2 * (down - 1 - v) + 1 + 1) := k.cnt
    have kv := k.le
    have ke := k.ge
    have ks : ¬ key pv < key (lat s v) := k.stop
    have kp : ∀ p, p ≤ down - 1 → v < p → key pv < key (lat s p) := k.pass
    have gs := g.stop
    have gp := g.pass
    have hc2 : cnt ⟨s.lie, d2 ++ [(3, 0)], n2⟩ = cnt s + (2 * (u - up) + 2 * (down - v) + 2) := by rw [cnt_d (l := s.lie), kc, hc1, gc]; (clear gp gs kp ks ke kv kc ka k1 k hc1 hr ge gu ga gc g g1 he5' he4' he3' he2' he1' he5 he4 he3 he2 he1 hf hpv hi lo a4 a3 a2 a1 hN hF hh h0; lia)
    have hn2 : (n2.length : Int) = s.ans.length + (u - up + (down - v)) := by rw [ka, ga]; (clear hc2 gp gs kp ks ke kv kc ka k1 k hc1 hr ge gu ga gc g g1 he5' he4' he3' he2' he1' he5 he4 he3 he2 he1 hf hpv hi lo a4 a3 a2 a1 hN hF hh h0; lia)
    clear g k gc kc hc1 ka ga g1 k1
    dsimp only
    by_cases c : v < u
    · rw [if_pos c]
      -- the ways have crossed
      have hcross : up < down → u - v ≤ 1 := fun q => by
        apply Int.not_lt.mp
        intro h
        have y1 := he5 q
        have y2 := he5' q
        have x1 := gp (v + 1) (by (clear y1 h q c hn2 hc2 gp gs kp ks kv k1 hr ge gu he5' he4' he3' he2' he1' he5 he4 he3 he2 he1 hf hpv hi lo a4 a3 a2 a1 hN hF hh h0; lia)) (by (clear y2 y1 q c hn2 hc2 gp gs kp ks ke kv k1 hr ge gu he5' he4' he3' he2' he1' he5 he4 he3 he2 he1 hf hpv hi lo a4 a3 a2 a1 hN hF hh h0; lia))
        have x2 := kp (v + 1) (by (clear x1 y2 q c hn2 hc2 gp gs kp ks ke kv k1 hr gu he5' he4' he3' he2' he1' he5 he4 he3 he2 he1 hf hpv hi lo a4 a3 a2 a1 hN hF hh h0; lia)) (by (clear x1 y2 y1 h q c hn2 hc2 gp gs kp ks ke kv k1 hr ge gu he5' he4' he3' he2' he1' he5 he4 he3 he2 he1 hf hpv hi lo a4 a3 a2 a1 hN hF hh h0; lia))
        exact absurd x1 (Int.not_lt.mpr (Int.le_of_lt x2))
      have hcross : u - v ≤ 2 ∧ (up < down → u - v ≤ 1) := ⟨by (clear c hn2 hc2 gp gs kp ks kv k1 hr gu he5' he4' he2' he1' he5 he4 he2 he1 hf hpv hi lo a4 a3 a2 a1 hN hF hh h0; lia), hcross⟩
      obtain ⟨s3, f1, w⟩ := finish_ok (s := ⟨s.lie, d2 ++ [(3, 0)], n2⟩) (low := low) (high := high) (up := u) hN h0 hh ⟨by (clear hcross hn2 hc2 gp gs kp ks kv k1 hr ge gu he5' he4' he3' he1' he5 he4 he3 he2 he1 hf hpv hi lo a4 a3 a2 a1 hN hF hh h0; lia), by (clear hcross c hn2 hc2 gp gs kp ks ke kv k1 hr gu he5' he4' he3' he2' he1' he5 he4 he3 he1 hf hpv hi lo a4 a3 a2 a1 hN hF hh h0; lia)⟩ (by (clear hcross hn2 hc2 gp gs kp ks kv k1 hr gu he5' he4' he3' he1' he5 he4 he3 he1 hf hpv hi lo a4 a3 a2 a1 hN hF hh h0; lia)) (by show cnt _ + _ ≤ 40000; rw [hc2]; (clear c hn2 hc2 gp gs kp ks ke k1 ge he5' he4' he3' he2' he1' he5 he4 he3 he2 he1 hf hpv hi lo a4 a3 a2 a1 hN hF hh h0; lia))
      have f1 : finish high u (drop ⟨s.lie, d2, n2⟩) = some s3 := f1
      have wl : ∀ x, 0 ≤ x → lat s3 x = if x = u then lat s (high - 1) else if x = high - 1 then lat s u else lat s x := w.at_
      have wa : (s3.ans.length : Int) = n2.length := by rw [w.ans]
      have wc := w.cnt
      rw [f1]
      refine ⟨u, s3, rfl, by (clear wc wa wl f1 w hcross hn2 hc2 gp gs kp ks kv k1 hr ge gu he5' he4' he3' he1' he5 he4 he3 he2 he1 hf hpv hi lo a4 a3 a2 a1 hN hF hh h0; lia), by (clear wc wa wl f1 w hcross c hn2 hc2 gp gs kp ks ke kv k1 hr gu he5' he4' he3' he2' he1' he5 he4 he3 he1 hf hpv hi lo a4 a3 a2 a1 hN hF hh h0; lia), ⟨w.sh.len, w.sh.perm, w.sh.inn, w.sh.out⟩, by rw [wl u (by (clear wc wa wl f1 w hcross hn2 hc2 gp gs kp ks kv k1 hr ge gu he5' he4' he3' he1' he5 he4 he3 he2 he1 hf hpv hi lo a4 a3 a2 a1 hN hF hh; lia)), if_pos rfl]; exact hpv, fun p h1 h2 => ?_, fun p h1 h2 => ?_, by rw [wa, hn2]; (clear wc wa wl f1 w hcross hn2 hc2 gp gs kp ks ke kv k1 hr ge gu he5' he4' he3' he2' he1' he5 he4 he3 he2 he1 hf hpv hi lo a4 a3 a2 a1 hN hF hh h0; lia), by rw [wa, hn2]; (clear wc wa wl f1 w c hn2 hc2 gp gs kp ks ke kv k1 hr ge gu he5' he4' he3' he2' he1' he5 he4 he3 he2 he1 hf hpv hi lo a4 a3 a2 a1 hN hF hh h0; lia), by rw [wa, hn2, wc, hc2]; (clear wc wa wl f1 w hcross c hn2 hc2 gp gs kp ks ke k1 hr ge he5' he4' he3' he2' he1' he5 he4 he3 he2 he1 hf hpv hi lo a4 a3 a2 a1 hN hF hh h0; lia)⟩
      · rw [wl p (by (clear h2 wc wa wl f1 w hcross c hn2 hc2 gp gs kp ks ke kv k1 hr ge gu he5' he4' he3' he2' he1' he5 he4 he3 he2 he1 hf hpv hi lo a4 a3 a2 a1 hN hF hh; lia)), if_neg (by (clear h1 wc wa wl f1 w hcross c hn2 hc2 gp gs kp ks ke kv k1 hr ge gu he5' he4' he3' he2' he1' he5 he4 he3 he2 he1 hf hpv hi lo a4 a3 a2 a1 hN hF hh h0; lia)), if_neg (by (clear h1 wc wa wl f1 w hcross c hn2 hc2 gp gs kp ks ke kv k1 hr gu he5' he4' he3' he2' he1' he5 he4 he3 he1 hf hpv hi lo a4 a3 a2 a1 hN hF hh h0; lia))]
        by_cases q : p ≤ up
        · exact lo p h1 q
        · exact Int.not_lt.mpr (Int.le_of_lt (gp p (by (clear h2 h1 wc wa wl f1 w hcross c hn2 hc2 gp gs kp ks ke kv k1 hr ge gu he5' he4' he3' he2' he1' he5 he4 he3 he2 he1 hf hpv hi lo a4 a3 a2 a1 hN hF hh h0; lia)) h2))
      · rw [wl p (by (clear h2 wc wa wl f1 w hcross hn2 hc2 gp gs kp ks kv k1 hr ge gu he5' he4' he3' he1' he5 he4 he3 he2 he1 hf hpv hi lo a4 a3 a2 a1 hN hF hh; lia)), if_neg (by (clear h2 wc wa wl f1 w hcross c hn2 hc2 gp gs kp ks ke kv k1 hr ge gu he5' he4' he3' he2' he1' he5 he4 he3 he2 he1 hf hpv hi lo a4 a3 a2 a1 hN hF hh h0; lia))]
        by_cases q : p = high - 1
        · rw [if_pos q]; exact gs
        · rw [if_neg q]
          by_cases q2 : p < down
          · exact Int.not_lt.mpr (Int.le_of_lt (kp p (by (clear q h2 h1 wc wa wl f1 w hcross c hn2 hc2 gp gs kp ks ke kv k1 hr ge gu he5' he4' he3' he2' he1' he5 he4 he3 he2 he1 hf hpv hi lo a4 a3 a2 a1 hN hF hh h0; lia)) (by (clear q2 q h2 wc wa wl f1 w hcross hn2 hc2 gp gs kp ks ke kv k1 hr ge gu he5' he4' he3' he2' he1' he5 he4 he3 he2 he1 hf hpv hi lo a4 a3 a2 a1 hN hF hh h0; lia))))
          · exact hi p (by (clear q h2 h1 wc wa wl f1 w hcross c hn2 hc2 gp gs kp ks ke kv k1 hr ge gu he5' he4' he3' he2' he1' he5 he4 he3 he2 he1 hf hpv hi lo a4 a3 a2 a1 hN hF hh h0; lia)) h2
    · rw [if_neg c]
      -- an exchange
      have hud : up < down := by (clear hn2 hc2 gp gs kp ks ke k1 hr ge he5' he4' he3' he2' he1' he5 he4 he3 he2 he1 hf hpv hi lo a4 a3 a2 a1 hN hF hh h0; lia)
      obtain ⟨s3, s4, w1, w2, w⟩ := swap_ok (s := s) (d := d2 ++ [(3, 0)]) (a := n2) (p := u) (q := v) (low := low) (high := high) hN h0 hh ⟨by (clear hud c hn2 hc2 gp gs kp ks ke kv k1 hr ge he5' he4' he3' he2' he1' he5 he4 he3 he2 he1 hf hpv hi lo a4 a3 a2 hN hF hh h0; lia), by (clear hud c hn2 hc2 gp gs kp ks ke kv k1 hr gu he5' he4' he3' he2' he1' he5 he4 he3 he1 hf hpv hi lo a4 a3 a2 a1 hN hF hh h0; lia)⟩ ⟨by (clear hud c hn2 hc2 gp gs kp ks kv k1 hr ge gu he5' he4' he3' he1' he5 he4 he3 he2 he1 hf hpv hi lo a4 a3 a2 a1 hN hF hh h0; lia), by (clear hud c hn2 hc2 gp gs kp ks ke k1 hr ge gu he5' he4' he3' he2' he1' he5 he4 he3 he2 he1 hf hpv hi lo a4 a2 a1 hN hF hh h0; lia)⟩ (by show cnt _ + _ ≤ 40000; rw [hc2]; (clear hn2 hc2 gp gs kp ks ke kv k1 ge gu he5' he4' he3' he2' he1' he5 he4 he3 he2 he1 hf hpv hi lo a4 a3 a2 a1 hN hF hh h0; lia))
      have w1 : wr u (lat s v) (drop ⟨s.lie, d2, n2⟩) = some s3 := w1
      rw [w1]
      dsimp only
      rw [w2]
      dsimp only
      have wl := w.at_
      have wa : (s4.ans.length : Int) = n2.length := by rw [w.ans]
      have wc := w.cnt
      obtain ⟨seam, s', i1, i⟩ := partLoop_ok h0 hh hF f u v s4 (by rw [w.sh.len]; exact hN) (by (clear wc wa wl w1 w w2 hud c hn2 hc2 gp gs kp ks ke kv k1 hr ge he5' he4' he3' he2' he1' he5 he4 he3 he2 he1 hf hpv hi lo a4 a3 a2 hN hF hh h0; lia)) (by (clear wc wa wl w1 w w2 hud hn2 hc2 gp gs kp ks ke kv k1 hr ge gu he5' he4' he3' he2' he1' he5 he4 he3 he2 he1 hf hpv hi lo a4 a3 a2 a1 hN hF hh h0; lia)) (by (clear wc wa wl w1 w w2 hud c hn2 hc2 gp gs kp ks ke k1 hr ge gu he5' he4' he3' he2' he1' he5 he4 he3 he2 he1 hf hpv hi lo a4 a2 a1 hN hF hh h0; lia)) (fun q => by (clear q wc wa wl w1 w w2 hud c hn2 hc2 gp gs kp ks ke k1 hr ge he5' he4' he3' he2' he1' he5 he4 he3 he2 he1 hf hpv hi lo a4 a2 hN hF hh h0; lia))
        (fun p h1 h2 => by
          rw [wl p (by (clear h2 wc wa wl w1 w w2 hud c hn2 hc2 gp gs kp ks ke kv k1 hr ge gu he5' he4' he3' he2' he1' he5 he4 he3 he2 he1 hf hpv hi lo a4 a3 a2 a1 hN hF hh; lia))]
          by_cases q1 : p = v
          · rw [if_pos q1, show u = v by (clear h1 wc wa wl w1 w w2 hud hn2 hc2 gp gs kp ks ke kv k1 hr ge gu he5' he4' he3' he2' he1' he5 he4 he3 he2 he1 hf hpv hi lo a4 a3 a2 a1 hN hF hh h0; lia)]; exact ks
          · rw [if_neg q1]
            by_cases q2 : p = u
            · rw [if_pos q2]; exact ks
            · rw [if_neg q2]
              by_cases q3 : p ≤ up
              · exact lo p h1 q3
              · exact Int.not_lt.mpr (Int.le_of_lt (gp p (by (clear q2 q1 h2 h1 wc wa wl w1 w w2 hud c hn2 hc2 gp gs kp ks ke kv k1 hr ge gu he5' he4' he3' he2' he1' he5 he4 he3 he2 he1 hf hpv hi lo a4 a3 a2 a1 hN hF hh h0; lia)) (by (clear q3 q1 h1 wc wa wl w1 w w2 hud c hn2 hc2 gp gs kp ks ke kv k1 hr ge gu he5' he4' he3' he2' he1' he5 he4 he3 he2 he1 hf hpv hi lo a4 a3 a2 a1 hN hF hh h0; lia)))))
        (fun p h1 h2 => by
          rw [wl p (by (clear h2 wc wa wl w1 w w2 hud c hn2 hc2 gp gs kp ks kv k1 hr ge gu he5' he4' he3' he1' he5 he4 he3 he2 he1 hf hpv hi lo a4 a3 a2 a1 hN hF hh; lia))]
          by_cases q1 : p = v
          · rw [if_pos q1]; exact gs
          · rw [if_neg q1, if_neg (by (clear h2 wc wa wl w1 w w2 hud hn2 hc2 gp gs kp ks ke kv k1 hr ge gu he5' he4' he3' he2' he1' he5 he4 he3 he2 he1 hf hpv hi lo a4 a3 a2 a1 hN hF hh h0; lia))]
            by_cases q3 : p < down
            · exact Int.not_lt.mpr (Int.le_of_lt (kp p (by (clear q1 h2 h1 wc wa wl w1 w w2 hud c hn2 hc2 gp gs kp ks ke kv k1 hr ge gu he5' he4' he3' he2' he1' he5 he4 he3 he2 he1 hf hpv hi lo a4 a3 a2 a1 hN hF hh h0; lia)) (by (clear q3 h2 wc wa wl w1 w w2 hud c hn2 hc2 gp gs kp ks ke kv k1 hr ge gu he5' he4' he3' he2' he1' he5 he4 he3 he2 he1 hf hpv hi lo a4 a3 a2 a1 hN hF hh h0; lia))))
            · exact hi p (by (clear q1 h2 h1 wc wa wl w1 w w2 hud c hn2 hc2 gp gs kp ks ke kv k1 hr ge gu he5' he4' he3' he2' he1' he5 he4 he3 he2 he1 hf hpv hi lo a4 a3 a2 a1 hN hF hh h0; lia)) h2)
        (by rw [wl _ (by (clear wc wa wl w1 w w2 hud c hn2 hc2 gp gs kp ks k1 hr ge gu he5' he4' he3' he1' he5 he4 he3 he2 he1 hf hpv hi lo a4 a2 a1 hN hF hh; lia)), if_neg (by (clear wc wa wl w1 w w2 hud c hn2 hc2 gp gs kp ks ke k1 hr ge gu he5' he4' he3' he2' he1' he5 he4 he3 he2 he1 hf hpv hi lo a4 a2 a1 hN hF hh h0; lia)), if_neg (by (clear wc wa wl w1 w w2 hud hn2 hc2 gp gs kp ks ke k1 hr ge gu he5' he4' he3' he2' he1' he5 he4 he3 he2 he1 hf hpv hi lo a4 a2 a1 hN hF hh h0; lia))]; exact hpv) (by (clear wc wa wl w1 w w2 hud c hn2 hc2 gp gs kp ks ke k1 hr ge he5' he4' he3' he2' he1' he5 he4 he3 he2 he1 hpv hi lo a4 a3 a2 a1 hN hF hh h0; lia))
        (by show cnt _ + _ ≤ 40000; rw [wc, hc2]; (clear wc wa wl w1 w w2 hud c hn2 hc2 gp gs kp ks ke k1 ge he5' he4' he3' he2' he1' he5 he4 he3 he2 he1 hf hpv hi lo a4 a3 a2 a1 hN hF hh h0; lia))
      have i8 := i.amin
      have i9 := i.amax
      have i10 := i.cnt
      rw [wa, hn2] at i8 i9 i10
      rw [wc, hc2] at i10
      exact ⟨seam, s', i1, i.b1, i.b2, w.sh.trans i.sh, i.piv, i.lo, i.hi, by (clear i10 i9 i i1 wc wa wl w1 w w2 hud c hn2 hc2 gp gs kp ks ke kv k1 hr ge gu he5' he4' he3' he2' he1' he5 he4 he3 he2 he1 hf hpv hi lo a4 a3 a2 a1 hN hF hh h0; lia), by (clear i10 i8 i i1 wc wa wl w1 w w2 hud c hn2 hc2 gp gs kp ks ke kv k1 hr ge gu he5' he4' he3' he2' he1' he5 he4 he3 he2 he1 hf hpv hi lo a4 a3 a2 a1 hN hF hh h0; lia), by (clear i9 i8 i i1 wc wa wl w1 w w2 hud c hn2 hc2 gp gs kp ks ke k1 hr ge he5' he4' he3' he2' he1' he5 he4 he3 he2 he1 hf hpv hi lo a4 a3 a2 a1 hN hF hh h0; lia)⟩
end
end

/-! ### P6 -/
noncomputable section
set_option Elab.async false
set_option maxRecDepth 100000
section
variable {key : Nat → Int} {N : Nat}
theorem part_ok {low high : Int} {F : Nat} {s : PS} (hN : s.lie.length = N) (h0 : 0 ≤ low) (hh : high < N) (hlh : low + 2 < high) (hF : high - low + 2 < F)
    (p1 : ¬ key (lat s ((low + high) / 2)) < key (lat s low)) (p2 : ¬ key (lat s high) < key (lat s ((low + high) / 2))) (hr : Rm s (8 * (high - low) + 100)) :
    ∃ seam s', part (kO key) F low high s = some (seam, s') ∧ PartOk key low high (lat s ((low + high) / 2)) (high - 1 - low) 8 s seam s' := by
  obtain ⟨l, d, a⟩ := s
  unfold part
  have hm : low < (low + high) / 2 ∧ (low + high) / 2 < high - 1 := by lia
  generalize (low + high) / 2 = m at *
  rw [rd_ok hN (by lia) (by lia) hr (by lia)]
  dsimp only
  have r1 : Rm ⟨l, d ++ [(0, m)], a⟩ (8 * (high - low) + 99) := hr.d (by lia)
  rw [rd_ok (s := ⟨l, d ++ [(0, m)], a⟩) hN (by lia) (by lia) r1 (by lia)]
  dsimp only
  obtain ⟨s1, s2, e1, e2, w⟩ := swap_ok (s := ⟨l, d, a⟩) (d := d ++ [(0, m)] ++ [(0, high - 1)]) (a := a) (p := m) (q := high - 1) (low := low) (high := high) hN h0 hh ⟨by lia, by lia⟩ ⟨by lia, by lia⟩ (r1.d (by lia))
  have e1 : wr m (lat ⟨l, d ++ [(0, m)], a⟩ (high - 1)) ⟨l, d ++ [(0, m)] ++ [(0, high - 1)], a⟩ = some s1 := e1
  have e2 : wr (high - 1) (lat ⟨l, d, a⟩ m) s1 = some s2 := e2
  have el := w.at_
  have ea : (s2.ans.length : Int) = a.length := by rw [w.ans]
  have ec : cnt s2 = cnt ⟨l, d, a⟩ + 4 := by rw [w.cnt, cnt_d (l := l), cnt_d (l := l)]; lia
  have hr : cnt ⟨l, d, a⟩ + (8 * (high - low) + 100) ≤ 40000 := hr
  rw [e1]
  dsimp only
  rw [e2]
  dsimp only
  obtain ⟨seam, s', i1, i⟩ := partLoop_ok (key := key) (pv := lat ⟨l, d, a⟩ m) (F := F) h0 hh (by lia) F low (high - 1) s2 (by rw [w.sh.len]; exact hN) (Int.le_refl _) (by lia) (Int.le_refl _) (fun q => by lia)
    (fun p h1 h2 => by
      rw [show p = low by lia, el low h0, if_neg (by lia), if_neg (by lia)]
      exact p1)
    (fun p h1 h2 => by
      rw [el p (by lia)]
      by_cases q : p = high - 1
      · rw [if_pos q]; exact Int.lt_irrefl _
      · rw [show p = high by lia, if_neg (by lia), if_neg (by lia)]; exact p2)
    (by rw [el _ (by lia), if_pos rfl]) (by lia) (by show cnt _ + _ ≤ 40000; rw [ec]; lia)
  have i8 := i.amin
  have i9 := i.amax
  have i10 := i.cnt
  rw [ea] at i8 i9 i10
  rw [ec] at i10
  exact ⟨seam, s', i1, i.b1, i.b2, w.sh.trans i.sh, i.piv, i.lo, i.hi, i8, i9, by show _ ≤ _ + 4 * (_ - (a.length : Int)) + 8; lia⟩

structure TwoOk (key : Nat → Int) (low high : Int) (s s' : PS) : Prop where
  sh : Shuf low high s s'
  ord : ¬ key (lat s' high) < key (lat s' low)
  ans : (s'.ans.length : Int) = s.ans.length + 1
  cnt : cnt s' ≤ cnt s + 5
theorem two_ok {low high : Int} {s : PS} (hN : s.lie.length = N) (h0 : 0 ≤ low) (hh : high < N) (hlh : low < high) (hr : Rm s 10) : ∃ s', two (kO key) low high s = some s' ∧ TwoOk key low high s s' := by
  obtain ⟨l, d, a⟩ := s
  unfold two
  rw [rd_ok hN h0 (by lia) hr (by decide)]
  dsimp only
  have r1 : Rm ⟨l, d ++ [(0, low)], a⟩ 9 := hr.d (by decide)
  have r2 : Rm ⟨l, d ++ [(0, low)] ++ [(0, high)], a⟩ 8 := r1.d (by decide)
  have c2 : cnt ⟨l, d ++ [(0, low)] ++ [(0, high)], a⟩ = cnt ⟨l, d, a⟩ + 1 + 1 := (cnt_d (l := l)).trans (congrArg (· + 1) (cnt_d (l := l)))
  rw [rd_ok (s := ⟨l, d ++ [(0, low)], a⟩) hN (by lia) (by lia) r1 (by decide)]
  dsimp only
  rw [ask_key]
  by_cases c : key (lat ⟨l, d, a⟩ high) < key (lat ⟨l, d, a⟩ low)
  · have c' : decide (key (lat ⟨l, d ++ [(0, low)], a⟩ high) < key (lat ⟨l, d, a⟩ low)) = true := decide_eq_true c
    rw [c']
    dsimp only
    obtain ⟨s1, s2, e1, e2, w⟩ := swap_ok (s := ⟨l, d, a⟩) (d := d ++ [(0, low)] ++ [(0, high)]) (a := a ++ [true]) (p := low) (q := high) (low := low) (high := high) hN h0 hh ⟨Int.le_refl _, Int.le_of_lt hlh⟩ ⟨Int.le_of_lt hlh, Int.le_refl _⟩ (r2.a (by decide))
    have e1 : wr low (lat ⟨l, d ++ [(0, low)], a⟩ high) ⟨l, d ++ [(0, low)] ++ [(0, high)], a ++ [true]⟩ = some s1 := e1
    rw [e1]
    dsimp only
    refine ⟨s2, e2, w.sh, ?_, by rw [w.ans]; exact len_a, by rw [w.cnt, cnt_a (l := l), c2]; lia⟩
    rw [w.at_ high (by lia), if_pos rfl, w.at_ low h0, if_neg (by lia), if_pos rfl]
    exact Int.not_lt.mpr (Int.le_of_lt c)
  · have c' : decide (key (lat ⟨l, d ++ [(0, low)], a⟩ high) < key (lat ⟨l, d, a⟩ low)) = false := decide_eq_false c
    rw [c']
    exact ⟨_, rfl, Shuf.refl rfl, c, len_a, by rw [cnt_a (l := l), c2]; lia⟩
end
end

/-! ### P7 -/
noncomputable section
set_option Elab.async false
set_option maxRecDepth 100000
section
variable {key : Nat → Int} {N : Nat}
structure MidOk (key : Nat → Int) (low m high : Int) (s s' : PS) : Prop where
  sh : Shuf low high s s'
  o1 : ¬ key (lat s' m) < key (lat s' low)
  o2 : ¬ key (lat s' high) < key (lat s' m)
  amin : (s.ans.length : Int) + 1 ≤ s'.ans.length
  amax : (s'.ans.length : Int) ≤ s.ans.length + 2
  cnt : cnt s' ≤ cnt s + 7
theorem mid_ok {low m high : Int} {s : PS} (hN : s.lie.length = N) (h0 : 0 ≤ low) (hh : high < N) (hm1 : low < m) (hm2 : m < high) (hlh : ¬ key (lat s high) < key (lat s low)) (hr : Rm s 20) : ∃ s', mid (kO key) low m high s = some s' ∧ MidOk key low m high s s' := by
  obtain ⟨l, d, a⟩ := s
  have m0 : 0 ≤ m := by lia
  have mN : m < N := by lia
  have lh : low < high := Int.lt_trans hm1 hm2
  have il : low ≤ low ∧ low ≤ high := ⟨Int.le_refl _, Int.le_of_lt lh⟩
  have im : low ≤ m ∧ m ≤ high := ⟨Int.le_of_lt hm1, Int.le_of_lt hm2⟩
  have ih : low ≤ high ∧ high ≤ high := ⟨Int.le_of_lt lh, Int.le_refl _⟩
  unfold mid
  rw [rd_ok hN m0 mN hr (by decide)]
  dsimp only
  have r1 : Rm ⟨l, d ++ [(0, m)], a⟩ 19 := hr.d (by decide)
  have r2 : Rm ⟨l, d ++ [(0, m)] ++ [(0, low)], a⟩ 18 := r1.d (by decide)
  have c2 : cnt ⟨l, d ++ [(0, m)] ++ [(0, low)], a⟩ = cnt ⟨l, d, a⟩ + 1 + 1 := (cnt_d (l := l)).trans (congrArg (· + 1) (cnt_d (l := l)))
  rw [rd_ok (s := ⟨l, d ++ [(0, m)], a⟩) hN h0 (by lia) r1 (by decide)]
  dsimp only
  rw [ask_key]
  by_cases c : key (lat ⟨l, d, a⟩ m) < key (lat ⟨l, d, a⟩ low)
  · have c' : decide (key (lat ⟨l, d, a⟩ m) < key (lat ⟨l, d ++ [(0, m)], a⟩ low)) = true := decide_eq_true c
    rw [c']
    dsimp only
    obtain ⟨s1, s2, e1, e2, w⟩ := swap_ok (s := ⟨l, d, a⟩) (d := d ++ [(0, m)] ++ [(0, low)]) (a := a ++ [true]) (p := m) (q := low) (low := low) (high := high) hN h0 hh im il (r2.a (by decide))
    have e1 : wr m (lat ⟨l, d ++ [(0, m)], a⟩ low) ⟨l, d ++ [(0, m)] ++ [(0, low)], a ++ [true]⟩ = some s1 := e1
    rw [e1]
    dsimp only
    have hm : lat s2 m = lat ⟨l, d, a⟩ low := by rw [w.at_ m m0, if_neg (Int.ne_of_gt hm1), if_pos rfl]
    refine ⟨s2, e2, w.sh, ?_, ?_, by rw [w.ans, len_a]; exact Int.le_refl _, by rw [w.ans, len_a]; show _ ≤ (a.length : Int) + 2; lia, by rw [w.cnt, cnt_a (l := l), c2]; lia⟩
    · rw [hm, w.at_ low h0, if_pos rfl]; exact Int.not_lt.mpr (Int.le_of_lt c)
    · rw [hm, w.at_ high (by lia), if_neg (Int.ne_of_gt lh), if_neg (Int.ne_of_gt hm2)]; exact hlh
  · have c' : decide (key (lat ⟨l, d, a⟩ m) < key (lat ⟨l, d ++ [(0, m)], a⟩ low)) = false := decide_eq_false c
    rw [c']
    dsimp only
    have r3 : Rm ⟨l, d ++ [(0, m)] ++ [(0, low)], a ++ [false]⟩ 17 := r2.a (by decide)
    have r4 : Rm ⟨l, d ++ [(0, m)] ++ [(0, low)] ++ [(0, high)], a ++ [false]⟩ 16 := r3.d (by decide)
    have c4 : cnt ⟨l, d ++ [(0, m)] ++ [(0, low)] ++ [(0, high)], a ++ [false]⟩ = cnt ⟨l, d, a⟩ + 4 := by rw [cnt_d (l := l), cnt_a (l := l), c2]; lia
    rw [rd_ok (s := ⟨l, d ++ [(0, m)] ++ [(0, low)], a ++ [false]⟩) hN (by lia) hh r3 (by decide)]
    dsimp only
    rw [ask_key]
    by_cases c3 : key (lat ⟨l, d, a⟩ high) < key (lat ⟨l, d, a⟩ m)
    · have c' : decide (key (lat ⟨l, d ++ [(0, m)] ++ [(0, low)], a ++ [false]⟩ high) < key (lat ⟨l, d, a⟩ m)) = true := decide_eq_true c3
      rw [c']
      dsimp only
      obtain ⟨s1, s2, e1, e2, w⟩ := swap_ok (s := ⟨l, d, a⟩) (d := d ++ [(0, m)] ++ [(0, low)] ++ [(0, high)]) (a := a ++ [false] ++ [true]) (p := m) (q := high) (low := low) (high := high) hN h0 hh im ih (r4.a (by decide))
      have e1 : wr m (lat ⟨l, d ++ [(0, m)] ++ [(0, low)], a ++ [false]⟩ high) ⟨l, d ++ [(0, m)] ++ [(0, low)] ++ [(0, high)], a ++ [false] ++ [true]⟩ = some s1 := e1
      rw [e1]
      dsimp only
      have hm : lat s2 m = lat ⟨l, d, a⟩ high := by rw [w.at_ m m0, if_neg (Int.ne_of_lt hm2), if_pos rfl]
      refine ⟨s2, e2, w.sh, ?_, ?_, by rw [w.ans, len_a, len_a]; show (a.length : Int) + 1 ≤ _; lia, by rw [w.ans, len_a, len_a]; show _ ≤ (a.length : Int) + 2; lia, by rw [w.cnt, cnt_a (l := l), c4]; lia⟩
      · rw [hm, w.at_ low h0, if_neg (Int.ne_of_lt lh), if_neg (Int.ne_of_lt hm1)]; exact hlh
      · rw [hm, w.at_ high (by lia), if_pos rfl]; exact Int.not_lt.mpr (Int.le_of_lt c3)
    · have c' : decide (key (lat ⟨l, d ++ [(0, m)] ++ [(0, low)], a ++ [false]⟩ high) < key (lat ⟨l, d, a⟩ m)) = false := decide_eq_false c3
      rw [c']
      exact ⟨_, rfl, Shuf.refl rfl, c, c3, by rw [len_a, len_a]; show (a.length : Int) + 1 ≤ _; lia, by rw [len_a, len_a]; show _ ≤ (a.length : Int) + 2; lia, by rw [cnt_a (l := l), c4]; lia⟩
end
end

/-! ### P8 -/
noncomputable section
set_option Elab.async false
set_option maxRecDepth 100000
noncomputable abbrev Seg := Int × Int
noncomputable def Seg.sz (g : Seg) : Int := g.2 - g.1 + 1
noncomputable def Seg.In (g : Seg) (p : Int) : Prop := g.1 ≤ p ∧ p ≤ g.2
noncomputable def Disj (g g' : Seg) : Prop := g.2 < g'.1 ∨ g'.2 < g.1
structure Inv (key : Nat → Int) (N : Nat) (st : List Seg) (s : PS) : Prop where
  len : s.lie.length = N
  ok : ∀ g ∈ st, 0 ≤ g.1 ∧ g.1 ≤ g.2 ∧ g.2 < N
  disj : st.Pairwise Disj
  ord : ∀ p q : Int, 0 ≤ p → p < q → q < N → (∃ g ∈ st, Seg.In g p ∧ Seg.In g q) ∨ ¬ key (lat s q) < key (lat s p)
section
variable {key : Nat → Int} {N : Nat}
theorem Inv.replace {l h : Int} {st gs : List Seg} {s s' : PS} (I : Inv key N ((l, h) :: st) s) (sh : Shuf l h s s') (ok : ∀ g ∈ gs, l ≤ g.1 ∧ g.1 ≤ g.2 ∧ g.2 ≤ h) (dj : gs.Pairwise Disj)
    (ord : ∀ p q, l ≤ p → p < q → q ≤ h → (∃ g ∈ gs, Seg.In g p ∧ Seg.In g q) ∨ ¬ key (lat s' q) < key (lat s' p)) : Inv key N (gs ++ st) s' := by
  have o1 := I.ok (l, h) (.head _)
  have hd := (List.pairwise_cons.mp I.disj).1
  have o1a : 0 ≤ l := o1.1
  have o1b : l ≤ h := o1.2.1
  have o1c : h < N := o1.2.2
  refine ⟨by rw [sh.len]; exact I.len, fun g hg => ?_, ?_, fun p q hp hpq hq => ?_⟩
  · rcases List.mem_append.mp hg with hg | hg
    · have := ok g hg; lia
    · exact I.ok g (.tail _ hg)
  · refine List.pairwise_append.mpr ⟨dj, (List.pairwise_cons.mp I.disj).2, fun g hg g' hg' => ?_⟩
    have a := ok g hg
    have b : h < g'.1 ∨ g'.2 < l := hd g' hg'
    unfold Disj
    lia
  · by_cases pin : l ≤ p ∧ p ≤ h
    · by_cases qin : q ≤ h
      · rcases ord p q pin.1 hpq qin with ⟨g, hg, a⟩ | a
        · exact .inl ⟨g, List.mem_append_left _ hg, a⟩
        · exact .inr a
      · obtain ⟨p', b1, b2, b3⟩ := sh.inn p pin.1 pin.2
        rw [b3, sh.out q (by lia) (by lia)]
        rcases I.ord p' q (by lia) (by lia) hq with ⟨g, hg, c1, c2⟩ | c
        · exfalso
          rcases List.mem_cons.mp hg with rfl | hg
          · exact qin c2.2
          · have b : h < g.1 ∨ g.2 < l := hd g hg
            unfold Seg.In at c1
            lia
        · exact .inr c
    · by_cases qin : l ≤ q ∧ q ≤ h
      · obtain ⟨q', b1, b2, b3⟩ := sh.inn q qin.1 qin.2
        rw [b3, sh.out p hp (by lia)]
        rcases I.ord p q' hp (by lia) (by lia) with ⟨g, hg, c1, c2⟩ | c
        · exfalso
          rcases List.mem_cons.mp hg with rfl | hg
          · exact pin c1
          · have b : h < g.1 ∨ g.2 < l := hd g hg
            unfold Seg.In at c2
            lia
        · exact .inr c
      · rw [sh.out p hp (by lia), sh.out q (by lia) (by lia)]
        rcases I.ord p q hp hpq hq with ⟨g, hg, c1, c2⟩ | c
        · rcases List.mem_cons.mp hg with rfl | hg
          · exact absurd c1 pin
          · exact .inl ⟨g, List.mem_append_right _ hg, c1, c2⟩
        · exact .inr c
/-- the sums that bound a run -/
noncomputable def sA : List Seg → Int
  | [] => 0
  | g :: r => g.sz * g.sz + 8 * g.sz - 9 + sA r
noncomputable def sL : List Seg → Int
  | [] => 0
  | g :: r => g.sz - 1 + sL r
noncomputable def sD : List Seg → Int
  | [] => 0
  | g :: r => 4 * (g.sz * g.sz) + sD r
noncomputable def sF : List Seg → Int
  | [] => 0
  | g :: r => 2 * g.sz - 1 + sF r
theorem sq_split {k r m : Int} (hk : 1 ≤ k) (hr : 1 ≤ r) (hm : m = k + r + 1) : k * k + r * r + 4 * m ≤ m * m + 5 := by
  subst hm
  have h := Int.mul_nonneg (Int.sub_nonneg_of_le hk) (Int.sub_nonneg_of_le hr)
  have e1 : (k - 1) * (r - 1) = k * r - k - r + 1 := by rw [Int.sub_mul, Int.mul_sub]; lia
  have e2 : (k + r + 1) * (k + r + 1) = k * k + r * r + 2 * (k * r) + 2 * k + 2 * r + 1 := by
    simp only [Int.add_mul, Int.mul_add, Int.mul_one, Int.one_mul]
    rw [Int.mul_comm r k]; lia
  rw [e2]
  lia
end
end

/-! ### P9 -/
noncomputable section
set_option Elab.async false
set_option maxRecDepth 100000
section
variable {key : Nat → Int} {N : Nat}
theorem sz_sq {m : Int} (h1 : 1 ≤ m) (h2 : m ≤ 16) : 1 ≤ m * m ∧ m * m ≤ 256 :=
  ⟨Int.mul_le_mul h1 h1 (by decide) (by (clear h2; lia)), Int.mul_le_mul (c := 16) (d := 16) h2 h2 (by (clear h2; lia)) (by decide)⟩
noncomputable def Room3 (st : List Seg) (s : PS) : Prop := cnt s + sD st ≤ 30000
theorem sums_nonneg : ∀ {st : List Seg}, (∀ g ∈ st, 1 ≤ g.sz ∧ g.sz ≤ 16) → 0 ≤ sA st ∧ 0 ≤ sD st ∧ 0 ≤ sL st ∧ 0 ≤ sF st
  | [], _ => ⟨Int.le_refl _, Int.le_refl _, Int.le_refl _, Int.le_refl _⟩
  | g :: r, h => by
    have a := (h g (.head _)).1
    have b := sums_nonneg (st := r) fun g hg => h g (.tail _ hg)
    have c := (sz_sq a (h g (.head _)).2).1
    unfold sA sD sL sF
    exact ⟨by (clear h; lia), by (clear a h; lia), by (clear c h; lia), by (clear c h; lia)⟩
theorem Inv.szs {st : List Seg} {s : PS} (I : Inv key N st s) (hN : N ≤ 16) : ∀ g ∈ st, 1 ≤ g.sz ∧ g.sz ≤ 16 := fun g hg => by
  have := I.ok g hg
  unfold Seg.sz
  (clear hg I; lia)
/-! the two first steps of a turn -/
structure S1Ok (key : Nat → Int) (low high : Int) (s s' : PS) : Prop where
  sh : Shuf low high s s'
  ord : low < high → ¬ key (lat s' high) < key (lat s' low)
  one : low < high → (s'.ans.length : Int) = s.ans.length + 1
  same : ¬ low < high → s' = s
  cnt : cnt s' ≤ cnt s + 5
theorem step1_ok {low high : Int} {s : PS} (hN : s.lie.length = N) (h0 : 0 ≤ low) (hh : high < N) (hr : Rm s 10) : ∃ s', stepTwo (kO key) low high s = some s' ∧ S1Ok key low high s s' := by
  unfold stepTwo
  by_cases c : low < high
  · rw [if_pos c]
    obtain ⟨s1, e1, t⟩ := two_ok (key := key) hN h0 hh c hr
    exact ⟨s1, e1, t.sh, fun _ => t.ord, fun _ => t.ans, fun q => absurd c q, t.cnt⟩
  · rw [if_neg c]
    exact ⟨s, rfl, Shuf.refl rfl, fun q => absurd q c, fun q => absurd q c, fun _ => rfl, by (clear c hr hh h0 hN; lia)⟩
structure S2Ok (key : Nat → Int) (low high : Int) (s s' : PS) : Prop where
  sh : Shuf low high s s'
  o1 : 1 < high - low → ¬ key (lat s' ((low + high) / 2)) < key (lat s' low)
  o2 : 1 < high - low → ¬ key (lat s' high) < key (lat s' ((low + high) / 2))
  amin : 1 < high - low → (s.ans.length : Int) + 1 ≤ s'.ans.length
  amax : 1 < high - low → (s'.ans.length : Int) ≤ s.ans.length + 2
  same : ¬ 1 < high - low → s' = s
  cnt : cnt s' ≤ cnt s + 7
theorem step2_ok {low high : Int} {s : PS} (hN : s.lie.length = N) (h0 : 0 ≤ low) (hh : high < N) (ho : low < high → ¬ key (lat s high) < key (lat s low)) (hr : Rm s 20) : ∃ s', stepMid (kO key) low high s = some s' ∧ S2Ok key low high s s' := by
  unfold stepMid
  by_cases c : 1 < high - low
  · rw [if_pos c]
    obtain ⟨s1, e1, t⟩ := mid_ok (key := key) (m := (low + high) / 2) hN h0 hh (by (clear hr ho hh h0 hN; lia)) (by (clear hr ho hh h0 hN; lia)) (ho (by (clear hr ho hh h0 hN; lia))) hr
    exact ⟨s1, e1, t.sh, fun _ => t.o1, fun _ => t.o2, fun _ => t.amin, fun _ => t.amax, fun q => absurd c q, t.cnt⟩
  · rw [if_neg c]
    exact ⟨s, rfl, Shuf.refl rfl, fun q => absurd q c, fun q => absurd q c, fun q => absurd q c, fun q => absurd q c, fun _ => rfl, by (clear c hr ho hh h0 hN; lia)⟩
/-! what a turn costs, in plain numbers -/
theorem ar_room {c0 c1 c2 M d : Int} (h : c0 + (4 * M + d) ≤ 30000) (h1 : c1 ≤ c0 + 5) (h2 : c2 ≤ c1 + 7) (hd : 0 ≤ d) (hM : 1 ≤ M) : c2 ≤ 30012 := by lia
theorem ar_big {c0 c1 c2 c3 a2 a3 m M kk rr d : Int} (h : c0 + (4 * M + d) ≤ 30000) (h1 : c1 ≤ c0 + 5) (h2 : c2 ≤ c1 + 7) (h3 : c3 ≤ c2 + 4 * (a3 - a2) + 8) (h4 : a3 ≤ a2 + m) (hs : kk + rr + 4 * m ≤ M + 5) (hm : 4 ≤ m) : c3 + (4 * kk + (4 * rr + d)) ≤ 30000 := by lia
theorem ar_hi {a0 a1 a2 a3 a4 m M k r kk rr A : Int} (h1 : a1 = a0 + 1) (h2 : a2 ≤ a1 + 2) (h3 : a3 ≤ a2 + m) (h4 : 4 * a4 ≤ 4 * a3 + (kk + 8 * k - 9 + (rr + 8 * r - 9 + A))) (hs : kk + rr + 4 * m ≤ M + 5) (hm : m = k + r + 1) : 4 * a4 ≤ 4 * a0 + (M + 8 * m - 9 + A) := by lia
theorem ar_lo {a0 a1 a2 a3 a4 m k r L : Int} (h1 : a1 = a0 + 1) (h2 : a1 + 1 ≤ a2) (h3 : a2 + (m - 1) ≤ a3) (h4 : a3 + (k - 1 + (r - 1 + L)) ≤ a4) (hm : m = k + r + 1) (m4 : 4 ≤ m) : a0 + (m - 1 + L) ≤ a4 := by lia
structure SortOk (key : Nat → Int) (N : Nat) (st : List Seg) (s s' : PS) : Prop where
  perm : s'.lie.Perm s.lie
  ord : ∀ p q : Int, 0 ≤ p → p < q → q < N → ¬ key (lat s' q) < key (lat s' p)
  hi : 4 * (s'.ans.length : Int) ≤ 4 * s.ans.length + sA st
  lo : (s.ans.length : Int) + sL st ≤ s'.ans.length
/-- a turn that leaves two pieces -/
structure BigOk (key : Nat → Int) (low high : Int) (s0 : PS) (seam : Int) (s : PS) : Prop where
  b1 : low < seam
  b2 : seam ≤ high - 1
  sh : Shuf low high s0 s
  lo : ∀ p, low ≤ p → p < seam → ¬ key (lat s seam) < key (lat s p)
  hi : ∀ p, seam < p → p ≤ high → ¬ key (lat s p) < key (lat s seam)
theorem BigOk.within {low high seam : Int} {s0 s : PS} (b : BigOk key low high s0 seam s) (p q : Int) (h1 : low ≤ p) (h2 : p < q) (h3 : q ≤ high) : (p < seam ∧ q < seam) ∨ (seam < p ∧ seam < q) ∨ ¬ key (lat s q) < key (lat s p) := by
  by_cases q1 : q < seam
  · exact .inl ⟨Int.lt_trans h2 q1, q1⟩
  · by_cases q2 : seam < p
    · exact .inr (.inl ⟨q2, Int.lt_trans q2 h2⟩)
    · refine .inr (.inr ?_)
      by_cases q3 : p = seam
      · subst q3; exact b.hi q h2 h3
      · have l3 := b.lo p h1 (by (clear q1 h3 h2 h1 b; lia))
        by_cases q4 : q = seam
        · subst q4; exact l3
        · have u3 := b.hi q (by (clear l3 q3 q2 h3 h2 h1 b; lia)) h3
          exact Int.not_lt.mpr (Int.le_trans (Int.not_lt.mp l3) (Int.not_lt.mp u3))
theorem Inv.two {low high seam : Int} {st : List Seg} {s0 s : PS} (I : Inv key N ((low, high) :: st) s0) (b : BigOk key low high s0 seam s) : Inv key N ((low, seam - 1) :: (seam + 1, high) :: st) s ∧ Inv key N ((seam + 1, high) :: (low, seam - 1) :: st) s := by
  have b1 := b.b1
  have b2 := b.b2
  have c1 : low ≤ seam - 1 := Int.le_sub_one_of_lt b1
  have c2 : seam + 1 ≤ high := Int.add_le_of_le_sub_right b2
  have c3 : seam - 1 < seam + 1 := by (clear c2 c1 b2 b1 b I; lia)
  have okL : low ≤ low ∧ low ≤ seam - 1 ∧ seam - 1 ≤ high := ⟨Int.le_refl _, c1, by (clear c3 c1 b2 b1 b I; lia)⟩
  have okR : low ≤ seam + 1 ∧ seam + 1 ≤ high ∧ high ≤ high := ⟨by (clear c3 c2 c1 b2 b1 b I; lia), c2, Int.le_refl _⟩
  have inL : ∀ p q, low ≤ p → p < q → q < seam → Seg.In (low, seam - 1) p ∧ Seg.In (low, seam - 1) q := fun p q h1 h2 h3 =>
    ⟨⟨h1, Int.le_sub_one_of_lt (Int.lt_trans h2 h3)⟩, ⟨Int.le_of_lt (Int.lt_of_le_of_lt h1 h2), Int.le_sub_one_of_lt h3⟩⟩
  have inR : ∀ p q, seam < p → p < q → q ≤ high → Seg.In (seam + 1, high) p ∧ Seg.In (seam + 1, high) q := fun p q h1 h2 h3 =>
    ⟨⟨h1, Int.le_of_lt (Int.lt_of_lt_of_le h2 h3)⟩, ⟨Int.lt_trans h1 h2, h3⟩⟩
  refine ⟨I.replace (gs := [(low, seam - 1), (seam + 1, high)]) b.sh (fun g hg => ?_) (List.pairwise_cons.mpr ⟨fun g hg => ?_, List.pairwise_singleton _ _⟩) fun p q h1 h2 h3 => ?_,
    I.replace (gs := [(seam + 1, high), (low, seam - 1)]) b.sh (fun g hg => ?_) (List.pairwise_cons.mpr ⟨fun g hg => ?_, List.pairwise_singleton _ _⟩) fun p q h1 h2 h3 => ?_⟩
  · rcases List.mem_cons.mp hg with rfl | hg
    · exact okL
    · cases List.mem_singleton.mp hg; exact okR
  · cases List.mem_singleton.mp hg; exact .inl c3
  · rcases b.within p q h1 h2 h3 with w | w | w
    · exact .inl ⟨(low, seam - 1), .head _, inL p q h1 h2 w.2⟩
    · exact .inl ⟨(seam + 1, high), .tail _ (.head _), inR p q w.1 h2 h3⟩
    · exact .inr w
  · rcases List.mem_cons.mp hg with rfl | hg
    · exact okR
    · cases List.mem_singleton.mp hg; exact okL
  · cases List.mem_singleton.mp hg; exact .inr c3
  · rcases b.within p q h1 h2 h3 with w | w | w
    · exact .inl ⟨(low, seam - 1), .tail _ (.head _), inL p q h1 h2 w.2⟩
    · exact .inl ⟨(seam + 1, high), .head _, inR p q w.1 h2 h3⟩
    · exact .inr w
theorem sz_of (low high : Int) : Seg.sz (low, high) = high - low + 1 := rfl
theorem sortLoop_ok {F : Nat} (hF : 1000 ≤ F) (hN16 : N ≤ 16) : ∀ (f : Nat) (st : List Seg) (s : PS), Inv key N st s → sF st < f → Room3 st s → ∃ s', sortLoop (kO key) F f st s = some s' ∧ SortOk key N st s s'
  | 0, st, s, I, hf, _ => by have := (sums_nonneg (I.szs hN16)).2.2.2; (clear I hN16 hF; lia)
  | f + 1, [], s, I, hf, hr => by
    refine ⟨s, rfl, List.Perm.refl _, fun p q h0 h1 h2 => ?_, Int.le_of_eq (Int.add_zero _).symm, Int.le_of_eq (Int.add_zero _)⟩
    rcases I.ord p q h0 h1 h2 with ⟨g, hg, _⟩ | c
    · cases hg
    · exact c
  | f + 1, (low, high) :: st, s, I, hf, hr => by
    obtain ⟨o1, o2, o3⟩ : 0 ≤ low ∧ low ≤ high ∧ high < N := I.ok (low, high) (.head _)
    have hs := I.szs hN16
    have hnn := (sums_nonneg (st := st) fun g hg => hs g (.tail _ hg)).2.1
    have hsz := hs (low, high) (.head _)
    have hsq := (sz_sq hsz.1 hsz.2).1
    have r0 : cnt s + (4 * (Seg.sz (low, high) * Seg.sz (low, high)) + sD st) ≤ 30000 := hr
    have hf : 2 * Seg.sz (low, high) - 1 + sF st < (f + 1 : Nat) := hf
    have eA : sA ((low, high) :: st) = Seg.sz (low, high) * Seg.sz (low, high) + 8 * Seg.sz (low, high) - 9 + sA st := rfl
    have eL : sL ((low, high) :: st) = Seg.sz (low, high) - 1 + sL st := rfl
    have hm : Seg.sz (low, high) = high - low + 1 := rfl
    unfold sortLoop
    obtain ⟨s1, e1, t1⟩ := step1_ok (key := key) (low := low) (high := high) I.len o1 o3 (by show cnt s + 10 ≤ 40000; (clear hm eL eA hf hsz hs o3 o2 o1 hr I hN16 hF; lia))
    have c1 := t1.cnt
    rw [e1]
    dsimp only
    have hN1 : s1.lie.length = N := by rw [t1.sh.len]; exact I.len
    obtain ⟨s2, e2, t2⟩ := step2_ok (key := key) (low := low) (high := high) hN1 o1 o3 t1.ord (by show cnt s1 + 20 ≤ 40000; (clear hN1 t1 e1 hm eL eA hf hsz hs o3 o2 o1 hr I hN16 hF; lia))
    have c2 := t2.cnt
    rw [e2]
    dsimp only
    have hN2 : s2.lie.length = N := by rw [t2.sh.len]; exact hN1
    have hc2 := ar_room r0 c1 c2 hnn hsq
    have sh12 := t1.sh.trans t2.sh
    by_cases c : 2 < high - low
    · rw [if_pos c]
      obtain ⟨seam, s3, e3, t3⟩ := part_ok (key := key) (F := F) hN2 o1 o3 (by (clear sh12 hc2 hN2 c2 t2 e2 hN1 c1 t1 e1 hm eL eA hf r0 hsq hsz hnn hs o3 o2 o1 hr I hN16 hF; lia)) (by (clear c sh12 hc2 hN2 c2 t2 e2 hN1 c1 t1 e1 eL eA hf r0 hsq hnn hs o3 o2 o1 hr I hN16; lia)) (t2.o1 (by (clear sh12 hc2 hN2 c2 t2 e2 hN1 c1 t1 e1 hm eL eA hf r0 hsq hsz hnn hs o3 o2 o1 hr I hN16 hF; lia))) (t2.o2 (by (clear sh12 hc2 hN2 c2 t2 e2 hN1 c1 t1 e1 hm eL eA hf r0 hsq hsz hnn hs o3 o2 o1 hr I hN16 hF; lia))) (by show cnt s2 + _ ≤ 40000; (clear c sh12 hN2 c2 t2 e2 hN1 c1 t1 e1 eL eA hf r0 hsq hnn hs o3 o2 o1 hr I hN16 hF; lia))
      rw [e3]
      dsimp only
      have b : BigOk key low high s seam s3 := ⟨t3.b1, t3.b2, sh12.trans t3.sh, fun p h1 h2 => by rw [t3.piv]; exact t3.lo p h1 h2, fun p h1 h2 => by rw [t3.piv]; exact t3.hi p h1 h2⟩
      have b1 := t3.b1
      have b2 := t3.b2
      have z1 : Seg.sz (seam + 1, high) = high - seam := by rw [sz_of]; (clear b2 b1 b t3 e3 c sh12 hc2 hN2 c2 t2 e2 hN1 c1 t1 e1 hm eL eA hf r0 hsq hsz hnn hs o3 o2 o1 hr I hN16 hF; lia)
      have z2 : Seg.sz (low, seam - 1) = seam - low := by rw [sz_of]; (clear z1 b2 b1 b t3 e3 c sh12 hc2 hN2 c2 t2 e2 hN1 c1 t1 e1 hm eL eA hf r0 hsq hsz hnn hs o3 o2 o1 hr I hN16 hF; lia)
      have hmk : Seg.sz (low, high) = (high - seam) + (seam - low) + 1 := by rw [hm]; (clear z2 z1 b2 b1 b t3 e3 c sh12 hc2 hN2 c2 t2 e2 hN1 c1 t1 e1 hm eL eA hf r0 hsq hsz hnn hs o3 o2 o1 hr I hN16 hF; lia)
      have hmk' : Seg.sz (low, high) = (seam - low) + (high - seam) + 1 := by rw [hm]; (clear hmk z2 z1 b2 b1 b t3 e3 c sh12 hc2 hN2 c2 t2 e2 hN1 c1 t1 e1 hm eL eA hf r0 hsq hsz hnn hs o3 o2 o1 hr I hN16 hF; lia)
      have g1 : 1 ≤ high - seam := by (clear hmk' hmk z2 z1 b1 b t3 e3 c sh12 hc2 hN2 c2 t2 e2 hN1 c1 t1 e1 hm eL eA hf r0 hsq hsz hnn hs o3 o2 o1 hr I hN16 hF; lia)
      have g2 : 1 ≤ seam - low := by (clear g1 hmk' hmk z2 z1 b2 b t3 e3 c sh12 hc2 hN2 c2 t2 e2 hN1 c1 t1 e1 hm eL eA hf r0 hsq hsz hnn hs o3 o2 o1 hr I hN16 hF; lia)
      have ht := sq_split g1 g2 hmk
      have ht' := sq_split g2 g1 hmk'
      have x1 := t1.one (by (clear ht' ht hmk' hmk z2 z1 b2 b1 b t3 e3 c sh12 hc2 hN2 c2 t2 e2 hN1 c1 t1 e1 hm eL eA hf r0 hsq hsz hnn hs o3 o2 o1 hr I hN16 hF; lia))
      have x2 := t2.amin (by (clear x1 ht' ht hmk' hmk z2 z1 b2 b1 b t3 e3 c sh12 hc2 hN2 c2 t2 e2 hN1 c1 t1 e1 hm eL eA hf r0 hsq hsz hnn hs o3 o2 o1 hr I hN16 hF; lia))
      have x2' := t2.amax (by (clear x2 x1 ht' ht hmk' hmk z2 z1 b2 b1 b t3 e3 c sh12 hc2 hN2 c2 t2 e2 hN1 c1 t1 e1 hm eL eA hf r0 hsq hsz hnn hs o3 o2 o1 hr I hN16 hF; lia))
      have x3 : (s3.ans.length : Int) ≤ s2.ans.length + Seg.sz (low, high) := by have := t3.amax; rw [hm]; (clear x2' x2 x1 ht' ht g2 g1 hmk' hmk z2 z1 b2 b1 b t3 e3 c sh12 hc2 hN2 c2 t2 e2 hN1 c1 t1 e1 hm eL eA hf r0 hsq hsz hnn hs o3 o2 o1 hr I hN16 hF; lia)
      have x3' : (s2.ans.length : Int) + (Seg.sz (low, high) - 1) ≤ s3.ans.length := by have := t3.amin; rw [hm]; (clear x3 x2' x2 x1 ht' ht g2 g1 hmk' hmk z2 z1 b2 b1 b t3 e3 c sh12 hc2 hN2 c2 t2 e2 hN1 c1 t1 e1 hm eL eA hf r0 hsq hsz hnn hs o3 o2 o1 hr I hN16 hF; lia)
      have m4 : 4 ≤ Seg.sz (low, high) := by rw [hm]; (clear x3' x3 x2' x2 x1 ht' ht g2 g1 hmk' hmk z2 z1 b2 b1 b t3 e3 sh12 hc2 hN2 c2 t2 e2 hN1 c1 t1 e1 hm eL eA hf r0 hsq hsz hnn hs o3 o2 o1 hr I hN16 hF; lia)
      by_cases c2 : high - seam ≤ seam - low
      · rw [if_pos c2]
        obtain ⟨s', i1, i⟩ := sortLoop_ok hF hN16 f _ s3 (I.two b).2 (by show 2 * Seg.sz (seam + 1, high) - 1 + (2 * Seg.sz (low, seam - 1) - 1 + sF st) < _; rw [z1, z2]; (clear c2 m4 x3' x3 x2' x2 x1 ht' ht g2 g1 hmk z2 z1 b2 b1 b t3 e3 c sh12 hc2 hN2 t2 e2 hN1 c1 t1 e1 hm eL eA r0 hsq hsz hnn hs o3 o2 o1 hr I hN16 hF; lia))
          (by show cnt s3 + (4 * (Seg.sz (seam + 1, high) * Seg.sz (seam + 1, high)) + (4 * (Seg.sz (low, seam - 1) * Seg.sz (low, seam - 1)) + sD st)) ≤ _; rw [z1, z2]; exact ar_big r0 c1 t2.cnt t3.cnt x3 ht m4)
        have i3 := i.hi
        have i4 := i.lo
        unfold sA sA at i3
        unfold sL sL at i4
        rw [z1, z2] at i3 i4
        exact ⟨s', i1, i.perm.trans b.sh.perm, i.ord, by rw [eA]; exact ar_hi x1 x2' x3 i3 ht hmk, by rw [eL]; exact ar_lo x1 x2 x3' i4 hmk m4⟩
      · rw [if_neg c2]
        obtain ⟨s', i1, i⟩ := sortLoop_ok hF hN16 f _ s3 (I.two b).1 (by show 2 * Seg.sz (low, seam - 1) - 1 + (2 * Seg.sz (seam + 1, high) - 1 + sF st) < _; rw [z1, z2]; (clear c2 m4 x3' x3 x2' x2 x1 ht' ht g2 g1 hmk z2 z1 b2 b1 b t3 e3 c sh12 hc2 hN2 t2 e2 hN1 c1 t1 e1 hm eL eA r0 hsq hsz hnn hs o3 o2 o1 hr I hN16 hF; lia))
          (by show cnt s3 + (4 * (Seg.sz (low, seam - 1) * Seg.sz (low, seam - 1)) + (4 * (Seg.sz (seam + 1, high) * Seg.sz (seam + 1, high)) + sD st)) ≤ _; rw [z1, z2]; exact ar_big r0 c1 t2.cnt t3.cnt x3 ht' m4)
        have i3 := i.hi
        have i4 := i.lo
        unfold sA sA at i3
        unfold sL sL at i4
        rw [z1, z2] at i3 i4
        exact ⟨s', i1, i.perm.trans b.sh.perm, i.ord, by rw [eA]; exact ar_hi x1 x2' x3 i3 ht' hmk', by rw [eL]; exact ar_lo x1 x2 x3' i4 hmk' m4⟩
    · rw [if_neg c]
      have I' : Inv key N st s2 := I.replace (gs := []) sh12 (fun g hg => nomatch hg) .nil fun p q h1 h2 h3 => by
        right
        by_cases q2 : 1 < high - low
        · have hmid : (low + high) / 2 = low + 1 := by (clear h3 h2 h1 sh12 hc2 hN2 c2 t2 e2 hN1 c1 t1 e1 hm eL eA hf r0 hsq hsz hnn hs o3 o2 o1 hr I hN16 hF; lia)
          have y1 := t2.o1 q2
          have y2 := t2.o2 q2
          rw [hmid] at y1 y2
          by_cases p1 : p = low
          · by_cases q1 : q = high
            · rw [p1, q1]; exact Int.not_lt.mpr (Int.le_trans (Int.not_lt.mp y1) (Int.not_lt.mp y2))
            · rw [p1, show q = low + 1 by (clear y2 y1 hmid q2 h1 sh12 hc2 hN2 c2 t2 e2 hN1 c1 t1 e1 hm eL eA hf r0 hsq hsz hnn hs o3 o2 o1 hr I hN16 hF; lia)]; exact y1
          · rw [show p = low + 1 by (clear y2 y1 hmid q2 sh12 hc2 hN2 c2 t2 e2 hN1 c1 t1 e1 hm eL eA hf r0 hsq hsz hnn hs o3 o2 o1 hr I hN16 hF; lia), show q = high by (clear y2 y1 hmid q2 sh12 hc2 hN2 c2 t2 e2 hN1 c1 t1 e1 hm eL eA hf r0 hsq hsz hnn hs o3 o2 o1 hr I hN16 hF; lia)]; exact y2
        · rw [t2.same q2, show p = low by (clear c sh12 hc2 hN2 c2 t2 e2 hN1 c1 t1 e1 hm eL eA hf r0 hsq hsz hnn hs o3 o2 o1 hr I hN16 hF; lia), show q = high by (clear c sh12 hc2 hN2 c2 t2 e2 hN1 c1 t1 e1 hm eL eA hf r0 hsq hsz hnn hs o3 o2 o1 hr I hN16 hF; lia)]
          exact t1.ord (by (clear q2 c sh12 hc2 hN2 c2 t2 e2 hN1 c1 t1 e1 hm eL eA hf r0 hsq hsz hnn hs o3 o2 o1 hr I hN16 hF; lia))
      have hc : 4 * (s2.ans.length : Int) ≤ 4 * s.ans.length + (Seg.sz (low, high) * Seg.sz (low, high) + 8 * Seg.sz (low, high) - 9) ∧ (s.ans.length : Int) + (Seg.sz (low, high) - 1) ≤ s2.ans.length ∧ cnt s2 ≤ cnt s + 4 * (Seg.sz (low, high) * Seg.sz (low, high)) := by
        by_cases q2 : 1 < high - low
        · have h3 : Seg.sz (low, high) = 3 := by rw [hm]; (clear I' sh12 hc2 hN2 c2 t2 e2 hN1 c1 t1 e1 hm eL eA hf r0 hsq hsz hnn hs o3 o2 o1 hr I hN16 hF; lia)
          have x1 := t1.one (by (clear h3 I' c sh12 hc2 hN2 c2 t2 e2 hN1 c1 t1 e1 hm eL eA hf r0 hsq hsz hnn hs o3 o2 o1 hr I hN16 hF; lia))
          have x2 := t2.amin q2
          have x3 := t2.amax q2
          rw [h3]
          exact ⟨by (clear x2 h3 q2 I' c sh12 hc2 hN2 c2 t2 e2 hN1 c1 t1 e1 hm eL eA hf r0 hsq hsz hnn hs o3 o2 o1 hr I hN16 hF; lia), by (clear x3 h3 q2 I' c sh12 hc2 hN2 c2 t2 e2 hN1 c1 t1 e1 hm eL eA hf r0 hsq hsz hnn hs o3 o2 o1 hr I hN16 hF; lia), by (clear x3 x2 x1 h3 q2 I' c sh12 hc2 hN2 t2 e2 hN1 t1 e1 hm eL eA hf r0 hsq hsz hnn hs o3 o2 o1 hr I hN16 hF; lia)⟩
        · have e := t2.same q2
          rw [e]
          by_cases q3 : low < high
          · have h3 : Seg.sz (low, high) = 2 := by rw [hm]; (clear e I' c sh12 hc2 hN2 c2 t2 e2 hN1 c1 t1 e1 hm eL eA hf r0 hsq hsz hnn hs o3 o2 o1 hr I hN16 hF; lia)
            have x1 := t1.one q3
            rw [h3]
            exact ⟨by (clear h3 q3 e q2 I' c sh12 hc2 hN2 c2 t2 e2 hN1 c1 t1 e1 hm eL eA hf r0 hsq hsz hnn hs o3 o2 o1 hr I hN16 hF; lia), by (clear h3 q3 e q2 I' c sh12 hc2 hN2 c2 t2 e2 hN1 c1 t1 e1 hm eL eA hf r0 hsq hsz hnn hs o3 o2 o1 hr I hN16 hF; lia), by (clear x1 h3 q3 e q2 I' c sh12 hc2 hN2 c2 t2 e2 hN1 t1 e1 hm eL eA hf r0 hsq hsz hnn hs o3 o2 o1 hr I hN16 hF; lia)⟩
          · have h3 : Seg.sz (low, high) = 1 := by rw [hm]; (clear e q2 I' c sh12 hc2 hN2 c2 t2 e2 hN1 c1 t1 e1 eL eA hf r0 hsq hnn hs o3 o2 o1 hr I hN16 hF; lia)
            rw [t1.same q3, h3]
            exact ⟨by (clear h3 q3 e q2 I' c sh12 hc2 hN2 c2 t2 e2 hN1 c1 t1 e1 hm eL eA hf r0 hsq hsz hnn hs o3 o2 o1 hr I hN16 hF; lia), by (clear h3 q3 e q2 I' c sh12 hc2 hN2 c2 t2 e2 hN1 c1 t1 e1 hm eL eA hf r0 hsq hsz hnn hs o3 o2 o1 hr I hN16 hF; lia), by (clear h3 q3 e q2 I' c sh12 hc2 hN2 c2 t2 e2 hN1 c1 t1 e1 hm eL eA hf r0 hsq hsz hnn hs o3 o2 o1 hr I hN16 hF; lia)⟩
      obtain ⟨s', i1, i⟩ := sortLoop_ok hF hN16 f st s2 I' (by (clear hc I' c sh12 hc2 hN2 c2 t2 e2 hN1 c1 t1 e1 hm eL eA r0 hsq hnn hs o3 o2 o1 hr I hN16 hF; lia)) (by show cnt s2 + sD st ≤ 30000; (clear I' c sh12 hc2 hN2 c2 t2 e2 hN1 c1 t1 e1 hm eL eA hf hsq hsz hnn hs o3 o2 o1 hr I hN16 hF; lia))
      have i3 := i.hi
      have i4 := i.lo
      exact ⟨s', i1, i.perm.trans sh12.perm, i.ord, by rw [eA]; (clear i4 i i1 I' c sh12 hc2 hN2 c2 t2 e2 hN1 c1 t1 e1 hm eL eA hf r0 hsq hsz hnn hs o3 o2 o1 hr I hN16 hF; lia), by rw [eL]; (clear i3 i i1 I' c sh12 hc2 hN2 c2 t2 e2 hN1 c1 t1 e1 hm eL eA hf r0 hsq hsz hnn hs o3 o2 o1 hr I hN16 hF; lia)⟩
end
end

/-! ### P1 -/
noncomputable section
open PySem PySem.W PyProof.Rows
set_option Elab.async false
set_option maxRecDepth 100000
/-- what a run of the sort gives -/
structure SortFacts (key : Nat → Int) (N F f : Nat) (ps' : PS) : Prop where
  run : sortLoop (keyOra key) F f [(0, (N : Int) - 1)] ⟨List.range N, [], []⟩ = some ps'
  fuel : f ≤ 90000
  perm : ps'.lie.Perm (List.range N)
  sorted : (ps'.lie.map key).Pairwise (· ≤ ·)
  lo : N ≤ ps'.ans.length + 1
  hi : 4 * ps'.ans.length ≤ N * (N + 8)
theorem sort_facts (key : Nat → Int) (N : Nat) (h1 : 1 ≤ N) (h2 : N ≤ 16) : ∃ F f ps', SortFacts key N F f ps' := by
  have hsz : Seg.sz (0, (N : Int) - 1) = N := by show (N : Int) - 1 - 0 + 1 = N; lia
  have hsq := sz_sq (m := (N : Int)) (by lia) (by lia)
  have I : Inv key N [(0, (N : Int) - 1)] ⟨List.range N, [], []⟩ := by
    refine ⟨List.length_range, fun g hg => ?_, List.pairwise_singleton _ _, fun p q h0 hpq hq => .inl ⟨_, .head _, ⟨h0, by show p ≤ (N : Int) - 1; lia⟩, ⟨by show 0 ≤ q; lia, by show q ≤ (N : Int) - 1; lia⟩⟩⟩
    cases List.mem_singleton.mp hg
    exact ⟨Int.le_refl _, by show 0 ≤ (N : Int) - 1; lia, by show (N : Int) - 1 < N; lia⟩
  obtain ⟨s', e1, o⟩ := sortLoop_ok (key := key) (N := N) (F := 1000) (by decide) h2 100 [(0, (N : Int) - 1)] ⟨List.range N, [], []⟩ I (by show 2 * Seg.sz (0, (N : Int) - 1) - 1 + 0 < 100; rw [hsz]; lia)
    (by show (0 : Int) + 0 + (4 * (Seg.sz (0, (N : Int) - 1) * Seg.sz (0, (N : Int) - 1)) + 0) ≤ 30000; rw [hsz]; lia)
  have e2 := o.perm
  have e3 := o.ord
  have e4 : 4 * (s'.ans.length : Int) ≤ 4 * 0 + (Seg.sz (0, (N : Int) - 1) * Seg.sz (0, (N : Int) - 1) + 8 * Seg.sz (0, (N : Int) - 1) - 9 + 0) := o.hi
  have e5 : (0 : Int) + (Seg.sz (0, (N : Int) - 1) - 1 + 0) ≤ s'.ans.length := o.lo
  rw [hsz] at e4 e5
  have hlen : s'.lie.length = N := by rw [e2.length_eq]; exact List.length_range
  refine ⟨1000, 100, s', e1, by decide, e2, ?_, by lia, ?_⟩
  · rw [List.pairwise_iff_getElem]
    intro i j hi hj hij
    simp only [List.length_map] at hi hj
    have h := e3 i j (by lia) (by lia) (by lia)
    unfold lat at h
    simp only [List.getElem_map]
    simp [hi, hj] at h
    lia
  · have e6 : ((N * (N + 8) : Nat) : Int) = (N : Int) * N + 8 * N := by
      rw [Int.natCast_mul, Int.natCast_add, Int.mul_add]
      have : ((8 : Nat) : Int) = 8 := rfl
      rw [this]; lia
    have : ((4 * s'.ans.length : Nat) : Int) ≤ ((N * (N + 8) : Nat) : Int) := by rw [e6]; lia
    exact Int.ofNat_le.mp this
theorem replay {o : Ora} {F f : Nat} {st : List (Int × Int)} {l : List Nat} {s' : PS} (e : sortLoop o F f st ⟨l, [], []⟩ = some s') : sortLoop (repOra s'.ans) F f st ⟨l, [], []⟩ = some s' := (sortLoop_rep _ e).2 _ List.prefix_rfl
end

/-! ### L1 -/
noncomputable section
open PySem PySem.W PyProof.Rows
set_option Elab.async false
set_option maxRecDepth 100000

noncomputable def lawC (L : Addr) (bx sm kd lf ls : Option Value) : List Ch := [(L + 5, CellP ls), (L + 4, CellP lf), (L + 3, CellP kd), (L + 2, CellP sm), (L + 1, CellP bx)]
inductive ZBag : List Z → List Ch → Prop
  | nil : ZBag [] []
  | cons {p : Addr} {a b : Int} {t u : Tok} {zs bag} : ZBag zs bag → ZBag (⟨.ref p, a, b⟩ :: zs) ((p, TupP [.int a t, .int b u]) :: bag)
theorem ZBag.snoc {zs bag} (x : ZBag zs bag) (p : Addr) (a b : Int) (t u : Tok) : ZBag (zs ++ [⟨.ref p, a, b⟩]) (bag ++ [(p, TupP [.int a t, .int b u])]) := by
  induction x with
  | nil => exact .cons .nil
  | cons _ ih => exact .cons ih
theorem ZBag.view {zs bag} {h : Heap} (x : ZBag zs bag) (k : ∀ c ∈ bag, Has h c) : ∀ z ∈ zs, PairIn h z := by
  induction x with
  | nil => exact fun _ q => nomatch q
  | cons _ ih =>
    intro z hz
    rcases List.mem_cons.mp hz with rfl | hz
    · exact ⟨_, _, _, rfl, k _ (.head _)⟩
    · exact ih (fun c hc => k c (.tail _ hc)) z hz
noncomputable def zComp : Expr := stV (lawS 2)
noncomputable def ZsOk (zs : List Z) : Prop := ∀ i (h : i < zs.length), -7 ≤ zs[i].a ∧ zs[i].a ≤ 7 ∧ zs[i].b = (i : Nat)
section
variable {prog : Program} {w : World} {A : Around} {G B h h' : Heap} {K : Frag} {lo : List (Str × Value)} {nw rest : List Ch} {L : Addr}
set_option maxHeartbeats 4000000 in
theorem z_comp (kf : KF K) (gl : Gl K G) {bx inner f : Addr} {cdv : Value} {c : Int} {t tm : Tok} {n : Nat} {vs : List Value} {ns : List Int} (room : Room A 5) (S : St G B L h lo ((bx, LstP [.ref inner, .int c t]) :: (inner, LstP vs) :: rest)) (hi : IntsAre vs ns) (hns : ns.length ≤ 100)
    (hc : 0 ≤ c ∧ c ≤ 1000) (hn : n ≤ 100) (hm : look "many" lo = some (.int n tm)) (hB : (L + 1, CellP (some (.ref bx))) ∈ rest) {Q : Value → Heap → Prop}
    (q : ∀ D zs bag t' vs' ns' h', ZBag zs bag → zs.length = n → ZsOk zs → IntsAre vs' ns' → ns'.length ≤ 100 → St G B L h' lo ((bx, LstP [.ref inner, .int (c + (n : Nat)) t']) :: (inner, LstP vs') :: (D, LstP (zs.map Z.v)) :: (bag ++ rest)) → Q (.ref D) h') :
    Run prog w A (eval zComp (envOfC "law" A_law.scope L f cdv)) h Q := by
  refine r_ListComp (G := G) (cl := [("box", L + 1)]) ?_ rfl (by decide) rfl (by decide)
  refine r_Call ?_
  refine r_builtin gl S.gh kf.g_range boot_range ?_
  refine r_typ ?_
  refine r_args (r_local S hm ?_)
  refine r_args0 ?_
  refine c_range S fun r h S => ?_
  refine i_range (by lia) S (S.has Pick.head) fun I h S => ?_
  have S : St G B L h lo ([(I, RiP 0 n), (bx, LstP [.ref inner, .int c t]), (inner, LstP vs)] ++ ((r, RngP n) :: rest)) := S.perm (by walk_at "pm")
  refine comp_go [(I, RiP 0 n), (bx, LstP [.ref inner, .int c t]), (inner, LstP vs)] (fun v sub' => ∀ C : Prop, (∀ D zs bag t' vs' ns', v = .ref D → sub' = (bx, LstP [.ref inner, .int (c + (n : Nat)) t']) :: (inner, LstP vs') :: (D, LstP (zs.map Z.v)) :: bag → ZBag zs bag → zs.length = n → ZsOk zs → IntsAre vs' ns' → ns'.length ≤ 100 → C) → C)
    S.gh (own_gl S) ?_ ?_
  · refine fun v h' sub' hr P => hr _ fun D zs bag t' vs' ns' ev es zb hzl zok hi' hn' => ?_
    clear hr
    subst ev es
    have S := St.callee2 S P
    exact q D zs bag t' vs' ns' h' zb hzl zok hi' hn' (S.perm (nw' := (r, RngP n) :: ((bx, LstP [.ref inner, .int (c + (n : Nat)) t']) :: (inner, LstP vs') :: (D, LstP (zs.map Z.v)) :: (bag ++ rest))) (by walk_at "pm")).drop1
  · intro R' hR B' C D h₁ bo S'
    have hB' : B'.IsCell (L + 1) (some (.ref bx)) := by
      obtain ⟨oc, e1, e2⟩ := S.get (List.mem_append_right _ (List.mem_cons_of_mem _ hB))
      refine ⟨oc, bo.keep _ _ e1 fun hm => ?_, e2⟩
      obtain ⟨d, hd, ed⟩ := List.mem_map.mp hm
      exact Own.apart S.own hd (List.mem_cons_of_mem _ hB) ed
    have rm : A.handled = none := room.hd
    refine comp_turns (fun m h => ∀ C' : Prop, (∀ i zs bag t' vs' ns' lo, m = n - i → i ≤ n → St G B' C h lo ((I, RiP (i : Nat) ((n - i : Nat) : Int)) :: (bx, LstP [.ref inner, .int (c + (i : Nat)) t']) :: (inner, LstP vs') :: (D, LstP (zs.map Z.v)) :: bag) → ZBag zs bag → zs.length = i → ZsOk zs → IntsAre vs' ns' → ns'.length ≤ 100 → C') → C') n
      (fun _ k => k 0 [] [] t vs ns [] rfl (Nat.zero_le _) ?_ .nil rfl (fun i h => absurd h (Nat.not_lt_zero i)) hi hns) ?_ ?_
    · have : c + ((0 : Nat) : Int) = c := by lia
      rw [this]
      exact S'.perm (by show List.Perm _ ((I, RiP 0 n) :: (bx, LstP [.ref inner, .int c t]) :: (inner, LstP vs) :: (D, LstP []) :: []); walk_at "pm")
    · exact fun h hI Q hq => hI _ fun i zs bag t' vs' ns' lo _ _ S _ _ _ _ _ => ri_again S.own.has hq
    · refine fun N Zf nx zz m h hI => hI _ fun i zs bag t' vs' ns' lo hm' hi'' S zb hzl zok hi' hn' => ?_
      clear hI
      by_cases hlt : i < n
      · refine ri_next S Pick.head (by lia) fun tk h S => ?_
        dsimp only
        refine r_pure ?_
        refine r_toName (r_store S fun h S => ?_)
        refine r_Tuple ?_
        refine r_args ?_
        refine r_BinOp ?_
        refine r_Call ?_
        refine r_global gl S.gh kf.g_take ?_
        refine r_fn ?_
        refine r_args (r_cell (c := L + 1) rfl (isCell_sub S.keep hB') ?_)
        refine r_args (r_int fun t15 => ?_)
        refine r_args0 ⟨(kf.f_take _ (gl.kin.keeps S.gh)).fun, ?_⟩
        refine call_take kf gl (room.less (by lia)) (S.perm (nw' := (bx, LstP [.ref inner, .int (c + (i : Nat)) t']) :: (inner, LstP vs') :: (I, RiP ((i : Int) + 1) (((n - i : Nat) : Int) - 1)) :: (D, LstP (zs.map Z.v)) :: bag) (by walk_at "pm")) hi' hn' (by lia) (by decide) fun r t2 vs2 ns2 u2 h h0 h1 hi2 hn2 S => ?_
        refine r_int fun t7 => r_sub fun u => ?_
        refine r_args (r_local S (by rw [look_put, if_pos rfl]) ?_)
        refine r_args0 ?_
        refine r_newTuple S fun p h S => ?_
        refine l_append S (Pick.tail (Pick.tail (Pick.tail (Pick.tail Pick.head)))) (by rw [List.length_map]; lia) fun h S => ?_
        have S : St G B' C h (put "tag" (.int (i : Nat) tk) lo) ((I, RiP ((i + 1 : Nat) : Int) ((n - (i + 1) : Nat) : Int)) :: (bx, LstP [.ref inner, .int (c + ((i + 1 : Nat) : Int)) t2]) :: (inner, LstP vs2) :: (D, LstP ((zs ++ [(⟨.ref p, r - 7, i⟩ : Z)]).map Z.v)) :: (bag ++ [(p, TupP [.int (r - 7) u, .int i tk])])) := by
          have e2 : ((n - i : Nat) : Int) - 1 = ((n - (i + 1) : Nat) : Int) := by lia
          have e3 : c + (i : Int) + 1 = c + ((i + 1 : Nat) : Int) := by lia
          have e4 : (zs ++ [(⟨.ref p, r - 7, i⟩ : Z)]).map Z.v = zs.map Z.v ++ [.ref p] := by rw [List.map_append]; rfl
          have e5 : (i : Int) + 1 = ((i + 1 : Nat) : Int) := rfl
          rw [e2, e3, e5] at S
          rw [e4]
          exact S.perm (by walk_at "pm")
        refine nx _ (n - (i + 1)) _ (by lia) fun _ k => k (i + 1) (zs ++ [⟨.ref p, r - 7, i⟩]) (bag ++ [(p, TupP [.int (r - 7) u, .int i tk])]) t2 vs2 ns2 _ rfl hlt S (zb.snoc p _ _ _ _) (by rw [List.length_append, hzl]; rfl) ?_ hi2 hn2
        · intro j hj
          by_cases q : j < zs.length
          · rw [List.getElem_append_left q]; exact zok j q
          · have : j = zs.length := by rw [List.length_append, List.length_singleton] at hj; lia
            subst this
            rw [List.getElem_concat_length]
            · exact ⟨by show -7 ≤ r - 7; lia, by show r - 7 ≤ 7; lia, by show (i : Int) = _; lia⟩
            · rfl
      · have : i = n := by lia
        subst this
        refine ri_end rm S Pick.head (by lia) fun h S => ?_
        exact zz _ _ lo (hR _ _ fun _ k => k D zs bag t' vs' ns' rfl rfl zb hzl zok hi' hn') S
end
end

/-! ### L2 -/
noncomputable section
open PySem PySem.W PyProof.Rows
set_option Elab.async false
set_option maxRecDepth 100000
noncomputable def qofL (line _col : Int) : Str := if line = 132 then "law.<locals>.less" else "law.<locals>.<lambda>"
noncomputable abbrev lawEnv (L f : Addr) : Env := envOfC "law" A_law.scope L f (.ref 132)
noncomputable def base (L : Addr) (zs : List Z) (k : Int) (kt : Tok) (bx inner sm lsf cka : Addr) (c : Int) (t : Tok) (vs : List Value) (bag : List Ch) (lf : Option Value) (te te2 : List TE) : List Ch :=
  (bx, LstP [.ref inner, .int c t]) :: (inner, LstP vs) :: (lawC L (some (.ref bx)) (some (.ref sm)) (some (.int k kt)) lf (some (.ref lsf)) ++
    ((sm, LstP (zs.map Z.v)) :: (lsf, FnP A_less "law.<locals>.less" [("kind", L + 3)] cka) :: (bag ++ (tabCh 118 te ++ tabCh 130 te2))))
structure LF (zs : List Z) (k : Int) (cka : Addr) (c : Int) (vs : List Value) (bag : List Ch) (te te2 : List TE) : Prop where
  zb : ZBag zs bag
  n1 : 4 ≤ zs.length
  n2 : zs.length ≤ 16
  zok : ZsOk zs
  k0 : 0 ≤ k ∧ k < 4
  hv : ∃ ns, IntsAre vs ns ∧ ns.length ≤ 100
  c0 : 0 ≤ c ∧ c ≤ 90000
  t118 : TeOk qofS te
  t130 : TeOk qofL te2
  less : InTab te2 cka "law.<locals>.less"
section
variable {prog : Program} {w : World} {A : Around} {G B h h' : Heap} {K : Frag} {lo : List (Str × Value)} {nw rest : List Ch} {L : Addr}
set_option maxHeartbeats 8000000 in
theorem law_start (kf : KF K) (gl : Gl K G) (gm : Gm G) (hc : CodeHd G 132 130) {l f : Addr} {vs : List Value} {ns : List Int} (room : Room A 30) (S : St G B L h [("script", .ref l)] (lawC L none none none none none ++ (tabCh 118 [] ++ tabCh 130 [])))
    (hl : G.IsList l vs.toArray) (hi : IntsAre vs ns) (hn : ns.length ≤ 63) {Q : Flow → Heap → Prop}
    (next : ∀ zs k kt bx inner sm lsf cka c t vs' bag te2 (half first begin_ : Int) tn tf tb th h, LF zs k cka c vs' bag [] te2 → c ≤ 100 → 1 ≤ half → half < zs.length →
      St G B L h [("many", .int zs.length tn), ("first", .int first tf), ("begin", .int begin_ tb), ("half", .int half th)] (base L zs k kt bx inner sm lsf cka c t vs' bag none [] te2) → Run prog w A (execs (A_law.body.drop 5) (lawEnv L f)) h Q) :
    Run prog w A (execs A_law.body (lawEnv L f)) h Q := by
  have hvl := hi.length
  have hl' : ∀ h, Sub G h → h.IsList l vs.toArray := fun h s => let ⟨o, e, r⟩ := hl; ⟨o, s _ _ e, r⟩
  -- box
  refine r_cons (r_AssignName ?_)
  refine r_List ?_
  refine r_args ?_
  refine r_Call ?_
  refine r_builtin gl S.gh kf.g_list boot_list ?_
  refine r_typ ?_
  refine r_args ?_
  refine r_sliceTo (y := 40) S (hl' _ S.gh) (by lia) (pe_local S rfl rfl) pe_int (by decide) fun D h S => ?_
  refine r_args0 ?_
  refine c_list S (LstP.isList (S.has Pick.head)) (by rw [List.length_take]; lia) fun inner h S => ?_
  refine r_args (r_int fun t0 => ?_)
  refine r_args0 ?_
  refine r_newList S fun bx h S => ?_
  refine r_storeCell (c := L + 1) S (Pick.tail (Pick.tail (Pick.tail (Pick.tail (Pick.tail (Pick.tail (Pick.tail Pick.head))))))) rfl fun h S => ?_
  have S : St G B L h [("script", .ref l)] ((bx, LstP [.ref inner, .int 0 t0]) :: (inner, LstP (vs.take (Int.toNat 40))) :: (lawC L (some (.ref bx)) none none none none ++ (tabCh 118 [] ++ tabCh 130 []))) :=
    (S.perm (nw' := (D, LstP (vs.take (Int.toNat 40))) :: ((bx, LstP [.ref inner, .int 0 t0]) :: (inner, LstP (vs.take (Int.toNat 40))) :: (lawC L (some (.ref bx)) none none none none ++ (tabCh 118 [] ++ tabCh 130 [])))) (by unfold lawC; walk_at "pm")).drop1
  have hi0 : IntsAre (vs.take (Int.toNat 40)) (ns.take (Int.toNat 40)) := hi.take _
  have hn0 : (ns.take (Int.toNat 40)).length ≤ 100 := by rw [List.length_take]; lia
  walk_at "nx"
  -- kind, many
  refine r_AssignTup ?_ rfl rfl
  refine r_Tuple ?_
  refine r_args ?_
  refine r_Call ?_
  refine r_global gl S.gh kf.g_take ?_
  refine r_fn ?_
  refine r_args (r_cell (c := L + 1) rfl (S.get (c := (L + 1, CellP (some (.ref bx)))) (.tail _ (.tail _ (.tail _ (.tail _ (.tail _ (.tail _ (.head _)))))))) ?_)
  refine r_args (r_int fun t4 => ?_)
  refine r_args0 ⟨(kf.f_take _ (gl.kin.keeps S.gh)).fun, ?_⟩
  refine call_take kf gl (room.less (by lia)) S hi0 hn0 (by decide) (by decide) fun k t1 vs1 ns1 kt h k0 k1 hi1 hn1 S => ?_
  refine r_args ?_
  refine r_BinOp (r_int fun t4 => ?_)
  refine r_Call ?_
  refine r_global gl S.gh kf.g_take ?_
  refine r_fn ?_
  refine r_args (r_cell (c := L + 1) rfl (S.get (c := (L + 1, CellP (some (.ref bx)))) (.tail _ (.tail _ (.tail _ (.tail _ (.tail _ (.tail _ (.head _)))))))) ?_)
  refine r_args (r_int fun t4 => ?_)
  refine r_args0 ⟨(kf.f_take _ (gl.kin.keeps S.gh)).fun, ?_⟩
  refine call_take kf gl (room.less (by lia)) S hi1 hn1 (by decide) (by decide) fun m t2 vs2 ns2 mt h m0 m1 hi2 hn2 S => ?_
  refine r_add fun tn => ?_
  refine r_args0 ?_
  refine r_newTuple S fun p h S => ?_
  refine r_assignTuple room.hd S S.own.has fun h S _ => ?_
  have S := S.drop1
  refine r_ord (r_toName (r_storeCell (c := L + 3) S (Pick.tail (Pick.tail (Pick.tail (Pick.tail Pick.head)))) rfl fun h S => ?_))
  refine r_ord (r_toName (r_store S fun h S => ?_))
  refine r_ordNil ?_
  have S : St G B L h [("many", .int (4 + m) tn), ("script", .ref l)] ((bx, LstP [.ref inner, .int (0 + 1 + 1) t2]) :: (inner, LstP vs2) :: (lawC L (some (.ref bx)) none (some (.int k kt)) none none ++ (tabCh 118 [] ++ tabCh 130 []))) := (S.perm (by unfold lawC; walk_at "pm")).to ⟨rfl, rfl, trivial⟩
  obtain ⟨n, hnm⟩ : ∃ n : Nat, 4 + m = (n : Int) := ⟨(4 + m).toNat, by lia⟩
  rw [hnm] at S
  walk_at "nx"
  -- some
  refine r_AssignName ?_
  refine z_comp kf gl (room.less (by lia)) S hi2 hn2 (by lia) (by lia) rfl (.tail _ (.tail _ (.tail _ (.tail _ (.head _))))) fun sm zs bag t3 vs3 ns3 h zb hzl zok hi3 hn3 S => ?_
  refine r_storeCell (c := L + 2) (v₀ := none) S (rest := (bx, LstP [.ref inner, .int (0 + 1 + 1 + (n : Nat)) t3]) :: (inner, LstP vs3) :: (sm, LstP (zs.map Z.v)) :: (bag ++ ((L + 5, CellP none) :: (L + 4, CellP none) :: (L + 3, CellP (some (.int k kt))) :: (L + 1, CellP (some (.ref bx))) :: (tabCh 118 [] ++ tabCh 130 [])))) (by unfold lawC Pick; walk_at "pm") rfl fun h S => ?_
  have S : St G B L h [("many", .int n tn), ("script", .ref l)] ((bx, LstP [.ref inner, .int (0 + 1 + 1 + (n : Nat)) t3]) :: (inner, LstP vs3) :: (lawC L (some (.ref bx)) (some (.ref sm)) (some (.int k kt)) none none ++ ((sm, LstP (zs.map Z.v)) :: (bag ++ (tabCh 118 [] ++ tabCh 130 []))))) := S.perm (by unfold lawC; walk_at "pm")
  walk_at "nx"
  -- first, begin, half
  refine r_AssignTupS (names := ["first", "begin", "half"]) ?_ rfl rfl
  refine r_Tuple ?_
  refine r_args ?_
  refine r_BinOp ?_
  refine r_Call ?_
  refine r_global gl S.gh kf.g_take ?_
  refine r_fn ?_
  refine r_args (r_cell (c := L + 1) rfl (S.get (c := (L + 1, CellP (some (.ref bx)))) (.tail _ (.tail _ (.tail _ (.tail _ (.tail _ (.tail _ (.head _)))))))) ?_)
  refine r_args (r_int fun t4 => ?_)
  refine r_args0 ⟨(kf.f_take _ (gl.kin.keeps S.gh)).fun, ?_⟩
  refine call_take kf gl (room.less (by lia)) S hi3 hn3 (by lia) (by decide) fun fi t4 vs4 ns4 u4 h f0 f1 hi4 hn4 S => ?_
  refine r_int fun t4 => r_sub fun tf => ?_
  refine r_args ?_
  refine r_BinOp ?_
  refine r_Call ?_
  refine r_global gl S.gh kf.g_take ?_
  refine r_fn ?_
  refine r_args (r_cell (c := L + 1) rfl (S.get (c := (L + 1, CellP (some (.ref bx)))) (.tail _ (.tail _ (.tail _ (.tail _ (.tail _ (.tail _ (.head _)))))))) ?_)
  refine r_args (r_int fun t4 => ?_)
  refine r_args0 ⟨(kf.f_take _ (gl.kin.keeps S.gh)).fun, ?_⟩
  refine call_take kf gl (room.less (by lia)) S hi4 hn4 (by lia) (by decide) fun be t5 vs5 ns5 u5 h b0 b1 hi5 hn5 S => ?_
  refine r_int fun t4 => r_sub fun tb => ?_
  refine r_args ?_
  refine r_BinOp (r_int fun t4 => ?_)
  refine r_Call ?_
  refine r_global gl S.gh kf.g_take ?_
  refine r_fn ?_
  refine r_args (r_cell (c := L + 1) rfl (S.get (c := (L + 1, CellP (some (.ref bx)))) (.tail _ (.tail _ (.tail _ (.tail _ (.tail _ (.tail _ (.head _)))))))) ?_)
  refine r_args ?_
  refine r_BinOp (r_local S rfl (r_int fun t4 => r_sub fun t6 => ?_))
  refine r_args0 ⟨(kf.f_take _ (gl.kin.keeps S.gh)).fun, ?_⟩
  refine call_take kf gl (room.less (by lia)) S hi5 hn5 (by lia) (by lia) fun ha t6 vs6 ns6 u6 h a0 a1 hi6 hn6 S => ?_
  refine r_add fun th => ?_
  refine r_args0 ?_
  refine r_newTuple S fun p h S => ?_
  refine r_unpackItems room.hd S S.own.has rfl fun h S _ => ?_
  have S := S.drop1
  refine r_ord (r_bindName (r_store S fun h S => ?_))
  refine r_ord (r_bindName (r_store S fun h S => ?_))
  refine r_ord (r_bindName (r_store S fun h S => ?_))
  refine r_ordNil ?_
  walk_at "nx"
  -- def less
  have S : St G B L h [("many", .int n tn), ("first", .int (fi - 20) tf), ("begin", .int (be - 20) tb), ("half", .int (1 + ha) th)] (tabCh 130 [] ++ ((bx, LstP [.ref inner, .int (0 + 1 + 1 + (n : Nat) + 1 + 1 + 1) t6]) :: (inner, LstP vs6) :: (lawC L (some (.ref bx)) (some (.ref sm)) (some (.int k kt)) none none ++ ((sm, LstP (zs.map Z.v)) :: (bag ++ tabCh 118 []))))) :=
    (S.perm (by unfold lawC; walk_at "pm")).to ⟨rfl, rfl, rfl, rfl, trivial⟩
  refine r_Def (a := A_less) ?_ rfl rfl rfl
  rw [show qualnameIn (lawEnv L f) A_less.name A_less.name = "law.<locals>.less" by kernel_rfl]
  refine r_makeFn (qof := qofL) (cl := [("kind", L + 3)]) gm S hc (fun e he => nomatch he) rfl rfl rfl rfl fun lsf cka te2 h ok2 inc2 in2 S => ?_
  refine r_storeCell (c := L + 5) (v₀ := none) S (rest := (lsf, FnP A_less "law.<locals>.less" [("kind", L + 3)] cka) :: (tabCh 130 te2 ++ ((bx, LstP [.ref inner, .int (0 + 1 + 1 + (n : Nat) + 1 + 1 + 1) t6]) :: (inner, LstP vs6) :: (L + 4, CellP none) :: (L + 3, CellP (some (.int k kt))) :: (L + 2, CellP (some (.ref sm))) :: (L + 1, CellP (some (.ref bx))) :: ((sm, LstP (zs.map Z.v)) :: (bag ++ tabCh 118 []))))) (by unfold lawC Pick; walk_at "pm") rfl fun h S => ?_
  refine onw ?_
  have S : St G B L h [("many", .int zs.length tn), ("first", .int (fi - 20) tf), ("begin", .int (be - 20) tb), ("half", .int (1 + ha) th)] (base L zs k kt bx inner sm lsf cka (0 + 1 + 1 + (n : Nat) + 1 + 1 + 1) t6 vs6 bag none [] te2) := by
    rw [hzl]
    exact S.perm (by unfold base lawC; walk_at "pm")
  refine next zs k kt bx inner sm lsf cka _ t6 vs6 bag te2 (1 + ha) _ _ tn tf tb th h ⟨zb, by lia, by lia, zok, ⟨k0, k1⟩, ⟨ns6, hi6, hn6⟩, by lia, (fun e he => nomatch he), ok2, in2⟩ (by lia) (by lia) (by lia) S
end
end

/-! ### L3 -/
noncomputable section
open PySem PySem.W PyProof.Rows
set_option Elab.async false
set_option maxRecDepth 100000

/-- base without the table of _law_sorted -/
noncomputable def baseR (L : Addr) (zs : List Z) (k : Int) (kt : Tok) (bx inner sm lsf cka : Addr) (c : Int) (t : Tok) (vs : List Value) (bag : List Ch) (lf : Option Value) (te2 : List TE) : List Ch :=
  (bx, LstP [.ref inner, .int c t]) :: (inner, LstP vs) :: (L + 5, CellP (some (.ref lsf))) :: (L + 4, CellP lf) :: (L + 3, CellP (some (.int k kt))) :: (L + 2, CellP (some (.ref sm))) :: (L + 1, CellP (some (.ref bx))) ::
    (sm, LstP (zs.map Z.v)) :: (lsf, FnP A_less "law.<locals>.less" [("kind", L + 3)] cka) :: (bag ++ tabCh 130 te2)
noncomputable def zf (zs : List Z) (i : Nat) : Z := zs.getD i (zs.getD 0 zd)
theorem zf_mem {zs : List Z} (h : 1 ≤ zs.length) (i : Nat) : zf zs i ∈ zs := by
  unfold zf
  by_cases q : i < zs.length
  · simp [q]
  · have h0 : 0 < zs.length := h
    simp [q, h0]
theorem zf_get {zs : List Z} {i : Nat} (h : i < zs.length) : (zs.map Z.v)[i]? = some (zf zs i).v := by
  unfold zf
  simp [h]
theorem zf_range (zs : List Z) : (List.range zs.length).map (zf zs) = zs := by
  apply List.ext_getElem
  · simp
  · intro i h1 h2
    simp [zf, h2]
section
variable {prog : Program} {w : World} {A : Around} {G B h h' : Heap} {K : Frag} {lo : List (Str × Value)} {nw rest extra : List Ch} {L : Addr} {zs : List Z} {k : Int} {kt : Tok} {bx inner sm lsf cka : Addr} {c : Int} {t : Tok} {vs : List Value} {bag : List Ch} {lf : Option Value} {te te2 : List TE}

/-- what a heap with the base's chunks says of pairs and of less -/
theorem base_pairs (F : LF zs k cka c vs bag te te2) {h : Heap} (hr : ∀ d ∈ baseR L zs k kt bx inner sm lsf cka c t vs bag lf te2 ++ extra, Has h d) : ∀ z ∈ zs, PairIn h z :=
  F.zb.view fun d hd => hr d (List.mem_append_left _ (.tail _ (.tail _ (.tail _ (.tail _ (.tail _ (.tail _ (.tail _ (.tail _ (.tail _ (List.mem_append_left _ hd)))))))))))
theorem base_less (F : LF zs k cka c vs bag te te2) {h : Heap} (hr : ∀ d ∈ baseR L zs k kt bx inner sm lsf cka c t vs bag lf te2 ++ extra, Has h d) :
    IsFn h lsf A_less "law.<locals>.less" [("kind", L + 3)] ∧ h.IsCell (L + 3) (some (.int k kt)) ∧ h.IsCell (L + 5) (some (.ref lsf)) ∧ h.IsCell (L + 4) lf := by
  refine ⟨FnP.is (hr _ (List.mem_append_left _ (.tail _ (.tail _ (.tail _ (.tail _ (.tail _ (.tail _ (.tail _ (.tail _ (.head _))))))))))) ?_, hr (L + 3, CellP (some (.int k kt))) (List.mem_append_left _ (.tail _ (.tail _ (.tail _ (.tail _ (.head _)))))),
    hr (L + 5, CellP (some (.ref lsf))) (List.mem_append_left _ (.tail _ (.tail _ (.head _)))), hr (L + 4, CellP lf) (List.mem_append_left _ (.tail _ (.tail _ (.tail _ (.head _)))))⟩
  obtain ⟨e, he, h1, h2⟩ := F.less
  subst h1
  rw [← h2]
  exact hr _ (List.mem_append_left _ (.tail _ (.tail _ (.tail _ (.tail _ (.tail _ (.tail _ (.tail _ (.tail _ (.tail _ (List.mem_append_right _ (List.mem_cons_of_mem _ (List.mem_map.mpr ⟨e, he, rfl⟩)))))))))))))
theorem law_sort (kf : KF K) (kc : KC K) (gl : Gl K G) (gm : Gm G) (hc : CodeHd G 120 118) (F : LF zs k cka c vs bag te te2) (room : Room A 20) (S : St G B L h lo (baseR L zs k kt bx inner sm lsf cka c t vs bag lf te2 ++ (tabCh 118 te ++ extra)))
    {l less : Addr} {fst : Int} {tF : Tok} {zs' : List Z} {key : Z → Int} {Q : Value → Heap → Prop} (hl : (l, LstP (zs'.map Z.v)) ∈ baseR L zs k kt bx inner sm lsf cka c t vs bag lf te2 ++ extra) (h1 : 1 ≤ zs'.length) (h2 : zs'.length ≤ 16)
    (lok : ∀ G', Sub G G' → (∀ d ∈ baseR L zs k kt bx inner sm lsf cka c t vs bag lf te2 ++ extra, Has G' d) → LessOk prog w G' less (fun i => (zf zs' i).v) (keyOra fun i => key (zf zs' i)) SR0)
    (q : ∀ Fu f ps, SortFacts (fun i => key (zf zs' i)) zs'.length Fu f ps → ∀ p a d n te' bagD refs h', TeOk qofS te' → DeedsAre refs bagD ps.deeds →
      St G B L h' lo (baseR L zs k kt bx inner sm lsf cka c t vs bag lf te2 ++ (tabCh 118 te' ++ ((p, TupP [.ref a, .ref d, .ref n]) :: (a, LstP ((ps.lie.map (zf zs')).map Z.v)) :: (d, LstP refs) :: (n, LstP (boolV ps.ans)) :: (bagD ++ extra)))) → Q (.ref p) h') :
    Run prog w A (call (.ref 121) [.ref l, .int fst tF, .ref less]) h Q := by
  obtain ⟨Fu, f, ps, sf⟩ := sort_facts (fun i => key (zf zs' i)) zs'.length h1 h2
  have S : St G B L h lo ((tabCh 118 te ++ []) ++ (baseR L zs k kt bx inner sm lsf cka c t vs bag lf te2 ++ extra)) := S.perm (by walk_at "pm")
  have hlen : (zs'.map Z.v).length = zs'.length := List.length_map ..
  refine call_sorted kf kc gl gm hc (val := fun i => (zf zs' i).v) (o := keyOra fun i => key (zf zs' i)) (SR := SR0) (F := Fu) (f := f) (ps' := ps) room S F.t118 hl (by lia) (fun i hi => zf_get (by lia)) lok rfl sf.fuel (by rw [hlen]; exact sf.run) (by rw [hlen, sf.perm.length_eq, List.length_range]) ?_
  intro p a d n te' bagD subL' refs h' ok da sr S
  cases sr
  refine q Fu f ps sf p a d n te' bagD refs h' ok da (S.perm ?_)
  rw [List.map_map]
  show List.Perm ((p, TupP [.ref a, .ref d, .ref n]) :: (a, LstP (ps.lie.map fun i => (zf zs' i).v)) :: _) ((_ : List Ch) ++ (_ ++ ((p, _) :: (a, LstP (ps.lie.map fun i => (zf zs' i).v)) :: _)))
  walk_at "pm"
theorem sorted_perm {zs' : List Z} {key : Z → Int} {Fu f : Nat} {ps : PS} (sf : SortFacts (fun i => key (zf zs' i)) zs'.length Fu f ps) : (ps.lie.map (zf zs')).Perm zs' := by
  have := sf.perm.map (zf zs')
  rwa [zf_range] at this
theorem sorted_keys {zs' : List Z} {key : Z → Int} {Fu f : Nat} {ps : PS} (sf : SortFacts (fun i => key (zf zs' i)) zs'.length Fu f ps) : ((ps.lie.map (zf zs')).map key).Pairwise (· ≤ ·) := by
  rw [List.map_map]; exact sf.sorted
end
end

/-! ### L4 -/
noncomputable section
open PySem PySem.W PyProof.Rows
set_option Elab.async false
set_option maxRecDepth 100000

theorem perm_eq {α : Type} (f : α → Int) : ∀ {l r : List α}, l.Perm r → (l.map f).Pairwise (· < ·) → (r.map f).Pairwise (· < ·) → l = r
  | [], r, p, _, _ => (List.nil_perm.mp p).symm
  | x :: l, r, p, h1, h2 => by
    cases r with
    | nil => exact absurd p.length_eq (by simp)
    | cons y r =>
      rw [List.map_cons, List.pairwise_cons] at h1 h2
      have hxy : x = y := by
        rcases List.mem_cons.mp (p.mem_iff.mp (.head _)) with e | e
        · exact e
        · rcases List.mem_cons.mp (p.mem_iff.mpr (.head _)) with e' | e'
          · exact e'.symm
          · have a1 := h1.1 _ (List.mem_map_of_mem e')
            have a2 := h2.1 _ (List.mem_map_of_mem e)
            lia
      subst hxy
      rw [perm_eq f (List.Perm.cons_inv p) h1.2 h2.2]
theorem lex_inj {zs : List Z} (ok : ZsOk zs) (hn : zs.length ≤ 16) : ∀ x ∈ zs, ∀ y ∈ zs, lexK x = lexK y → x = y := by
  intro x hx y hy e
  obtain ⟨i, hi, rfl⟩ := List.getElem_of_mem hx
  obtain ⟨j, hj, rfl⟩ := List.getElem_of_mem hy
  have a1 := ok i hi
  have a2 := ok j hj
  unfold lexK at e
  have : i = j := by lia
  subst this
  rfl
theorem lex_nodup {zs : List Z} (ok : ZsOk zs) (hn : zs.length ≤ 16) : (zs.map lexK).Nodup := by
  rw [List.nodup_iff_pairwise_ne, List.pairwise_map, List.pairwise_iff_getElem]
  intro i j hi hj hij e
  have a1 := ok i hi
  have a2 := ok j hj
  unfold lexK at e
  lia
theorem z_b {zs : List Z} (ok : ZsOk zs) (hn : zs.length ≤ 16) : ∀ z ∈ zs, 0 ≤ z.b ∧ z.b < 64 := by
  intro z hz
  obtain ⟨i, hi, rfl⟩ := List.getElem_of_mem hz
  have := ok i hi
  lia
theorem zD_refl (zs : List Z) : PyData.eqv (zD zs) (zD zs) = true := PySem.SeqAt.eqv_refl _ (PySem.SeqAt.canLay_of_shaped (zD_shaped zs))
theorem ints_refl (ns : List Int) : PyData.eqv (.list (ns.map PyData.int)) (.list (ns.map PyData.int)) = true := PySem.SeqAt.eqv_refl _ (PySem.SeqAt.canLay_of_shaped (ke_shaped_ints ns))

section
variable {prog : Program} {w : World} {A : Around} {G B h h' : Heap} {K : Frag} {lo : List (Str × Value)} {nw rest extra : List Ch} {L : Addr} {zs : List Z} {k : Int} {kt : Tok} {bx inner sm lsf cka : Addr} {c : Int} {t : Tok} {vs : List Value} {bag : List Ch} {lf : Option Value} {te te2 : List TE}

/-- what the first sort leaves -/
structure W1 (zs : List Z) (k : Int) (Fu f : Nat) (ps : PS) (refs : List Value) (bagD : List Ch) (rvs : List Value) : Prop where
  sf : SortFacts (fun i => rk k (zf zs i)) zs.length Fu f ps
  da : DeedsAre refs bagD ps.deeds
  rv : IntsAre rvs ((ps.lie.map (zf zs)).map (rk k))
noncomputable def ext1 (zs : List Z) (ps : PS) (a d n r : Addr) (refs : List Value) (bagD : List Ch) (rvs : List Value) : List Ch :=
  (a, LstP ((ps.lie.map (zf zs)).map Z.v)) :: (d, LstP refs) :: (n, LstP (boolV ps.ans)) :: (r, LstP rvs) :: bagD

set_option maxHeartbeats 8000000 in
theorem law_first (kf : KF K) (kc : KC K) (gl : Gl K G) (gm : Gm G) (hc : CodeHd G 120 118) {f : Addr} {half first begin_ : Int} {tn tf tb th : Tok} (room : Room A 30) (F : LF zs k cka c vs bag te te2)
    (S : St G B L h [("many", .int zs.length tn), ("first", .int first tf), ("begin", .int begin_ tb), ("half", .int half th)] (baseR L zs k kt bx inner sm lsf cka c t vs bag lf te2 ++ (tabCh 118 te ++ []))) {Q : Flow → Heap → Prop}
    (next : ∀ Fu ff ps a d n r refs bagD rvs te h, W1 zs k Fu ff ps refs bagD rvs → LF zs k cka c vs bag te te2 →
      St G B L h [("many", .int zs.length tn), ("first", .int first tf), ("begin", .int begin_ tb), ("half", .int half th), ("whole", .ref a), ("deeds", .ref d), ("answers", .ref n), ("ranks", .ref r)]
        (baseR L zs k kt bx inner sm lsf cka c t vs bag lf te2 ++ (tabCh 118 te ++ ext1 zs ps a d n r refs bagD rvs)) → Run prog w A (execs (A_law.body.drop 8) (lawEnv L f)) h Q) :
    Run prog w A (execs (A_law.body.drop 5) (lawEnv L f)) h Q := by
  have n1 := F.n1
  have n2 := F.n2
  -- whole, deeds, answers = _law_sorted(some, first, less)
  refine r_cons (r_AssignTup ?_)
  refine r_Call ?_
  refine r_global gl S.gh kf.g_lsorted ?_
  refine r_fn ?_
  refine r_args (r_cell (c := L + 2) rfl (S.get (c := (L + 2, CellP (some (.ref sm)))) (List.mem_append_left _ (.tail _ (.tail _ (.tail _ (.tail _ (.tail _ (.head _)))))))) ?_)
  refine r_args (r_local S rfl ?_)
  refine r_args (r_cell (c := L + 5) rfl (S.get (c := (L + 5, CellP (some (.ref lsf)))) (List.mem_append_left _ (.tail _ (.tail _ (.head _))))) ?_)
  refine r_args0 ⟨(kf.f_lsorted _ (gl.kin.keeps S.gh)).fun, ?_⟩
  refine law_sort (key := rk k) kf kc gl gm hc F (room.less (by lia)) S (zs' := zs) (List.mem_append_left _ (.tail _ (.tail _ (.tail _ (.tail _ (.tail _ (.tail _ (.tail _ (.head _))))))))) (by lia) n2
    (fun G' s hr => less_ok kf (gl.up s) (base_less F hr).1 (base_less F hr).2.1 (fun i => base_pairs F hr _ (zf_mem (by lia) i)) F.k0) ?_
  intro Fu ff ps sf p a d n te' bagD refs h ok da S
  have F : LF zs k cka c vs bag te' te2 := ⟨F.zb, n1, n2, F.zok, F.k0, F.hv, F.c0, ok, F.t130, F.less⟩
  have hpm := sorted_perm sf
  have hks := sorted_keys sf
  generalize hws : ps.lie.map (zf zs) = ws at S hpm hks
  refine r_assignTuple room.hd S (S.get (List.mem_append_right _ (List.mem_append_right _ (.head _)))) fun h S _ => ?_
  refine r_ord (r_toName (r_store S fun h S => ?_))
  refine r_ord (r_toName (r_store S fun h S => ?_))
  refine r_ord (r_toName (r_store S fun h S => ?_))
  refine r_ordNil ?_
  have S : St G B L h [("many", .int zs.length tn), ("first", .int first tf), ("begin", .int begin_ tb), ("half", .int half th), ("whole", .ref a), ("deeds", .ref d), ("answers", .ref n)]
      (baseR L zs k kt bx inner sm lsf cka c t vs bag lf te2 ++ (tabCh 118 te' ++ ((a, LstP (ws.map Z.v)) :: (d, LstP refs) :: (n, LstP (boolV ps.ans)) :: bagD))) :=
    ((S.perm (nw' := (p, TupP [.ref a, .ref d, .ref n]) :: (baseR L zs k kt bx inner sm lsf cka c t vs bag lf te2 ++ (tabCh 118 te' ++ ((a, LstP (ws.map Z.v)) :: (d, LstP refs) :: (n, LstP (boolV ps.ans)) :: bagD)))) (by walk_at "pm")).drop1).to ⟨rfl, rfl, rfl, rfl, rfl, rfl, rfl, trivial⟩
  walk_at "nx"
  -- ranks
  have wsl : ws.length = zs.length := hpm.length_eq
  have hview : ∀ {ex : List Ch} (h : Heap), (∀ d ∈ baseR L zs k kt bx inner sm lsf cka c t vs bag lf te2 ++ ex, Has h d) → ∀ z ∈ ws, PairIn h z := fun h hr z hz => base_pairs F hr z (hpm.mem_iff.mp hz)
  refine r_AssignName ?_
  refine r_Call ?_
  refine r_global gl S.gh kf.g_ranks ?_
  refine r_fn ?_
  refine r_args (r_cell (c := L + 3) rfl (S.get (c := (L + 3, CellP (some (.int k kt)))) (List.mem_append_left _ (.tail _ (.tail _ (.tail _ (.tail _ (.head _))))))) ?_)
  refine r_args (r_local S rfl ?_)
  refine r_args0 ⟨(kf.f_ranks _ (gl.kin.keeps S.gh)).fun, ?_⟩
  refine call_ranks kf gl (room.less (by lia)) S (zs := ws) (List.mem_append_right _ (List.mem_append_right _ (.head _))) (fun h hr => hview h hr) (by lia) F.k0 fun r rvs h hrv S => ?_
  refine r_store S fun h S => ?_
  have S : St G B L h [("many", .int zs.length tn), ("first", .int first tf), ("begin", .int begin_ tb), ("half", .int half th), ("whole", .ref a), ("deeds", .ref d), ("answers", .ref n), ("ranks", .ref r)]
      (baseR L zs k kt bx inner sm lsf cka c t vs bag lf te2 ++ (tabCh 118 te' ++ ((a, LstP (ws.map Z.v)) :: (d, LstP refs) :: (n, LstP (boolV ps.ans)) :: (r, LstP rvs) :: bagD))) :=
    (S.perm (by walk_at "pm")).to ⟨rfl, rfl, rfl, rfl, rfl, rfl, rfl, rfl, trivial⟩
  walk_at "nx"
  -- if sorted(whole) != sorted(some) or ranks != sorted(ranks)
  have rmu := room.u64
  refine r_If ?_
  refine r_or ?_
  refine r_testCmp ?_
  refine r_Call ?_
  refine r_builtin gl S.gh kf.g_sorted boot_sorted ?_
  refine r_blt ?_
  refine r_args (r_local S rfl ?_)
  refine r_args0 ?_
  have hb := z_b F.zok n2
  refine c_sortedZ (zs := ws) S (LstP.isList (S.get (List.mem_append_right _ (List.mem_append_right _ (.head _))))) (fun h S => hview h fun d hd => S.get hd) (fun z hz => hb z (hpm.mem_iff.mp hz)) (by lia) (by lia) ((hpm.map lexK).nodup_iff.mpr (lex_nodup F.zok n2)) fun D1 zs1 h S pm1 pw1 => ?_
  refine r_Call ?_
  refine r_builtin gl S.gh kf.g_sorted boot_sorted ?_
  refine r_blt ?_
  refine r_args (r_cell (c := L + 2) rfl (S.get (c := (L + 2, CellP (some (.ref sm)))) (.tail _ (List.mem_append_left _ (.tail _ (.tail _ (.tail _ (.tail _ (.tail _ (.head _))))))))) ?_)
  refine r_args0 ?_
  refine c_sortedZ (zs := zs) S (LstP.isList (S.get (.tail _ (List.mem_append_left _ (.tail _ (.tail _ (.tail _ (.tail _ (.tail _ (.tail _ (.tail _ (.head _))))))))))))
    (fun h S => base_pairs F fun d hd => S.get (.tail _ hd)) hb (by lia) (by lia) (lex_nodup F.zok n2) fun D2 zs2 h S pm2 pw2 => ?_
  have e12 : zs1 = zs2 := perm_eq lexK (pm1.trans (hpm.trans pm2.symm)) pw1 pw2
  subst e12
  have hp1 : ∀ z ∈ zs1, PairIn h z := fun z hz => base_pairs F (fun d hd => S.get (.tail _ (.tail _ hd))) z (pm2.mem_iff.mp hz)
  refine c_neD (lst_reads (S.get (.tail _ (.head _))) (pairIn_rd hp1)) (lst_reads (S.get (.head _)) (pairIn_rd hp1)) (zD_shaped _) (zD_shaped _) rmu ?_
  rw [show PyData.eqv (.list (zs1.map fun z => PyData.tuple [.int z.a, .int z.b])) (.list (zs1.map fun z => PyData.tuple [.int z.a, .int z.b])) = true from zD_refl zs1]
  refine r_truthB ?_
  rw [show (!true) = false from rfl, if_neg Bool.false_ne_true]
  refine r_or ?_
  refine r_testCmp ?_
  refine r_local S rfl ?_
  refine r_Call ?_
  refine r_builtin gl S.gh kf.g_sorted boot_sorted ?_
  refine r_blt ?_
  refine r_args (r_local S rfl ?_)
  refine r_args0 ?_
  have mr : (r, LstP rvs) ∈ (D2, LstP (zs1.map Z.v)) :: (D1, LstP (zs1.map Z.v)) :: (baseR L zs k kt bx inner sm lsf cka c t vs bag lf te2 ++ (tabCh 118 te' ++ ((a, LstP (ws.map Z.v)) :: (d, LstP refs) :: (n, LstP (boolV ps.ans)) :: (r, LstP rvs) :: bagD))) :=
    .tail _ (.tail _ (List.mem_append_right _ (List.mem_append_right _ (.tail _ (.tail _ (.tail _ (.head _)))))))
  refine c_sortedInts S (LstP.isList (S.get mr)) hrv (by rw [List.length_map]; lia) fun D3 vs3 ns3 h S hi3 pm3 pw3 => ?_
  have e3 : ns3 = ws.map (rk k) := lks_uniq pm3 pw3 hks
  subst e3
  refine c_neD (lst_reads (S.get (.tail _ mr)) (intsAre_rd hrv)) (lst_reads (S.get (.head _)) (intsAre_rd hi3)) (ke_shaped_ints _) (ke_shaped_ints _) rmu ?_
  rw [ints_refl]
  refine r_truthB ?_
  rw [show (!true) = false from rfl, if_neg Bool.false_ne_true]
  refine r_or0 ?_
  rw [if_neg Bool.false_ne_true]
  refine r_nil ?_
  refine onw ?_
  have S := S.drop1.drop1.drop1
  refine next Fu ff ps a d n r refs bagD rvs te' h ⟨sf, da, by rw [hws]; exact hrv⟩ F ?_
  unfold ext1
  rw [hws]
  exact S
end
end

/-! ### L5 -/
noncomputable section
open PySem PySem.W PyProof.Rows
set_option Elab.async false
set_option maxRecDepth 100000

theorem mrg_perm (key : Z → Int) : ∀ (n : Nat) (xs ys : List Z), xs.length + ys.length = n → (mrg key xs ys).Perm (xs ++ ys)
  | _, [], ys, _ => by rw [mrg_left]; exact List.Perm.refl _
  | _, x :: xs, [], _ => by rw [mrg_nil]; simp
  | 0, x :: xs, y :: ys, h => by simp at h
  | n + 1, x :: xs, y :: ys, h => by
    rw [mrg_cons]
    split
    · refine (List.Perm.cons y (mrg_perm key n (x :: xs) ys (by simp only [List.length_cons] at *; lia))).trans ?_
      exact List.perm_middle.symm
    · exact List.Perm.cons x (mrg_perm key n xs (y :: ys) (by simp only [List.length_cons] at *; lia))
theorem mrg_sorted (key : Z → Int) : ∀ (n : Nat) (xs ys : List Z), xs.length + ys.length = n → (xs.map key).Pairwise (· ≤ ·) → (ys.map key).Pairwise (· ≤ ·) → ((mrg key xs ys).map key).Pairwise (· ≤ ·)
  | _, [], ys, _, _, h2 => by rw [mrg_left]; exact h2
  | _, x :: xs, [], _, h1, _ => by rw [mrg_nil]; exact h1
  | 0, x :: xs, y :: ys, h, _, _ => by simp at h
  | n + 1, x :: xs, y :: ys, h, h1, h2 => by
    rw [mrg_cons]
    have h1' := List.pairwise_cons.mp (by simpa using h1 : List.Pairwise (· ≤ ·) (key x :: xs.map key))
    have h2' := List.pairwise_cons.mp (by simpa using h2 : List.Pairwise (· ≤ ·) (key y :: ys.map key))
    split
    · rename_i hlt
      rw [List.map_cons]
      refine List.pairwise_cons.mpr ⟨fun v hv => ?_, mrg_sorted key n (x :: xs) ys (by simp only [List.length_cons] at *; lia) h1 h2'.2⟩
      obtain ⟨z, hz, rfl⟩ := List.mem_map.mp hv
      rcases List.mem_append.mp ((mrg_perm key _ (x :: xs) ys rfl).mem_iff.mp hz) with q | q
      · rcases List.mem_cons.mp q with rfl | q
        · lia
        · have := h1'.1 _ (List.mem_map_of_mem q); lia
      · exact h2'.1 _ (List.mem_map_of_mem q)
    · rename_i hlt
      rw [List.map_cons]
      refine List.pairwise_cons.mpr ⟨fun v hv => ?_, mrg_sorted key n xs (y :: ys) (by simp only [List.length_cons] at *; lia) h1'.2 h2⟩
      obtain ⟨z, hz, rfl⟩ := List.mem_map.mp hv
      rcases List.mem_append.mp ((mrg_perm key _ xs (y :: ys) rfl).mem_iff.mp hz) with q | q
      · exact h1'.1 _ (List.mem_map_of_mem q)
      · rcases List.mem_cons.mp q with rfl | q
        · lia
        · have := h2'.1 _ (List.mem_map_of_mem q); lia

section
variable {prog : Program} {w : World} {A : Around} {G B h h' : Heap} {K : Frag} {lo : List (Str × Value)} {nw rest extra : List Ch} {L : Addr} {zs : List Z} {k : Int} {kt : Tok} {bx inner sm lsf cka : Addr} {c : Int} {t : Tok} {vs : List Value} {bag : List Ch} {lf : Option Value} {te te2 : List TE}
theorem LF.newTe (F : LF zs k cka c vs bag te te2) {te' : List TE} (ok : TeOk qofS te') : LF zs k cka c vs bag te' te2 := ⟨F.zb, F.n1, F.n2, F.zok, F.k0, F.hv, F.c0, ok, F.t130, F.less⟩

set_option maxHeartbeats 8000000 in
theorem law_halves (kf : KF K) (kc : KC K) (gl : Gl K G) (gm : Gm G) (hc : CodeHd G 120 118) {f : Addr} {half first begin_ : Int} {tn tf tb th : Tok} (room : Room A 30) (F : LF zs k cka c vs bag te te2) (hh1 : 1 ≤ half) (hh2 : half < zs.length)
    {Fu ff : Nat} {ps : PS} {a d n r : Addr} {refs : List Value} {bagD : List Ch} {rvs : List Value} (W : W1 zs k Fu ff ps refs bagD rvs)
    (S : St G B L h [("many", .int zs.length tn), ("first", .int first tf), ("begin", .int begin_ tb), ("half", .int half th), ("whole", .ref a), ("deeds", .ref d), ("answers", .ref n), ("ranks", .ref r)]
        (baseR L zs k kt bx inner sm lsf cka c t vs bag lf te2 ++ (tabCh 118 te ++ ext1 zs ps a d n r refs bagD rvs))) {Q : Flow → Heap → Prop}
    (next : ∀ te h, LF zs k cka c vs bag te te2 →
      St G B L h [("many", .int zs.length tn), ("begin", .int begin_ tb), ("whole", .ref a), ("deeds", .ref d), ("answers", .ref n), ("ranks", .ref r)]
        (baseR L zs k kt bx inner sm lsf cka c t vs bag lf te2 ++ (tabCh 118 te ++ ext1 zs ps a d n r refs bagD rvs)) → Run prog w A (execs (A_law.body.drop 10) (lawEnv L f)) h Q) :
    Run prog w A (execs (A_law.body.drop 8) (lawEnv L f)) h Q := by
  have n1 := F.n1
  have n2 := F.n2
  have rmu := room.u64
  obtain ⟨hN, rfl⟩ : ∃ hN : Nat, half = (hN : Int) := ⟨half.toNat, by lia⟩
  have l1 : (zs.take hN).length = hN := by rw [List.length_take]; lia
  have l2 : (zs.drop hN).length = zs.length - hN := List.length_drop
  -- ahead, behind
  refine r_cons (r_AssignTupS (names := ["ahead", "behind"]) ?_ rfl rfl)
  refine r_Tuple ?_
  refine r_args ?_
  refine r_Subscript ?_
  refine r_Call ?_
  refine r_global gl S.gh kf.g_lsorted ?_
  refine r_fn ?_
  refine r_args ?_
  refine r_sliceTo (y := hN) (l := sm) (items := zs.map Z.v) S (LstP.isList (S.get (List.mem_append_left _ (.tail _ (.tail _ (.tail _ (.tail _ (.tail _ (.tail _ (.tail _ (.head _))))))))))) (by rw [List.length_map]; lia)
    (r_cell (c := L + 2) rfl (S.get (c := (L + 2, CellP (some (.ref sm)))) (List.mem_append_left _ (.tail _ (.tail _ (.tail _ (.tail _ (.tail _ (.head _)))))))) ⟨rfl, rfl⟩) (pe_local S rfl ⟨_, rfl⟩) (by lia) fun D1 h S => ?_
  rw [Int.toNat_natCast, ← List.map_take] at S
  have S : St G B L h _ (baseR L zs k kt bx inner sm lsf cka c t vs bag lf te2 ++ (tabCh 118 te ++ ((D1, LstP ((zs.take hN).map Z.v)) :: ext1 zs ps a d n r refs bagD rvs))) := S.perm (by walk_at "pm")
  refine r_args (r_local S rfl ?_)
  refine r_args (r_cell (c := L + 5) rfl (S.get (c := (L + 5, CellP (some (.ref lsf)))) (List.mem_append_left _ (.tail _ (.tail _ (.head _))))) ?_)
  refine r_args0 ⟨(kf.f_lsorted _ (gl.kin.keeps S.gh)).fun, ?_⟩
  refine law_sort (key := rk k) kf kc gl gm hc F (room.less (by lia)) S (zs' := zs.take hN) (List.mem_append_right _ (.head _)) (by lia) (by lia)
    (fun G' s hr => less_ok kf (gl.up s) (base_less F hr).1 (base_less F hr).2.1 (fun i => base_pairs F hr _ (List.mem_of_mem_take (zf_mem (by lia) i))) F.k0) ?_
  intro Fu1 f1 ps1 sf1 p1 a1 d1 q1 te1 bag1 refs1 h ok1 da1 S
  have F := F.newTe ok1
  have hpm1 := sorted_perm sf1
  have hks1 := sorted_keys sf1
  generalize hws1 : ps1.lie.map (zf (zs.take hN)) = ws1 at S hpm1 hks1
  refine r_int fun t0 => ?_
  refine t_tuple (i := 0) (S.get (List.mem_append_right _ (List.mem_append_right _ (.head _)))) (by decide) rfl ?_
  refine r_args ?_
  refine r_Subscript ?_
  refine r_Call ?_
  refine r_global gl S.gh kf.g_lsorted ?_
  refine r_fn ?_
  refine r_args ?_
  refine r_sliceFrom (y := hN) (l := sm) (items := zs.map Z.v) S (LstP.isList (S.get (List.mem_append_left _ (.tail _ (.tail _ (.tail _ (.tail _ (.tail _ (.tail _ (.tail _ (.head _))))))))))) (by rw [List.length_map]; lia)
    (r_cell (c := L + 2) rfl (S.get (c := (L + 2, CellP (some (.ref sm)))) (List.mem_append_left _ (.tail _ (.tail _ (.tail _ (.tail _ (.tail _ (.head _)))))))) ⟨rfl, rfl⟩) (pe_local S rfl ⟨_, rfl⟩) (by lia) fun D2 h S => ?_
  rw [Int.toNat_natCast, ← List.map_drop] at S
  have S : St G B L h _ (baseR L zs k kt bx inner sm lsf cka c t vs bag lf te2 ++ (tabCh 118 te1 ++ ((D2, LstP ((zs.drop hN).map Z.v)) :: (a1, LstP (ws1.map Z.v)) :: ext1 zs ps a d n r refs bagD rvs))) :=
    (S.perm (nw' := (baseR L zs k kt bx inner sm lsf cka c t vs bag lf te2 ++ (tabCh 118 te1 ++ ((D2, LstP ((zs.drop hN).map Z.v)) :: (a1, LstP (ws1.map Z.v)) :: ext1 zs ps a d n r refs bagD rvs))) ++ ((p1, TupP [.ref a1, .ref d1, .ref q1]) :: (d1, LstP refs1) :: (q1, LstP (boolV ps1.ans)) :: (D1, LstP ((zs.take hN).map Z.v)) :: bag1)) (by walk_at "pm")).drop
  refine r_args (r_local S rfl ?_)
  refine r_args (r_cell (c := L + 5) rfl (S.get (c := (L + 5, CellP (some (.ref lsf)))) (List.mem_append_left _ (.tail _ (.tail _ (.head _))))) ?_)
  refine r_args0 ⟨(kf.f_lsorted _ (gl.kin.keeps S.gh)).fun, ?_⟩
  refine law_sort (key := rk k) kf kc gl gm hc F (room.less (by lia)) S (zs' := zs.drop hN) (List.mem_append_right _ (.head _)) (by lia) (by lia)
    (fun G' s hr => less_ok kf (gl.up s) (base_less F hr).1 (base_less F hr).2.1 (fun i => base_pairs F hr _ (List.mem_of_mem_drop (zf_mem (by lia) i))) F.k0) ?_
  intro Fu2 f2 ps2 sf2 p2 a2 d2 q2 te2' bag2 refs2 h ok2 da2 S
  have F := F.newTe ok2
  have hpm2 := sorted_perm sf2
  have hks2 := sorted_keys sf2
  generalize hws2 : ps2.lie.map (zf (zs.drop hN)) = ws2 at S hpm2 hks2
  refine r_int fun t0 => ?_
  refine t_tuple (i := 0) (S.get (List.mem_append_right _ (List.mem_append_right _ (.head _)))) (by decide) rfl ?_
  refine r_args0 ?_
  refine r_newTuple S fun p h S => ?_
  refine r_unpackItems room.hd S S.own.has rfl fun h S _ => ?_
  refine r_ord (r_bindName (r_store S fun h S => ?_))
  refine r_ord (r_bindName (r_store S fun h S => ?_))
  refine r_ordNil ?_
  have S : St G B L h [("many", .int zs.length tn), ("begin", .int begin_ tb), ("whole", .ref a), ("deeds", .ref d), ("answers", .ref n), ("ranks", .ref r), ("ahead", .ref a1), ("behind", .ref a2)]
      (baseR L zs k kt bx inner sm lsf cka c t vs bag lf te2 ++ (tabCh 118 te2' ++ ((a1, LstP (ws1.map Z.v)) :: (a2, LstP (ws2.map Z.v)) :: ext1 zs ps a d n r refs bagD rvs))) :=
    ((S.perm (nw' := (baseR L zs k kt bx inner sm lsf cka c t vs bag lf te2 ++ (tabCh 118 te2' ++ ((a1, LstP (ws1.map Z.v)) :: (a2, LstP (ws2.map Z.v)) :: ext1 zs ps a d n r refs bagD rvs))) ++ ((p, TupP [.ref a1, .ref a2]) :: (p2, TupP [.ref a2, .ref d2, .ref q2]) :: (d2, LstP refs2) :: (q2, LstP (boolV ps2.ans)) :: (D2, LstP ((zs.drop hN).map Z.v)) :: bag2)) (by walk_at "pm")).drop).to
      ⟨rfl, rfl, rfl, rfl, rfl, rfl, rfl, rfl, trivial⟩
  walk_at "nx"
  -- if _law_ranks(kind, _law_merged(kind, ahead, behind)) != ranks
  have hall : (ws1 ++ ws2).Perm zs := (hpm1.append hpm2).trans (by rw [List.take_append_drop])
  have hlen : ws1.length + ws2.length = zs.length := by have := hall.length_eq; rwa [List.length_append] at this
  refine r_If ?_
  refine r_testCmp ?_
  refine r_Call ?_
  refine r_global gl S.gh kf.g_ranks ?_
  refine r_fn ?_
  refine r_args (r_cell (c := L + 3) rfl (S.get (c := (L + 3, CellP (some (.int k kt)))) (List.mem_append_left _ (.tail _ (.tail _ (.tail _ (.tail _ (.head _))))))) ?_)
  refine r_args ?_
  refine r_Call ?_
  refine r_global gl S.gh kf.g_merged ?_
  refine r_fn ?_
  refine r_args (r_cell (c := L + 3) rfl (S.get (c := (L + 3, CellP (some (.int k kt)))) (List.mem_append_left _ (.tail _ (.tail _ (.tail _ (.tail _ (.head _))))))) ?_)
  refine r_args (r_local S rfl ?_)
  refine r_args (r_local S rfl ?_)
  refine r_args0 ⟨(kf.f_merged _ (gl.kin.keeps S.gh)).fun, ?_⟩
  refine call_merged kf gl (room.less (by lia)) S (xs := ws1) (ys := ws2) (List.mem_append_right _ (List.mem_append_right _ (.head _))) (List.mem_append_right _ (List.mem_append_right _ (.tail _ (.head _)))) (fun h hr z hz => base_pairs F hr z (hall.mem_iff.mp hz)) (by lia) F.k0 fun M h S => ?_
  have pmM := mrg_perm (rk k) _ ws1 ws2 rfl
  have stM := mrg_sorted (rk k) _ ws1 ws2 rfl hks1 hks2
  generalize hmz : mrg (rk k) ws1 ws2 = mz at S pmM stM
  have pmz := pmM.trans hall
  refine r_args0 ⟨(kf.f_ranks _ (gl.kin.keeps S.gh)).fun, ?_⟩
  refine call_ranks kf gl (room.less (by lia)) S (zs := mz) (.head _) (fun h hr z hz => base_pairs F (fun d hd => hr d (.tail _ hd)) z (pmz.mem_iff.mp hz)) (by rw [pmz.length_eq]; lia) F.k0 fun R vsR h hR S => ?_
  refine r_local S rfl ?_
  have mr : (r, LstP rvs) ∈ (R, LstP vsR) :: (M, LstP (mz.map Z.v)) :: (baseR L zs k kt bx inner sm lsf cka c t vs bag lf te2 ++ (tabCh 118 te2' ++ ((a1, LstP (ws1.map Z.v)) :: (a2, LstP (ws2.map Z.v)) :: ext1 zs ps a d n r refs bagD rvs))) :=
    .tail _ (.tail _ (List.mem_append_right _ (List.mem_append_right _ (.tail _ (.tail _ (.tail _ (.tail _ (.tail _ (.head _)))))))))
  refine c_neD (lst_reads (S.get (.head _)) (intsAre_rd hR)) (lst_reads (S.get mr) (intsAre_rd W.rv)) (ke_shaped_ints _) (ke_shaped_ints _) rmu ?_
  have eR : mz.map (rk k) = (ps.lie.map (zf zs)).map (rk k) := lks_uniq ((pmz.trans (sorted_perm W.sf).symm).map (rk k)) stM (sorted_keys W.sf)
  rw [eR, ints_refl]
  refine r_truthB ?_
  rw [show (!true) = false from rfl, if_neg Bool.false_ne_true]
  refine r_nil ?_
  refine onw ?_
  have S : St G B L h [("many", .int zs.length tn), ("begin", .int begin_ tb), ("whole", .ref a), ("deeds", .ref d), ("answers", .ref n), ("ranks", .ref r)]
      (baseR L zs k kt bx inner sm lsf cka c t vs bag lf te2 ++ (tabCh 118 te2' ++ ext1 zs ps a d n r refs bagD rvs)) :=
    ((S.perm (nw' := (baseR L zs k kt bx inner sm lsf cka c t vs bag lf te2 ++ (tabCh 118 te2' ++ ext1 zs ps a d n r refs bagD rvs)) ++ [(R, LstP vsR), (M, LstP (mz.map Z.v)), (a1, LstP (ws1.map Z.v)), (a2, LstP (ws2.map Z.v))]) (by walk_at "pm")).drop).to ⟨rfl, rfl, rfl, rfl, rfl, rfl, trivial⟩
  exact next te2' h F S
end
end

/-! ### L6 -/
noncomputable section
open PySem PySem.W PyProof.Rows
set_option Elab.async false
set_option maxRecDepth 100000
section
variable {prog : Program} {w : World} {A : Around} {G B h h' : Heap} {K : Frag} {env : Env} {lo : List (Str × Value)} {nw rest extra : List Ch} {L : Addr} {zs : List Z} {k : Int} {kt : Tok} {bx inner sm lsf cka : Addr} {c : Int} {t : Tok} {vs : List Value} {bag : List Ch} {lf : Option Value} {te te2 : List TE}
theorem r_toSub {o i : Expr} {pos : Pos} {v : Value} {Q : Unit → Heap → Prop} (q : Run prog w A (eval o env) h fun ov h₁ => Run prog w A (eval i env) h₁ fun iv h₂ => Run prog w A (setItem ov iv v) h₂ Q) : Run prog w A (assign (.Subscript o i pos) env v) h Q := by
  intro s E Q' es k
  rw [assign_Subscript]
  exact wpAny_bind (wpAny_holding (q.wp es fun ov _ r1 q1 => wpAny_bind (wpAny_holding (q1.wp rfl fun iv _ r2 q2 => wpAny_bind (wpAny_standAt (wpAny_bind (wpAny_holding (q2.wp rfl fun _ _ r3 q3 => wpAny_release' (k _ _ ((r1.trans r2).trans r3) q3)))))))))
theorem c_eqI {a b : Int} {t u : Tok} {Q : Value → Heap → Prop} (q : Q (.bool (decide (a = b))) h) : Run prog w A (compareOp .Eq (.int a t) (.int b u)) h Q := by
  intro s E Q' es k
  refine PyProof.Rows.eq_int (k _ _ (Rest.refl _) ?_)
  subst es
  first | exact q | (rw [show (a == b) = decide (a = b) from rfl]; exact q)
theorem swap_perm {α : Type} (l : List α) {i j : Nat} (hi : i < l.length) (hj : j < l.length) : ((l.set i l[j]).set j l[i]).Perm l := List.set_set_perm hi hj

theorem AllIn.put {lo : List (Str × Value)} {x : Str} {v : Value} : ∀ {l : List (Str × Value)}, AllIn lo l → (l.all fun p => !(p.1 == x)) = true → AllIn (put x v lo) l
  | [], _, _ => trivial
  | (y, u) :: r, a, h => by
    rw [List.all_cons, Bool.and_eq_true] at h
    have hy : y ≠ x := by simpa using h.1
    exact ⟨by rw [look_put, if_neg hy]; exact a.1, AllIn.put a.2 h.2⟩
set_option maxHeartbeats 8000000 in
theorem law_others (kf : KF K) (gl : Gl K G) {f : Addr} {begin_ : Int} {tn tb : Tok} (room : Room A 30) (F : LF zs k cka c vs bag te te2) (hcb : c ≤ 100)
    {ps : PS} {a d n r : Addr} {refs : List Value} {bagD : List Ch} {rvs : List Value}
    (S : St G B L h [("many", .int zs.length tn), ("begin", .int begin_ tb), ("whole", .ref a), ("deeds", .ref d), ("answers", .ref n), ("ranks", .ref r)]
        (baseR L zs k kt bx inner sm lsf cka c t vs bag lf te2 ++ (tabCh 118 te ++ ext1 zs ps a d n r refs bagD rvs))) {Q : Flow → Heap → Prop}
    (next : ∀ c t vs ot (os : List Z) h, LF zs k cka c vs bag te te2 → os.Perm zs →
      St G B L h [("many", .int zs.length tn), ("begin", .int begin_ tb), ("whole", .ref a), ("deeds", .ref d), ("answers", .ref n), ("ranks", .ref r), ("others", .ref ot)]
        (baseR L zs k kt bx inner sm lsf cka c t vs bag lf te2 ++ (tabCh 118 te ++ ((ot, LstP (os.map Z.v)) :: ext1 zs ps a d n r refs bagD rvs))) → Run prog w A (execs (A_law.body.drop 12) (lawEnv L f)) h Q) :
    Run prog w A (execs (A_law.body.drop 10) (lawEnv L f)) h Q := by
  have n1 := F.n1
  have n2 := F.n2
  -- others
  refine r_cons (r_AssignName ?_)
  refine r_Call ?_
  refine r_builtin gl S.gh kf.g_list boot_list ?_
  refine r_typ ?_
  refine r_args (r_cell (c := L + 2) rfl (S.get (c := (L + 2, CellP (some (.ref sm)))) (List.mem_append_left _ (.tail _ (.tail _ (.tail _ (.tail _ (.tail _ (.head _)))))))) ?_)
  refine r_args0 ?_
  refine c_list (items := zs.map Z.v) S (LstP.isList (S.get (List.mem_append_left _ (.tail _ (.tail _ (.tail _ (.tail _ (.tail _ (.tail _ (.tail _ (.head _))))))))))) (by rw [List.length_map]; lia) fun ot h S => ?_
  refine r_store S fun h S => ?_
  walk_at "nx"
  -- for turn in range(5)
  refine r_For ?_
  refine r_Call ?_
  refine r_builtin gl S.gh kf.g_range boot_range ?_
  refine r_typ ?_
  refine r_args (r_int fun t5 => ?_)
  refine r_args0 ?_
  refine c_range S fun rg h S => ?_
  refine i_range (n := 5) (by decide) S (S.has Pick.head) fun I h S => ?_
  refine for_turns (fun m h => ∀ C : Prop, (∀ (i : Nat) (c' : Int) (t' : Tok) (vs' : List Value) (os : List Z) (lo : List (Str × Value)), m = 5 - i → i ≤ 5 → c' = c + 2 * (i : Nat) → LF zs k cka c' vs' bag te te2 → os.Perm zs →
      AllIn lo [("many", .int zs.length tn), ("begin", .int begin_ tb), ("whole", .ref a), ("deeds", .ref d), ("answers", .ref n), ("ranks", .ref r), ("others", .ref ot)] →
      St G B L h lo ((I, RiP (i : Nat) ((5 - i : Nat) : Int)) :: (ot, LstP (os.map Z.v)) :: (baseR L zs k kt bx inner sm lsf cka c' t' vs' bag lf te2 ++ (tabCh 118 te ++ ext1 zs ps a d n r refs bagD rvs))) → C) → C) 5
    (fun _ kk => kk 0 c t vs zs _ rfl (by decide) (by lia) F (List.Perm.refl _) ⟨rfl, rfl, rfl, rfl, rfl, rfl, rfl, trivial⟩ ((S.perm (nw' := (rg, RngP 5) :: ((I, RiP ((0 : Nat) : Int) ((5 - 0 : Nat) : Int)) :: (ot, LstP (zs.map Z.v)) :: (baseR L zs k kt bx inner sm lsf cka c t vs bag lf te2 ++ (tabCh 118 te ++ ext1 zs ps a d n r refs bagD rvs)))) ?_).drop1)) fun T nx m h hI => hI _ fun i c' t' vs' os lo hm hi5 hc' F hos al S => ?_
  · exact List.Perm.swap _ _ _
  clear hI
  by_cases hlt : i < 5
  · refine ri_next S Pick.head (by lia) fun tk h S => ?_
    dsimp only
    refine r_toName (r_store S fun h S => ?_)
    have al : AllIn (put "turn" (.int (i : Nat) tk) lo) _ := al.put rfl
    generalize put "turn" (.int (i : Nat) tk) lo = lo at S al
    obtain ⟨ns', hi', hn'⟩ := F.hv
    have hc0 := F.c0
    have hos' := hos.length_eq
    obtain ⟨RS, hRS⟩ : ∃ RS : List Ch, RS = (I, RiP ((i : Int) + 1) (((5 - i : Nat) : Int) - 1)) :: (L + 5, CellP (some (.ref lsf))) :: (L + 4, CellP lf) :: (L + 3, CellP (some (.int k kt))) :: (L + 2, CellP (some (.ref sm))) ::
      (sm, LstP (zs.map Z.v)) :: (lsf, FnP A_less "law.<locals>.less" [("kind", L + 3)] cka) :: (bag ++ (tabCh 130 te2 ++ (tabCh 118 te ++ ext1 zs ps a d n r refs bagD rvs))) := ⟨_, rfl⟩
    have S : St G B L h lo ((bx, LstP [.ref inner, .int c' t']) :: (inner, LstP vs') :: (L + 1, CellP (some (.ref bx))) :: (ot, LstP (os.map Z.v)) :: RS) := S.perm (by rw [hRS]; unfold baseR; walk_at "pm")
    -- here, there
    refine r_cons (r_AssignTupS (names := ["here", "there"]) ?_ rfl rfl)
    refine r_Tuple ?_
    refine r_args ?_
    refine r_Call ?_
    refine r_global gl S.gh kf.g_take ?_
    refine r_fn ?_
    refine r_args (r_cell (c := L + 1) rfl (S.get (c := (L + 1, CellP (some (.ref bx)))) (.tail _ (.tail _ (.head _)))) ?_)
    refine r_args (r_local S al.1 ?_)
    refine r_args0 ⟨(kf.f_take _ (gl.kin.keeps S.gh)).fun, ?_⟩
    refine call_take kf gl (room.less (by lia)) S hi' hn' (by lia) (by lia) fun ih t1 vs1 ns1 u1 h h0 h1 hi1 hn1 S => ?_
    refine r_args ?_
    refine r_Call ?_
    refine r_global gl S.gh kf.g_take ?_
    refine r_fn ?_
    refine r_args (r_cell (c := L + 1) rfl (S.get (c := (L + 1, CellP (some (.ref bx)))) (.tail _ (.tail _ (.head _)))) ?_)
    refine r_args (r_local S al.1 ?_)
    refine r_args0 ⟨(kf.f_take _ (gl.kin.keeps S.gh)).fun, ?_⟩
    refine call_take kf gl (room.less (by lia)) S hi1 hn1 (by lia) (by lia) fun it t2 vs2 ns2 u2 h g0 g1 hi2 hn2 S => ?_
    refine r_args0 ?_
    refine r_newTuple S fun p h S => ?_
    refine r_unpackItems room.hd S S.own.has rfl fun h S _ => ?_
    have S := S.drop1
    refine r_ord (r_bindName (r_store S fun h S => ?_))
    refine r_ord (r_bindName (r_store S fun h S => ?_))
    refine r_ordNil ?_
    have e1 : look "there" (put "here" (.int ih u1) (put "there" (.int it u2) lo)) = some (.int it u2) := by rw [look_put, if_neg (by decide), look_put, if_pos rfl]
    have e2 : look "here" (put "here" (.int ih u1) (put "there" (.int it u2) lo)) = some (.int ih u1) := by rw [look_put, if_pos rfl]
    have al : AllIn (put "here" (.int ih u1) (put "there" (.int it u2) lo)) _ := (al.put rfl).put rfl
    obtain ⟨lo2, hlo2⟩ : ∃ lo2, lo2 = put "here" (.int ih u1) (put "there" (.int it u2) lo) := ⟨_, rfl⟩
    rw [← hlo2] at S al e1 e2
    clear hlo2
    have e3 : look "others" lo2 = some (.ref ot) := al.2.2.2.2.2.2.1
    walk_at "nx"
    -- the exchange
    have S2 := S
    obtain ⟨jh, rfl⟩ := Int.eq_ofNat_of_zero_le h0
    obtain ⟨jt, rfl⟩ := Int.eq_ofNat_of_zero_le g0
    have S := S2
    have lh : jh < os.length := by lia
    have lt : jt < os.length := by lia
    have mo : (ot, LstP (os.map Z.v)) ∈ (bx, LstP [.ref inner, .int (c' + 1 + 1) t2]) :: (inner, LstP vs2) :: (L + 1, CellP (some (.ref bx))) :: (ot, LstP (os.map Z.v)) :: RS := .tail _ (.tail _ (.tail _ (.head _)))
    refine r_AssignTup ?_
    refine r_Tuple ?_
    refine r_args ?_
    refine r_Subscript (r_local S e3 (r_local S e1 ?_))
    refine t_list (v := os[jt].v) (S.get mo) (by lia) (by lia) (by simp [lt]) ?_
    refine r_args ?_
    refine r_Subscript (r_local S e3 (r_local S e2 ?_))
    refine t_list (v := os[jh].v) (S.get mo) (by lia) (by lia) (by simp [lh]) ?_
    refine r_args0 ?_
    refine r_newTuple S fun p h S => ?_
    refine r_assignTuple room.hd S S.own.has fun h S _ => ?_
    have S := S.drop1
    have S : St G B L h lo2 ((ot, LstP (os.map Z.v)) :: (bx, LstP [.ref inner, .int (c' + 1 + 1) t2]) :: (inner, LstP vs2) :: (L + 1, CellP (some (.ref bx))) :: RS) := S.perm (by walk_at "pm")
    refine r_ord (r_toSub (r_local S e3 (r_local S e2 ?_)))
    refine l_setItem S Pick.head (by lia) (by rw [List.length_map]; lia) (by rw [List.length_map]; lia) fun h S => ?_
    refine r_ord (r_toSub (r_local S e3 (r_local S e1 ?_)))
    refine l_setItem S Pick.head (by lia) (by rw [List.length_set, List.length_map]; lia) (by rw [List.length_set, List.length_map]; lia) fun h S => ?_
    refine r_ordNil ?_
    refine onw (r_nil ?_)
    have eo : ((os.map Z.v).set (Int.toNat (jh : Int)) os[jt].v).set (Int.toNat (jt : Int)) os[jh].v = ((os.set jh os[jt]).set jt os[jh]).map Z.v := by
      rw [Int.toNat_natCast, Int.toNat_natCast, List.map_set, List.map_set]
    rw [eo] at S
    have e4 : ((5 - i : Nat) : Int) - 1 = ((5 - (i + 1) : Nat) : Int) := by lia
    have e5 : (i : Int) + 1 = ((i + 1 : Nat) : Int) := rfl
    rw [e4, e5] at hRS
    subst hRS
    exact nx _ (5 - (i + 1)) _ (by lia) fun _ k' => k' (i + 1) (c' + 1 + 1) t2 vs2 ((os.set jh os[jt]).set jt os[jh]) lo2 rfl hlt (by lia) ⟨F.zb, n1, n2, F.zok, F.k0, ⟨ns2, hi2, hn2⟩, by lia, F.t118, F.t130, F.less⟩ ((swap_perm os lh lt).trans hos) al (S.perm (by unfold baseR; walk_at "pm"))
  · have : i = 5 := by lia
    subst this
    refine ri_end room.hd S Pick.head (by decide) fun h S => ?_
    refine onw ?_
    refine next c' t' vs' ot os h F hos ((S.perm ?_).to al)
    walk_at "pm"
end
end

/-! ### L7 -/
noncomputable section
open PySem PySem.W PyProof.Rows
set_option Elab.async false
set_option maxRecDepth 100000
section
variable {prog : Program} {w : World} {A : Around} {G B h h' : Heap} {K : Frag} {env : Env} {lo : List (Str × Value)} {nw rest extra : List Ch} {L : Addr} {zs : List Z} {k : Int} {kt : Tok} {bx inner sm lsf cka : Addr} {c : Int} {t : Tok} {vs : List Value} {bag : List Ch} {lf : Option Value} {te te2 : List TE}
theorem le_lt : ∀ {l : List Int}, l.Pairwise (· ≤ ·) → l.Nodup → l.Pairwise (· < ·)
  | [], _, _ => .nil
  | x :: r, h, n => by
    rw [List.pairwise_cons] at h ⊢
    rw [List.nodup_cons] at n
    exact ⟨fun y hy => by have := h.1 y hy; have : x ≠ y := fun e => n.1 (e ▸ hy); lia, le_lt h.2 n.2⟩
set_option maxHeartbeats 8000000 in
theorem law_again (kf : KF K) (kc : KC K) (gl : Gl K G) (gm : Gm G) (hc : CodeHd G 120 118) {f : Addr} {begin_ : Int} {tn tb : Tok} (room : Room A 30) (F : LF zs k cka c vs bag te te2)
    {Fu ff : Nat} {ps : PS} {a d n r ot : Addr} {refs : List Value} {bagD : List Ch} {rvs : List Value} (W : W1 zs k Fu ff ps refs bagD rvs) {os : List Z} (hos : os.Perm zs)
    (S : St G B L h [("many", .int zs.length tn), ("begin", .int begin_ tb), ("whole", .ref a), ("deeds", .ref d), ("answers", .ref n), ("ranks", .ref r), ("others", .ref ot)]
        (baseR L zs k kt bx inner sm lsf cka c t vs bag lf te2 ++ (tabCh 118 te ++ ((ot, LstP (os.map Z.v)) :: ext1 zs ps a d n r refs bagD rvs)))) {Q : Flow → Heap → Prop}
    (next : ∀ te h, LF zs k cka c vs bag te te2 →
      St G B L h [("many", .int zs.length tn), ("begin", .int begin_ tb), ("whole", .ref a), ("deeds", .ref d), ("answers", .ref n), ("ranks", .ref r)]
        (baseR L zs k kt bx inner sm lsf cka c t vs bag lf te2 ++ (tabCh 118 te ++ ext1 zs ps a d n r refs bagD rvs)) → Run prog w A (execs (A_law.body.drop 14) (lawEnv L f)) h Q) :
    Run prog w A (execs (A_law.body.drop 12) (lawEnv L f)) h Q := by
  have n1 := F.n1
  have n2 := F.n2
  have rmu := room.u64
  have osl := hos.length_eq
  refine r_cons (r_AssignName ?_)
  refine r_Subscript ?_
  refine r_Call ?_
  refine r_global gl S.gh kf.g_lsorted ?_
  refine r_fn ?_
  refine r_args (r_local S rfl ?_)
  refine r_args (r_local S rfl ?_)
  refine r_args (r_cell (c := L + 5) rfl (S.get (c := (L + 5, CellP (some (.ref lsf)))) (List.mem_append_left _ (.tail _ (.tail _ (.head _))))) ?_)
  refine r_args0 ⟨(kf.f_lsorted _ (gl.kin.keeps S.gh)).fun, ?_⟩
  refine law_sort (key := rk k) kf kc gl gm hc F (room.less (by lia)) S (zs' := os) (List.mem_append_right _ (.head _)) (by lia) (by lia)
    (fun G' s hr => less_ok kf (gl.up s) (base_less F hr).1 (base_less F hr).2.1 (fun i => base_pairs F hr _ (hos.mem_iff.mp (zf_mem (by lia) i))) F.k0) ?_
  intro Fu1 f1 ps1 sf1 p1 a1 d1 q1 te1 bag1 refs1 h ok1 da1 S
  have F := F.newTe ok1
  have hpm1 := (sorted_perm sf1).trans hos
  have hks1 := sorted_keys sf1
  generalize hws1 : ps1.lie.map (zf os) = ws1 at S hpm1 hks1
  refine r_int fun t0 => ?_
  refine t_tuple (i := 0) (S.get (List.mem_append_right _ (List.mem_append_right _ (.head _)))) (by decide) rfl ?_
  refine r_store S fun h S => ?_
  have S : St G B L h [("many", .int zs.length tn), ("begin", .int begin_ tb), ("whole", .ref a), ("deeds", .ref d), ("answers", .ref n), ("ranks", .ref r), ("again", .ref a1)]
      (baseR L zs k kt bx inner sm lsf cka c t vs bag lf te2 ++ (tabCh 118 te1 ++ ((a1, LstP (ws1.map Z.v)) :: ext1 zs ps a d n r refs bagD rvs))) :=
    ((S.perm (nw' := (baseR L zs k kt bx inner sm lsf cka c t vs bag lf te2 ++ (tabCh 118 te1 ++ ((a1, LstP (ws1.map Z.v)) :: ext1 zs ps a d n r refs bagD rvs))) ++ ((p1, TupP [.ref a1, .ref d1, .ref q1]) :: (d1, LstP refs1) :: (q1, LstP (boolV ps1.ans)) :: (ot, LstP (os.map Z.v)) :: bag1)) (by walk_at "pm")).drop).to
      ⟨rfl, rfl, rfl, rfl, rfl, rfl, rfl, trivial⟩
  walk_at "nx"
  -- if _law_ranks(kind, again) != ranks or (kind == 3 and again != whole)
  have wsl := hpm1.length_eq
  refine r_If ?_
  refine r_or ?_
  refine r_testCmp ?_
  refine r_Call ?_
  refine r_global gl S.gh kf.g_ranks ?_
  refine r_fn ?_
  refine r_args (r_cell (c := L + 3) rfl (S.get (c := (L + 3, CellP (some (.int k kt)))) (List.mem_append_left _ (.tail _ (.tail _ (.tail _ (.tail _ (.head _))))))) ?_)
  refine r_args (r_local S rfl ?_)
  refine r_args0 ⟨(kf.f_ranks _ (gl.kin.keeps S.gh)).fun, ?_⟩
  refine call_ranks kf gl (room.less (by lia)) S (zs := ws1) (List.mem_append_right _ (List.mem_append_right _ (.head _))) (fun h hr z hz => base_pairs F hr z (hpm1.mem_iff.mp hz)) (by lia) F.k0 fun R vsR h hR S => ?_
  refine r_local S rfl ?_
  have mr : (r, LstP rvs) ∈ (R, LstP vsR) :: (baseR L zs k kt bx inner sm lsf cka c t vs bag lf te2 ++ (tabCh 118 te1 ++ ((a1, LstP (ws1.map Z.v)) :: ext1 zs ps a d n r refs bagD rvs))) :=
    .tail _ (List.mem_append_right _ (List.mem_append_right _ (.tail _ (.tail _ (.tail _ (.tail _ (.head _)))))))
  refine c_neD (lst_reads (S.get (.head _)) (intsAre_rd hR)) (lst_reads (S.get mr) (intsAre_rd W.rv)) (ke_shaped_ints _) (ke_shaped_ints _) rmu ?_
  have pmw := sorted_perm W.sf
  have stw := sorted_keys W.sf
  have eR : ws1.map (rk k) = (ps.lie.map (zf zs)).map (rk k) := lks_uniq ((hpm1.trans pmw.symm).map (rk k)) hks1 stw
  rw [eR, ints_refl]
  refine r_truthB ?_
  rw [show (!true) = false from rfl, if_neg Bool.false_ne_true]
  have fin : ∀ h, St G B L h [("many", .int zs.length tn), ("begin", .int begin_ tb), ("whole", .ref a), ("deeds", .ref d), ("answers", .ref n), ("ranks", .ref r), ("again", .ref a1)]
      ((R, LstP vsR) :: (baseR L zs k kt bx inner sm lsf cka c t vs bag lf te2 ++ (tabCh 118 te1 ++ ((a1, LstP (ws1.map Z.v)) :: ext1 zs ps a d n r refs bagD rvs)))) → Run prog w A (execs [] (lawEnv L f)) h (Onward prog w A (lawEnv L f) (A_law.body.drop 14) Q) := by
    intro h S
    refine r_nil ?_
    refine onw ?_
    exact next te1 h F (((S.perm (nw' := (baseR L zs k kt bx inner sm lsf cka c t vs bag lf te2 ++ (tabCh 118 te1 ++ ext1 zs ps a d n r refs bagD rvs)) ++ [(R, LstP vsR), (a1, LstP (ws1.map Z.v))]) (by walk_at "pm")).drop).to ⟨rfl, rfl, rfl, rfl, rfl, rfl, trivial⟩)
  refine r_or ?_
  refine r_and ?_
  refine r_testCmp ?_
  refine r_cell (c := L + 3) rfl (S.get (c := (L + 3, CellP (some (.int k kt)))) (.tail _ (List.mem_append_left _ (.tail _ (.tail _ (.tail _ (.tail _ (.head _)))))))) ?_
  refine r_int fun t3 => ?_
  refine c_eqI ?_
  refine r_truthB ?_
  by_cases hk3 : k = 3
  · rw [decide_eq_true hk3, if_pos rfl]
    subst hk3
    refine r_and ?_
    refine r_testCmp ?_
    refine r_local S rfl ?_
    refine r_local S rfl ?_
    have elex : ∀ l : List Z, l.map (rk 3) = l.map lexK := fun l => rfl
    have ndz := lex_nodup F.zok n2
    have ew : ws1 = ps.lie.map (zf zs) := perm_eq lexK (hpm1.trans pmw.symm) (le_lt (elex ws1 ▸ hks1) ((hpm1.map lexK).nodup_iff.mpr ndz)) (le_lt (elex _ ▸ stw) ((pmw.map lexK).nodup_iff.mpr ndz))
    have hp1 : ∀ z ∈ ws1, PairIn h z := fun z hz => base_pairs F (fun d hd => S.get (.tail _ hd)) z (hpm1.mem_iff.mp hz)
    refine c_neD (lst_reads (S.get (.tail _ (List.mem_append_right _ (List.mem_append_right _ (.head _))))) (pairIn_rd hp1)) (lst_reads (S.get (.tail _ (List.mem_append_right _ (List.mem_append_right _ (.tail _ (.head _)))))) (pairIn_rd (ew ▸ hp1))) (zD_shaped _) (zD_shaped _) rmu ?_
    rw [← ew, show PyData.eqv (.list (ws1.map fun z => PyData.tuple [.int z.a, .int z.b])) (.list (ws1.map fun z => PyData.tuple [.int z.a, .int z.b])) = true from zD_refl ws1]
    refine r_truthB ?_
    rw [show (!true) = false from rfl, if_neg Bool.false_ne_true, if_neg Bool.false_ne_true]
    refine r_or0 ?_
    rw [if_neg Bool.false_ne_true]
    exact fin _ S
  · rw [decide_eq_false hk3, if_neg Bool.false_ne_true, if_neg Bool.false_ne_true]
    refine r_or0 ?_
    rw [if_neg Bool.false_ne_true]
    exact fin _ S
end
end

/-! ### L8 -/
noncomputable section
open PySem PySem.W PyProof.Rows
set_option Elab.async false
set_option maxRecDepth 100000
section
variable {prog : Program} {w : World} {A : Around} {G B h h' : Heap} {K : Frag} {env : Env} {lo : List (Str × Value)} {nw rest extra : List Ch} {L : Addr} {zs : List Z} {k : Int} {kt : Tok} {bx inner sm lsf cka : Addr} {c : Int} {t : Tok} {vs : List Value} {bag : List Ch} {lf : Option Value} {te te2 : List TE}
theorem InTab.mono {l l' : List TE} {ca : Addr} {q : Str} (x : InTab l ca q) (k : ∀ e ∈ l, e ∈ l') : InTab l' ca q := let ⟨e, he, h1, h2⟩ := x; ⟨e, k e he, h1, h2⟩
theorem LF.newT {te2' : List TE} (F : LF zs k cka c vs bag te te2) (ok : TeOk qofL te2') (inc : ∀ e ∈ te2, e ∈ te2') : LF zs k cka c vs bag te te2' := ⟨F.zb, F.n1, F.n2, F.zok, F.k0, F.hv, F.c0, F.t118, ok, F.less.mono inc⟩
theorem base_code {h : Heap} (hr : ∀ d ∈ baseR L zs k kt bx inner sm lsf cka c t vs bag lf te2 ++ extra, Has h d) {ca : Addr} {q : Str} (x : InTab te2 ca q) : Has h (ca, CodeP q) := by
  obtain ⟨e, he, h1, h2⟩ := x
  subst h1
  rw [← h2]
  exact hr _ (List.mem_append_left _ (.tail _ (.tail _ (.tail _ (.tail _ (.tail _ (.tail _ (.tail _ (.tail _ (.tail _ (List.mem_append_right _ (List.mem_cons_of_mem _ (List.mem_map.mpr ⟨e, he, rfl⟩)))))))))))))
set_option maxHeartbeats 8000000 in
theorem law_turned (kf : KF K) (kc : KC K) (gl : Gl K G) (gm : Gm G) (hc : CodeHd G 120 118) (hc2 : CodeHd G 132 130) {f : Addr} {begin_ : Int} {tn tb : Tok} (room : Room A 30) (F : LF zs k cka c vs bag te te2)
    {Fu ff : Nat} {ps : PS} {a d n r : Addr} {refs : List Value} {bagD : List Ch} {rvs : List Value} (W : W1 zs k Fu ff ps refs bagD rvs)
    (S : St G B L h [("many", .int zs.length tn), ("begin", .int begin_ tb), ("whole", .ref a), ("deeds", .ref d), ("answers", .ref n), ("ranks", .ref r)]
        (baseR L zs k kt bx inner sm lsf cka c t vs bag lf te2 ++ (tabCh 118 te ++ ext1 zs ps a d n r refs bagD rvs))) {Q : Flow → Heap → Prop}
    (next : ∀ te te2 h, LF zs k cka c vs bag te te2 →
      St G B L h [("many", .int zs.length tn), ("begin", .int begin_ tb), ("whole", .ref a), ("deeds", .ref d), ("answers", .ref n)]
        (baseR L zs k kt bx inner sm lsf cka c t vs bag lf te2 ++ (tabCh 118 te ++ ext1 zs ps a d n r refs bagD rvs)) → Run prog w A (execs (A_law.body.drop 16) (lawEnv L f)) h Q) :
    Run prog w A (execs (A_law.body.drop 14) (lawEnv L f)) h Q := by
  have n1 := F.n1
  have n2 := F.n2
  have rmu := room.u64
  refine r_cons (r_AssignName ?_)
  refine r_Subscript ?_
  refine r_Call ?_
  refine r_global gl S.gh kf.g_lsorted ?_
  refine r_fn ?_
  refine r_args (r_cell (c := L + 2) rfl (S.get (c := (L + 2, CellP (some (.ref sm)))) (List.mem_append_left _ (.tail _ (.tail _ (.tail _ (.tail _ (.tail _ (.head _)))))))) ?_)
  refine r_args (r_local S rfl ?_)
  refine r_args ?_
  have S : St G B L h [("many", .int zs.length tn), ("begin", .int begin_ tb), ("whole", .ref a), ("deeds", .ref d), ("answers", .ref n), ("ranks", .ref r)]
      (tabCh 130 te2 ++ ((bx, LstP [.ref inner, .int c t]) :: (inner, LstP vs) :: (L + 5, CellP (some (.ref lsf))) :: (L + 4, CellP lf) :: (L + 3, CellP (some (.int k kt))) :: (L + 2, CellP (some (.ref sm))) :: (L + 1, CellP (some (.ref bx))) ::
    (sm, LstP (zs.map Z.v)) :: (lsf, FnP A_less "law.<locals>.less" [("kind", L + 3)] cka) :: (bag ++ (tabCh 118 te ++ ext1 zs ps a d n r refs bagD rvs)))) := S.perm (by unfold baseR; walk_at "pm")
  refine r_Lambda (a := A_lamT) ?_ rfl
  rw [show (lawEnv L f).qual ++ ("<lambda>" : Str) = "law.<locals>.<lambda>" by kernel_rfl]
  refine r_makeLam (qof := qofL) (cl := [("less", L + 5)]) gm S hc2 F.t130 rfl rfl rfl rfl fun g cg te2' h ok2 inc2 in2 S => ?_
  have F := F.newT ok2 inc2
  have S : St G B L h [("many", .int zs.length tn), ("begin", .int begin_ tb), ("whole", .ref a), ("deeds", .ref d), ("answers", .ref n), ("ranks", .ref r)]
      (baseR L zs k kt bx inner sm lsf cka c t vs bag lf te2' ++ (tabCh 118 te ++ ((g, LamP A_lamT "law.<locals>.<lambda>" [("less", L + 5)] cg) :: ext1 zs ps a d n r refs bagD rvs))) := S.perm (by unfold baseR; walk_at "pm")
  refine r_args0 ⟨(kf.f_lsorted _ (gl.kin.keeps S.gh)).fun, ?_⟩
  refine law_sort (key := fun z => - rk k z) kf kc gl gm hc F (room.less (by lia)) S (zs' := zs) (List.mem_append_left _ (.tail _ (.tail _ (.tail _ (.tail _ (.tail _ (.tail _ (.tail _ (.head _))))))))) (by lia) n2
    (fun G' s hr => turned_ok kf (gl.up s) (LamP.is (hr _ (List.mem_append_right _ (.head _))) (base_code hr in2)) (base_less F hr).2.2.1 (base_less F hr).1 (base_less F hr).2.1 (fun i => base_pairs F hr _ (zf_mem (by lia) i)) F.k0) ?_
  intro Fu1 f1 ps1 sf1 p1 a1 d1 q1 te1 bag1 refs1 h ok1 da1 S
  have F := F.newTe ok1
  have hpm1 := sorted_perm (key := fun z => - rk k z) sf1
  have hks1 := sorted_keys (key := fun z => - rk k z) sf1
  generalize hws1 : ps1.lie.map (zf zs) = ws1 at S hpm1 hks1
  refine r_int fun t0 => ?_
  refine t_tuple (i := 0) (S.get (List.mem_append_right _ (List.mem_append_right _ (.head _)))) (by decide) rfl ?_
  refine r_store S fun h S => ?_
  have S : St G B L h [("many", .int zs.length tn), ("begin", .int begin_ tb), ("whole", .ref a), ("deeds", .ref d), ("answers", .ref n), ("ranks", .ref r), ("turned", .ref a1)]
      (baseR L zs k kt bx inner sm lsf cka c t vs bag lf te2' ++ (tabCh 118 te1 ++ ((a1, LstP (ws1.map Z.v)) :: ext1 zs ps a d n r refs bagD rvs))) :=
    ((S.perm (nw' := (baseR L zs k kt bx inner sm lsf cka c t vs bag lf te2' ++ (tabCh 118 te1 ++ ((a1, LstP (ws1.map Z.v)) :: ext1 zs ps a d n r refs bagD rvs))) ++ ((p1, TupP [.ref a1, .ref d1, .ref q1]) :: (d1, LstP refs1) :: (q1, LstP (boolV ps1.ans)) :: (g, LamP A_lamT "law.<locals>.<lambda>" [("less", L + 5)] cg) :: bag1)) (by walk_at "pm")).drop).to
      ⟨rfl, rfl, rfl, rfl, rfl, rfl, rfl, trivial⟩
  walk_at "nx"
  -- if _law_ranks(kind, turned) != ranks[::-1]
  have wsl := hpm1.length_eq
  refine r_If ?_
  refine r_testCmp ?_
  refine r_Call ?_
  refine r_global gl S.gh kf.g_ranks ?_
  refine r_fn ?_
  refine r_args (r_cell (c := L + 3) rfl (S.get (c := (L + 3, CellP (some (.int k kt)))) (List.mem_append_left _ (.tail _ (.tail _ (.tail _ (.tail _ (.head _))))))) ?_)
  refine r_args (r_local S rfl ?_)
  refine r_args0 ⟨(kf.f_ranks _ (gl.kin.keeps S.gh)).fun, ?_⟩
  refine call_ranks kf gl (room.less (by lia)) S (zs := ws1) (List.mem_append_right _ (List.mem_append_right _ (.head _))) (fun h hr z hz => base_pairs F hr z (hpm1.mem_iff.mp hz)) (by lia) F.k0 fun R vsR h hR S => ?_
  have mr : (r, LstP rvs) ∈ (R, LstP vsR) :: (baseR L zs k kt bx inner sm lsf cka c t vs bag lf te2' ++ (tabCh 118 te1 ++ ((a1, LstP (ws1.map Z.v)) :: ext1 zs ps a d n r refs bagD rvs))) :=
    .tail _ (List.mem_append_right _ (List.mem_append_right _ (.tail _ (.tail _ (.tail _ (.tail _ (.head _)))))))
  have rvl : rvs.length = zs.length := by rw [W.rv.length, List.length_map, (sorted_perm W.sf).length_eq]
  refine r_sliceRev (items := rvs) S (LstP.isList (S.get mr)) (by lia) (pe_local S rfl rfl) (r_USub (r_int fun t1 => ⟨1, t1, rfl, fun u => ⟨rfl, u, rfl⟩⟩)) fun RR h S => ?_
  refine c_neD (lst_reads (S.get (.tail _ (.head _))) (intsAre_rd hR)) (lst_reads (S.get (.head _)) (intsAre_rd W.rv.reverse)) (ke_shaped_ints _) (ke_shaped_ints _) rmu ?_
  have pmw := sorted_perm W.sf
  have stw := sorted_keys W.sf
  have eR : ws1.map (rk k) = ((ps.lie.map (zf zs)).map (rk k)).reverse := by
    have h1 : (ws1.map (rk k)).reverse.Pairwise (· ≤ ·) := by
      rw [List.pairwise_reverse, List.pairwise_map]
      rw [List.pairwise_map] at hks1
      exact hks1.imp fun h => by lia
    have h2 := lks_uniq ((List.reverse_perm _).trans ((hpm1.trans pmw.symm).map (rk k))) h1 stw
    rw [← h2, List.reverse_reverse]
  rw [eR, ints_refl]
  refine r_truthB ?_
  rw [show (!true) = false from rfl, if_neg Bool.false_ne_true]
  refine r_nil ?_
  refine onw ?_
  exact next te1 te2' h F (((S.perm (nw' := (baseR L zs k kt bx inner sm lsf cka c t vs bag lf te2' ++ (tabCh 118 te1 ++ ext1 zs ps a d n r refs bagD rvs)) ++ [(RR, LstP rvs.reverse), (R, LstP vsR), (a1, LstP (ws1.map Z.v))]) (by walk_at "pm")).drop).to ⟨rfl, rfl, rfl, rfl, rfl, trivial⟩)
end
end

/-! ### L9 -/
noncomputable section
open PySem PySem.W PyProof.Rows
set_option Elab.async false
set_option maxRecDepth 100000
noncomputable def deedD (d : Nat × Int) : PyData := .tuple [.str (deedName d.1), .int d.2]
theorem DeedsAre.view {refs bag ds} {h : Heap} (x : DeedsAre refs bag ds) (k : ∀ c ∈ bag, Has h c) : All2 (RD h) refs (ds.map deedD) := by
  induction x with
  | nil => exact .nil
  | cons _ ih => exact .cons (tup_reads (k _ (.head _)) (.cons ⟨[], .str _ _⟩ (.cons ⟨[], .int _ _⟩ .nil))) (ih fun c hc => k c (.tail _ hc))
theorem deed_name (n : Nat) : deedName n = "read" ∨ deedName n = "written" ∨ deedName n = "held" ∨ deedName n = "dropped" := by
  unfold deedName; split <;> simp
theorem deed_lay (d : Nat × Int) : PyData.canLay0 (deedD d) = true := by
  unfold deedD
  rcases deed_name d.1 with e | e | e | e <;> rw [e] <;> simp only [PyData.canLay0, PyData.canLayAll0, Bool.and_true] <;> kernel_rfl
theorem deeds_lay : ∀ ds : List (Nat × Int), PyData.canLayAll0 (ds.map deedD) = true
  | [] => rfl
  | d :: r => by simp only [List.map_cons, PyData.canLayAll0, deeds_lay r, deed_lay, Bool.and_self]
theorem deeds_depth : ∀ ds : List (Nat × Int), PyData.depthAll (ds.map deedD) ≤ 1
  | [] => by simp [PyData.depthAll]
  | d :: r => by
    have := deeds_depth r
    simp only [List.map_cons, PyData.depthAll, PyData.depth, deedD]
    lia
theorem deeds_shaped (ds : List (Nat × Int)) : SeqAt.shaped (.list (ds.map deedD)) = true := by
  have h := deeds_depth ds
  refine Bool.and_eq_true_iff.mpr ⟨?_, decide_eq_true ?_⟩
  · show PyData.canLay0 (.list _) = true
    simp only [PyData.canLay0, deeds_lay]
  · show PyData.depth (.list _) ≤ 64
    simp only [PyData.depth]
    lia
theorem shaped_refl {d : PyData} (h : SeqAt.shaped d = true) : PyData.eqv d d = true := PySem.SeqAt.eqv_refl _ (PySem.SeqAt.canLay_of_shaped h)
noncomputable def pickComp : Expr := exA ((exL (stV (lawS 18))).getD 2 noE)
section
variable {prog : Program} {w : World} {A : Around} {G B h h' : Heap} {K : Frag} {env : Env} {lo : List (Str × Value)} {nw rest extra : List Ch} {L : Addr} {zs : List Z} {k : Int} {kt : Tok} {bx inner sm lsf cka : Addr} {c : Int} {t : Tok} {vs : List Value} {bag : List Ch} {lf : Option Value} {te te2 : List TE}
theorem r_chain {l r₁ r₂ : Expr} {op₁ op₂ : CmpOp} {pos : Pos} {Q : Value → Heap → Prop}
    (q : Run prog w A (eval l env) h fun a h₁ => Run prog w A (eval r₁ env) h₁ fun b h₂ => Run prog w A (compareOp op₁ a b) h₂ fun c h₃ => Run prog w A (truthy c) h₃ fun t h₄ =>
      if t then Run prog w A (eval r₂ env) h₄ fun d h₅ => Run prog w A (compareOp op₂ b d) h₅ Q else Q c h₄)
    (hm : lastMarks [op₁, op₂] [r₁, r₂] = false := by with_unfolding_all rfl) : Run prog w A (eval (.Compare l [op₁, op₂] [r₁, r₂] pos) env) h Q := by
  intro s E Q' es k
  refine Compare_chain (rs := []) (ops := []) (q.wp es fun a _ r1 q1 => chain_link (q1.wp rfl fun b _ r2 q2 => q2.wp rfl fun c _ r3 q3 => q3.wp rfl fun t _ r4 q4 => ?_)) hm
  have r := ((r1.trans r2).trans r3).trans r4
  cases t with
  | false => exact k _ _ r q4
  | true =>
    rw [if_pos rfl] at q4 ⊢
    exact chain_last (q4.wp rfl fun d _ r5 q5 => q5.wp rfl fun v _ r6 q6 => k _ _ ((r.trans r5).trans r6) q6)
set_option maxHeartbeats 4000000 in
theorem pick_comp (gl : Gl K G) {f mv : Addr} {lie : List Nat} {val : Nat → Value} (room : Room A 3) (S : St G B L h lo nw) (hm : look "moved" lo = some (.ref mv)) (hmv : (mv, LstP (lie.map val)) ∈ nw) (hv : ∀ i ∈ lie, i < zs.length ∧ ∃ t, val i = .int i t) (hlen : lie.length ≤ 1000)
    (hzl : zs.length ≤ 1000) (hS : (L + 2, CellP (some (.ref sm))) ∈ nw) (hsm : (sm, LstP (zs.map Z.v)) ∈ nw) {Q : Value → Heap → Prop}
    (q : ∀ D h', St G B L h' lo ((D, LstP ((lie.map (zf zs)).map Z.v)) :: nw) → Q (.ref D) h') :
    Run prog w A (eval pickComp (lawEnv L f)) h Q := by
  refine r_ListComp (G := G) (cl := [("some", L + 2)]) ?_ rfl (by decide) rfl (by decide)
  refine r_local S hm ?_
  refine i_list S (LstP.isList (S.get hmv)) fun I h S _ => ?_
  refine comp_go [(I, LiP mv 0)] (fun v sub' => ∃ D, v = .ref D ∧ sub' = [(D, LstP ((lie.map (zf zs)).map Z.v))]) S.gh (own_gl (sub := [(I, LiP mv 0)]) (rest := nw) S) ?_ ?_
  · rintro v h' sub' ⟨D, rfl, rfl⟩ P
    exact q D h' (St.callee2 (sub := [(I, LiP mv 0)]) (rest := nw) S P)
  · intro R' hR B' C D h₁ bo S'
    have fz : ∀ c ∈ nw, Has B' c := fun c hc => by
      obtain ⟨oc, e1, e2⟩ := S.get (List.mem_cons_of_mem _ hc)
      refine ⟨oc, bo.keep _ _ e1 fun hm => ?_, e2⟩
      obtain ⟨d, hd, ed⟩ := List.mem_map.mp hm
      exact Own.apart (l := [(I, LiP mv 0)]) (r := nw) S.own hd hc ed
    have rm : A.handled = none := room.hd
    refine comp_turns (fun n h => ∀ C' : Prop, (∀ i lo, n = lie.length - i → i ≤ lie.length → St G B' C h lo [(I, LiP mv i), (D, LstP (((lie.take i).map (zf zs)).map Z.v))] → C') → C') lie.length (fun _ k => k 0 [] rfl (Nat.zero_le _) (S'.perm (List.Perm.swap _ _ _))) ?_ ?_
    · exact fun h hI Q hq => hI _ fun i lo _ _ S => i_again S.own.has hq
    · refine fun N Zf nx zz n h hI => hI _ fun i lo hn hi S => ?_
      clear hI
      have hlist : h.IsList mv (lie.map val).toArray := LstP.isList (S.keep.has (fz _ hmv))
      by_cases hlt : i < lie.length
      · obtain ⟨hb, tv, ev⟩ := hv lie[i] (List.getElem_mem hlt)
        have hget : lie[i]? = some lie[i] := List.getElem?_eq_getElem hlt
        refine i_next (v := val lie[i]) S Pick.head hlist (by rw [List.getElem?_map, hget]; rfl) fun h S => ?_
        dsimp only
        refine r_pure ?_
        refine r_toName (r_store S fun h S => ?_)
        refine r_Subscript ?_
        refine r_cell (c := L + 2) rfl (isCell_sub S.keep (fz _ hS)) ?_
        refine r_local S (by rw [look_put, if_pos rfl]) ?_
        rw [ev]
        refine t_list (v := (zf zs lie[i]).v) (S.keep.has (fz _ hsm)) (by lia) (by lia) (by rw [Int.toNat_natCast]; exact zf_get hb) ?_
        refine l_append S Pick.head.tail (by rw [List.length_map, List.length_map, List.length_take]; lia) fun h S => ?_
        have e1 : ((lie.take i).map (zf zs)).map Z.v ++ [(zf zs lie[i]).v] = ((lie.take (i + 1)).map (zf zs)).map Z.v := by
          rw [List.take_add_one, hget, List.map_append, List.map_append]; rfl
        rw [e1] at S
        exact nx _ (lie.length - (i + 1)) _ (by lia) fun _ k => k (i + 1) _ rfl hlt (S.perm (List.Perm.swap _ _ _))
      · have : i = lie.length := by lia
        subst this
        refine i_end rm S Pick.head hlist (by simp) fun h S => ?_
        refine zz _ [(D, LstP ((lie.map (zf zs)).map Z.v))] lo (hR _ _ ⟨D, rfl, rfl⟩) ?_
        rw [List.take_length] at S
        exact S
end
end

/-! ### L10 -/
noncomputable section
open PySem PySem.W PyProof.Rows
set_option Elab.async false
set_option maxRecDepth 100000
section
variable {prog : Program} {w : World} {A : Around} {G B h h' : Heap} {K : Frag} {env : Env} {lo : List (Str × Value)} {nw rest extra : List Ch} {L : Addr} {zs : List Z} {k : Int} {kt : Tok} {bx inner sm lsf cka : Addr} {c : Int} {t : Tok} {vs : List Value} {bag : List Ch} {lf : Option Value} {te te2 : List TE}
noncomputable def LawEnd (G B : Heap) (L : Addr) (fl : Flow) (h : Heap) : Prop := fl = .ret (.bool true) ∧ ∃ lo te te2 rest, St G B L h lo (tabCh 118 te ++ (tabCh 130 te2 ++ rest))
set_option maxHeartbeats 16000000 in
theorem law_replay (kf : KF K) (kc : KC K) (gl : Gl K G) (gm : Gm G) (hc : CodeHd G 120 118) (hc2 : CodeHd G 132 130) {f : Addr} {begin_ : Int} {tn tb : Tok} (room : Room A 30) (F : LF zs k cka c vs bag te te2)
    {Fu ff : Nat} {ps : PS} {a d n r : Addr} {refs : List Value} {bagD : List Ch} {rvs : List Value} (W : W1 zs k Fu ff ps refs bagD rvs)
    (S : St G B L h [("many", .int zs.length tn), ("begin", .int begin_ tb), ("whole", .ref a), ("deeds", .ref d), ("answers", .ref n)]
        (baseR L zs k kt bx inner sm lsf cka c t vs bag lf te2 ++ (tabCh 118 te ++ ext1 zs ps a d n r refs bagD rvs))) :
    Run prog w A (execs (A_law.body.drop 16) (lawEnv L f)) h (LawEnd G B L) := by
  have n1 := F.n1
  have n2 := F.n2
  have rmu := room.u64
  have sf := W.sf
  have hlo := sf.lo
  have hhi := sf.hi
  have hmul : zs.length * (zs.length + 8) ≤ 16 * (16 + 8) := Nat.mul_le_mul n2 (by lia)
  have ansl : ps.ans.length ≤ 96 := by lia
  have bvl : (boolV ps.ans).length = ps.ans.length := by unfold boolV; rw [List.length_map]
  -- left
  refine r_cons (r_AssignName ?_)
  refine r_Call ?_
  refine r_builtin gl S.gh kf.g_list boot_list ?_
  refine r_typ ?_
  refine r_args (r_local S rfl ?_)
  refine r_args0 ?_
  refine c_list (items := boolV ps.ans) S (LstP.isList (S.get (List.mem_append_right _ (List.mem_append_right _ (.tail _ (.tail _ (.head _))))))) (by lia) fun lt h S => ?_
  refine r_storeCell (c := L + 4) (v₀ := lf) S (rest := (lt, LstP (boolV ps.ans)) :: (bx, LstP [.ref inner, .int c t]) :: (inner, LstP vs) :: (L + 5, CellP (some (.ref lsf))) :: (L + 3, CellP (some (.int k kt))) :: (L + 2, CellP (some (.ref sm))) :: (L + 1, CellP (some (.ref bx))) ::
    (sm, LstP (zs.map Z.v)) :: (lsf, FnP A_less "law.<locals>.less" [("kind", L + 3)] cka) :: (bag ++ (tabCh 130 te2 ++ (tabCh 118 te ++ ext1 zs ps a d n r refs bagD rvs)))) (by unfold Pick baseR; walk_at "pm") rfl fun h S => ?_
  have S : St G B L h [("many", .int zs.length tn), ("begin", .int begin_ tb), ("whole", .ref a), ("deeds", .ref d), ("answers", .ref n)]
      (baseR L zs k kt bx inner sm lsf cka c t vs bag (some (.ref lt)) te2 ++ (tabCh 118 te ++ ((lt, LstP (boolV ps.ans)) :: ext1 zs ps a d n r refs bagD rvs))) := S.perm (by unfold baseR; walk_at "pm")
  walk_at "nx"
  -- moved, done, told
  refine r_AssignTup ?_
  refine r_Call ?_
  refine r_global gl S.gh kf.g_lsorted ?_
  refine r_fn ?_
  refine r_args ?_
  refine r_Call ?_
  refine r_builtin gl S.gh kf.g_list boot_list ?_
  refine r_typ ?_
  refine r_args ?_
  refine r_Call ?_
  refine r_builtin gl S.gh kf.g_range boot_range ?_
  refine r_typ ?_
  refine r_args (r_local S rfl ?_)
  refine r_args0 ?_
  refine c_range S fun rg h S => ?_
  refine r_args0 ?_
  refine c_listRange (n := zs.length) room.hd (by lia) S (S.has Pick.head) fun rl items h hil hit S => ?_
  refine r_args (r_local S rfl ?_)
  refine r_args ?_
  have S : St G B L h [("many", .int zs.length tn), ("begin", .int begin_ tb), ("whole", .ref a), ("deeds", .ref d), ("answers", .ref n)]
      (tabCh 130 te2 ++ ((bx, LstP [.ref inner, .int c t]) :: (inner, LstP vs) :: (L + 5, CellP (some (.ref lsf))) :: (L + 4, CellP (some (.ref lt))) :: (L + 3, CellP (some (.int k kt))) :: (L + 2, CellP (some (.ref sm))) :: (L + 1, CellP (some (.ref bx))) ::
    (sm, LstP (zs.map Z.v)) :: (lsf, FnP A_less "law.<locals>.less" [("kind", L + 3)] cka) :: (rl, LstP items) :: (rg, RngP zs.length) :: (bag ++ (tabCh 118 te ++ ((lt, LstP (boolV ps.ans)) :: ext1 zs ps a d n r refs bagD rvs))))) := S.perm (by unfold baseR; walk_at "pm")
  refine r_Lambda (a := A_lamR) ?_ rfl
  rw [show (lawEnv L f).qual ++ ("<lambda>" : Str) = "law.<locals>.<lambda>" by kernel_rfl]
  refine r_makeLam (qof := qofL) (cl := [("left", L + 4)]) gm S hc2 F.t130 rfl rfl rfl rfl fun g cg te2' h ok2 inc2 in2 S => ?_
  have F := F.newT ok2 inc2
  have S : St G B L h [("many", .int zs.length tn), ("begin", .int begin_ tb), ("whole", .ref a), ("deeds", .ref d), ("answers", .ref n)]
      ((tabCh 118 te ++ [(lt, LstP (boolV ps.ans))]) ++ (baseR L zs k kt bx inner sm lsf cka c t vs bag (some (.ref lt)) te2' ++ ((g, LamP A_lamR "law.<locals>.<lambda>" [("left", L + 4)] cg) :: (rl, LstP items) :: (rg, RngP zs.length) :: ext1 zs ps a d n r refs bagD rvs))) := S.perm (by unfold baseR; walk_at "pm")
  refine r_args0 ⟨(kf.f_lsorted _ (gl.kin.keeps S.gh)).fun, ?_⟩
  have hval : ∀ i, i < items.length → items[i]? = some (items.getD i .none) := fun i hi => by simp [hi]
  refine call_sorted kf kc gl gm hc (val := fun i => items.getD i .none) (o := repOra ps.ans) (SR := SRL lt ps.ans) (F := Fu) (f := ff) (ps' := ps) (room.less (by lia)) S F.t118 (List.mem_append_right _ (.tail _ (.head _))) (by lia) hval
    (fun G' s hr => replay_ok (gl.up s) (by lia) (LamP.is (hr _ (List.mem_append_right _ (.head _))) (base_code hr in2)) (base_less F hr).2.2.2) rfl sf.fuel (by rw [hil]; exact replay sf.run) (by rw [hil, sf.perm.length_eq, List.length_range]) ?_
  intro p a2 d2 q2 te1 bag2 subL' refs2 h ok1 da2 sr2 S
  cases sr2
  refine r_assignTuple room.hd S S.own.has fun h S _ => ?_
  refine r_ord (r_toName (r_store S fun h S => ?_))
  refine r_ord (r_toName (r_store S fun h S => ?_))
  refine r_ord (r_toName (r_store S fun h S => ?_))
  refine r_ordNil ?_
  generalize hval' : (fun i => items.getD i .none) = val at S hval
  have S : St G B L h [("many", .int zs.length tn), ("whole", .ref a), ("deeds", .ref d), ("answers", .ref n), ("moved", .ref a2), ("done", .ref d2), ("told", .ref q2)]
      (baseR L zs k kt bx inner sm lsf cka c t vs bag (some (.ref lt)) te2' ++ (tabCh 118 te1 ++ ((a2, LstP (ps.lie.map val)) :: (d2, LstP refs2) :: (q2, LstP (boolV ps.ans)) :: (bag2 ++ ext1 zs ps a d n r refs bagD rvs)))) :=
    ((S.perm (nw' := (baseR L zs k kt bx inner sm lsf cka c t vs bag (some (.ref lt)) te2' ++ (tabCh 118 te1 ++ ((a2, LstP (ps.lie.map val)) :: (d2, LstP refs2) :: (q2, LstP (boolV ps.ans)) :: (bag2 ++ ext1 zs ps a d n r refs bagD rvs)))) ++
      [(p, TupP [.ref a2, .ref d2, .ref q2]), (lt, LstP (boolV (ps.ans.drop ps.ans.length))), (g, LamP A_lamR "law.<locals>.<lambda>" [("left", L + 4)] cg), (rl, LstP items), (rg, RngP zs.length)]) (by walk_at "pm")).drop).to ⟨rfl, rfl, rfl, rfl, rfl, rfl, rfl, trivial⟩
  walk_at "nx"
  -- if done != deeds or told != answers or [some[at] for at in moved] != whole
  have m1 : ∀ {x : Ch}, x ∈ bag2 → x ∈ baseR L zs k kt bx inner sm lsf cka c t vs bag (some (.ref lt)) te2' ++ (tabCh 118 te1 ++ ((a2, LstP (ps.lie.map val)) :: (d2, LstP refs2) :: (q2, LstP (boolV ps.ans)) :: (bag2 ++ ext1 zs ps a d n r refs bagD rvs))) :=
    fun hc => List.mem_append_right _ (List.mem_append_right _ (.tail _ (.tail _ (.tail _ (List.mem_append_left _ hc)))))
  have m2 : ∀ {x : Ch}, x ∈ ext1 zs ps a d n r refs bagD rvs → x ∈ baseR L zs k kt bx inner sm lsf cka c t vs bag (some (.ref lt)) te2' ++ (tabCh 118 te1 ++ ((a2, LstP (ps.lie.map val)) :: (d2, LstP refs2) :: (q2, LstP (boolV ps.ans)) :: (bag2 ++ ext1 zs ps a d n r refs bagD rvs))) :=
    fun hc => List.mem_append_right _ (List.mem_append_right _ (.tail _ (.tail _ (.tail _ (List.mem_append_right _ hc)))))
  refine r_If ?_
  refine r_or ?_
  refine r_testCmp ?_
  refine r_local S rfl ?_
  refine r_local S rfl ?_
  refine c_neD (lst_reads (S.get (List.mem_append_right _ (List.mem_append_right _ (.tail _ (.head _))))) (da2.view fun c hc => S.get (m1 hc))) (lst_reads (S.get (m2 (.tail _ (.head _)))) (W.da.view fun c hc => S.get (m2 (.tail _ (.tail _ (.tail _ (.tail _ hc))))))) (deeds_shaped _) (deeds_shaped _) rmu ?_
  rw [shaped_refl (deeds_shaped _)]
  refine r_truthB ?_
  rw [show (!true) = false from rfl, if_neg Bool.false_ne_true]
  refine r_or ?_
  refine r_testCmp ?_
  refine r_local S rfl ?_
  refine r_local S rfl ?_
  refine c_neD (lst_reads (S.get (List.mem_append_right _ (List.mem_append_right _ (.tail _ (.tail _ (.head _)))))) (boolV_rd _)) (lst_reads (S.get (m2 (.tail _ (.tail _ (.head _))))) (boolV_rd _)) (bools_shaped _) (bools_shaped _) rmu ?_
  rw [shaped_refl (bools_shaped _)]
  refine r_truthB ?_
  rw [show (!true) = false from rfl, if_neg Bool.false_ne_true]
  refine r_or ?_
  refine r_testCmp ?_
  refine pick_comp (zs := zs) (sm := sm) (mv := a2) (lie := ps.lie) (val := val) gl (room.less (by lia)) S rfl (List.mem_append_right _ (List.mem_append_right _ (.head _))) (fun i hi => ?_) (by rw [sf.perm.length_eq, List.length_range]; lia) (by lia)
    (List.mem_append_left _ (.tail _ (.tail _ (.tail _ (.tail _ (.tail _ (.head _))))))) (List.mem_append_left _ (.tail _ (.tail _ (.tail _ (.tail _ (.tail _ (.tail _ (.tail _ (.head _))))))))) fun PD h S => ?_
  · have hi : i < zs.length := by simpa using sf.perm.mem_iff.mp hi
    obtain ⟨ti, hti⟩ := hit i hi
    refine ⟨hi, ti, ?_⟩
    have := hval i (by lia)
    rw [hti] at this
    rw [← hval']
    simp [hti]
  refine r_local S rfl ?_
  have pmw := sorted_perm sf
  have hpw : ∀ z ∈ ps.lie.map (zf zs), PairIn h z := fun z hz => base_pairs F (fun d hd => S.get (.tail _ hd)) z (pmw.mem_iff.mp hz)
  refine c_neD (lst_reads (S.get (.head _)) (pairIn_rd hpw)) (lst_reads (S.get (.tail _ (m2 (.head _)))) (pairIn_rd hpw)) (zD_shaped _) (zD_shaped _) rmu ?_
  rw [shaped_refl (show SeqAt.shaped (.list ((ps.lie.map (zf zs)).map fun z => PyData.tuple [.int z.a, .int z.b])) = true from zD_shaped _)]
  refine r_truthB ?_
  rw [show (!true) = false from rfl, if_neg Bool.false_ne_true]
  refine r_or0 ?_
  rw [if_neg Bool.false_ne_true]
  refine r_nil ?_
  walk_at "nx"
  -- return
  refine r_Return ?_
  refine r_chain ?_
  refine r_BinOp (r_local S rfl (r_int fun t1 => r_sub fun t2 => ?_))
  refine r_Call ?_
  refine r_builtin gl S.gh kf.g_len boot_len ?_
  refine r_blt ?_
  refine r_args (r_local S rfl ?_)
  refine r_args0 ?_
  refine l_len (S.get (.tail _ (m2 (.tail _ (.tail _ (.head _)))))) (by lia) fun t3 => ?_
  refine (c_le _ _).mono ?_
  rintro _ _ ⟨rfl, rfl⟩
  rw [decide_eq_true (by rw [bvl]; lia)]
  refine r_truthB ?_
  rw [if_pos rfl]
  refine r_BinOp ?_
  refine r_BinOp (r_local S rfl ?_)
  refine r_BinOp (r_local S rfl (r_int fun t1 => r_add fun t2 => ?_))
  refine r_mul (mulOk (by lia)) fun t4 => ?_
  refine r_int fun t5 => r_fdiv (by decide) (by decide) fun t6 => ?_
  refine (c_le _ _).mono ?_
  rintro _ _ ⟨rfl, rfl⟩
  have h4 : (ps.ans.length : Int) * 4 ≤ (zs.length : Int) * ((zs.length : Int) + 8) := by
    have h5 : ((4 * ps.ans.length : Nat) : Int) ≤ ((zs.length * (zs.length + 8) : Nat) : Int) := Int.ofNat_le.mpr hhi
    rw [Int.natCast_mul, Int.natCast_mul, Int.natCast_add] at h5
    have e8 : ((8 : Nat) : Int) = 8 := rfl
    have e4 : ((4 : Nat) : Int) = 4 := rfl
    rw [e8, e4] at h5
    rw [Int.mul_comm]
    exact h5
  rw [decide_eq_true (by rw [bvl]; exact Int.le_ediv_of_mul_le (by decide) h4)]
  refine ret1 ⟨rfl, _, te1, te2', _, S.perm (nw' := tabCh 118 te1 ++ (tabCh 130 te2' ++ ((PD, LstP ((ps.lie.map (zf zs)).map Z.v)) :: (bx, LstP [.ref inner, .int c t]) :: (inner, LstP vs) :: (L + 5, CellP (some (.ref lsf))) :: (L + 4, CellP (some (.ref lt))) :: (L + 3, CellP (some (.int k kt))) :: (L + 2, CellP (some (.ref sm))) :: (L + 1, CellP (some (.ref bx))) ::
    (sm, LstP (zs.map Z.v)) :: (lsf, FnP A_less "law.<locals>.less" [("kind", L + 3)] cka) :: (bag ++ ((a2, LstP (ps.lie.map val)) :: (d2, LstP refs2) :: (q2, LstP (boolV ps.ans)) :: (bag2 ++ ext1 zs ps a d n r refs bagD rvs)))))) (by unfold baseR; walk_at "pm")⟩
end
end

/-! ### L11 -/
noncomputable section
open PySem PySem.W PyProof.Rows
set_option Elab.async false
set_option maxRecDepth 100000
section
variable {prog : Program} {w : World} {A : Around} {G B h : Heap} {K : Frag} {L : Addr}
theorem law_run (kf : KF K) (kc : KC K) (gl : Gl K G) (gm : Gm G) (hc : CodeHd G 120 118) (hc2 : CodeHd G 132 130) {l f : Addr} {vs : List Value} {ns : List Int} (room : Room A 30)
    (S : St G B L h [("script", .ref l)] (lawC L none none none none none ++ (tabCh 118 [] ++ tabCh 130 [])))
    (hl : G.IsList l vs.toArray) (hi : IntsAre vs ns) (hn : ns.length ≤ 63) : Run prog w A (execs A_law.body (lawEnv L f)) h (LawEnd G B L) := by
  refine law_start kf gl gm hc2 room S hl hi hn ?_
  intro zs k kt bx inner sm lsf cka c t vs' bag te2 half first begin_ tn tf tb th h F hcb hh1 hh2 S
  refine law_first (kt := kt) (bx := bx) (inner := inner) (sm := sm) (lsf := lsf) (t := t) (te := []) kf kc gl gm hc (lf := none) room F (S.perm (by unfold base baseR lawC; walk_at "pm")) ?_
  intro Fu ff ps a d n r refs bagD rvs te h W F S
  refine law_halves kf kc gl gm hc room F hh1 hh2 W S ?_
  intro te h F S
  refine law_others kf gl room F hcb S ?_
  intro c t vs ot os h F hos S
  refine law_again kf kc gl gm hc room F W hos S ?_
  intro te h F S
  refine law_turned kf kc gl gm hc hc2 room F W S ?_
  intro te te2 h F S
  exact law_replay kf kc gl gm hc hc2 room F W S
end
end

/-! ### J1 -/
noncomputable section
open PySem PySem.W PyProof.Rows
set_option Elab.async false
set_option maxRecDepth 100000
theorem isFn_of {K : Frag} {f : Addr} {a : FnAst} {qual : Str} {doc pm cdv ct oc : Value} {an od : Option Addr} {osl : Array (Option Value)}
  (ho : K.lookup f = some ⟨oc, od, .func (fnX a.name qual a.params a.body a.scope [] .none .none doc pm an cdv ct), osl⟩) (hcd : codeIn K cdv qual = true) : ∀ h, K.In h → IsFn h f a qual [] :=
  fun h X => ⟨_, doc, pm, an, cdv, ct, X _ _ ho, rfl, codeRec_of X hcd⟩
theorem isFnAt_of {K : Frag} {f : Addr} {a : FnAst} {qual : Str} {doc pm cdv ct oc : Value} {an od : Option Addr} {osl : Array (Option Value)}
  (ho : K.lookup f = some ⟨oc, od, .func (fnX a.name qual a.params a.body a.scope [] .none .none doc pm an cdv ct), osl⟩) (hcd : codeIn K cdv qual = true) : ∀ h, K.In h → IsFnAt h f a qual [] cdv :=
  fun h X => ⟨_, doc, pm, an, ct, X _ _ ho, rfl, codeRec_of X hcd⟩
theorem law_join {prog : Program} {w : World} {p : Program} {loose : List Str} {mean : ExcName → Option Value} {mg mb : Str → Option Value} {K : Frag} (kf : KF K) (kc : KC K) {g h₁ : Heap} {L fa l : Addr} {m : Str → Option Value} {o5 o4 o3 o2 o1 : Obj} {vs : List Value} {ns : List Int}
    {s : Shared} {Q : Flow → Shared → Prop} {E : Value → Shared → Prop} (X : K.In g) (T : Top p loose mean mg mb g) (F : Fr g L h₁ m) (hm : m "script" = some (.ref l))
    (N : News g L h₁ [(L + 5, o5), (L + 4, o4), (L + 3, o3), (L + 2, o2), (L + 1, o1), (118, tabObj #[]), (130, tabObj #[])]) (d5 : o5.data = .cell none) (d4 : o4.data = .cell none) (d3 : o3.data = .cell none) (d2 : o2.data = .cell none) (d1 : o1.data = .cell none)
    (hl : g.IsList l vs.toArray) (hi : IntsAre vs ns) (hn : ¬ (63 : Int) < ns.length) (c1 : CodeHd g 120 118) (c2 : CodeHd g 132 130) (hb : 118 < L ∧ 130 < L) (es : s.heap = h₁)
    (q : ∀ s', Rest s s' → Sub g s'.heap → GrownAll [(120, 118), (132, 130)] s'.heap → Q (.ret (.bool true)) s') :
    wpAny (model prog w) (callerA.deeper (lawEnv L fa)) (execs A_law.body (lawEnv L fa)) Q E s := by
  have gl : Gl K g := ⟨X, ⟨mg, mb, T.g, T.b, T.builtins⟩, T.nolimit⟩
  have gm : Gm g := let ⟨bm, ob, a1, a2, a3, a4, a5, a6⟩ := T.bmain; ⟨mg, bm, ob, T.g, a1, a2, a3, a4, a5, a6⟩
  have room : Room (callerA.deeper (lawEnv L fa)) 30 := ⟨rfl, by show 1 + claimMargin + 1 + 30 < 900; decide, by show 4 + 3 + 10 * 30 < 9000; decide⟩
  have S : St g g L h₁ [("script", .ref l)] (lawC L none none none none none ++ (tabCh 118 [] ++ tabCh 130 [])) := by
    refine .ofNews (Sub.refl g) F (fun x v e => ?_) N (.cons ⟨rfl, d5⟩ (.cons ⟨rfl, d4⟩ (.cons ⟨rfl, d3⟩ (.cons ⟨rfl, d2⟩ (.cons ⟨rfl, d1⟩ (.cons ⟨rfl, rfl⟩ (.cons ⟨rfl, rfl⟩ .nil))))))) ?_
    · unfold look at e
      by_cases hx : ("script" : Str) = x
      · subst hx; rw [if_pos rfl] at e; cases e; exact hm
      · rw [if_neg hx] at e; cases e
    · obtain ⟨b1, b2⟩ := hb
      have b1 : (118 : Nat) < (L : Nat) := b1
      have b2 : (130 : Nat) < (L : Nat) := b2
      show (([L + 5, L + 4, L + 3, L + 2, L + 1, 118, 130] : List Nat)).Nodup
      generalize (L : Nat) = L at b1 b2
      simp only [List.nodup_cons, List.mem_cons, List.not_mem_nil, or_false, not_or, not_false_eq_true, List.nodup_nil, and_true]
      lia
  refine (law_run kf kc gl gm c1 c2 (f := fa) room S hl hi (by lia)).wp es fun fl s' re e => ?_
  obtain ⟨rfl, lo, te, te2, rest, S'⟩ := e
  refine q s' re S'.keep ⟨?_, ?_, trivial⟩
  · obtain ⟨o, e, p⟩ := S'.get (c := (118, TabP te)) (List.mem_append_left _ (.head _))
    have p : o = _ := p
    subst p
    exact ⟨_, e⟩
  · obtain ⟨o, e, p⟩ := S'.get (c := (130, TabP te2)) (List.mem_append_right _ (List.mem_append_left _ (.head _)))
    have p : o = _ := p
    subst p
    exact ⟨_, e⟩
end

/-! ### Top0 -/
noncomputable section
open PySem PySem.W PyProof.Rows
set_option Elab.async false
set_option maxRecDepth 100000 in
set_option maxHeartbeats 8000000 in
open_top hd for PySem.Challenge.rw_sm0053_01
end

end Mine

/-! ### J0 -/
open PySem PySem.W PyProof.Rows
set_option Elab.async false
set_option maxRecDepth 100000
namespace Mine
set_option maxHeartbeats 4000000 in
theorem kf_hd (P : Params) : KF (hd.heap_39 P) := by
  constructor
  all_goals first | rfl | exact isFn_of rfl rfl
theorem kc_hd (P : Params) : KC (hd.heap_39 P) := ⟨isFnAt_of rfl rfl, rfl⟩
end Mine
set_option maxHeartbeats 8000000 in
theorem PySem.Challenge.cw_sm0053_01_holds : PySem.Challenge.rw_sm0053_01.Holds := by
  refine Mine.hd (by
    k_go0; (all_goals try k_fold)
    rename IntsAre _ _ => HI
    rename Heap.IsList (ghostOf _ _) _ _ => HL
    rename Top topProg _ _ _ _ _ => HT
    rename Frag.In _ (ghostOf _ _) => HX
    rename Fr (ghostOf _ _) _ _ _ => HF
    rename News (ghostOf _ _) _ _ _ => HN
    rename _ ∧ _ => HB
    refine Mine.law_join (Mine.kf_hd _) (Mine.kc_hd _) HX HT HF rfl HN (by assumption) (by assumption) (by assumption) (by assumption) (by assumption) HL HI (by assumption) (by assumption) (by assumption) HB rfl ?_
    intro s' re sb gr
    refine ⟨⟨.inl ⟨.bool true, .bool true, [], rfl, ?_, ?_, ?_, ?_⟩, sb, re.2.1, ?_⟩, gr⟩
    · intro _; rfl
    · exact ReadsW.bool true
    · first | wrow_post | exact postW_of (X := true) rfl rfl rfl
    · exact fun _ => ⟨List.Pairwise.nil, fun _ h => nomatch h⟩
    · exact re.1.trans (by assumption))
