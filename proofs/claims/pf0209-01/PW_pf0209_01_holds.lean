import PyProof.Rows.All
import Wide.All
import OpenK.AllK
import Wide.FinOn
import PySem.Challenge.RW_pf0209_01
open PySem PySem.W PyProof.Rows
set_option Elab.async false
set_option linter.unusedVariables false
set_option linter.unusedSimpArgs false
set_option bootstrap.genMatcherCode false
set_option genSizeOfSpec false
set_option compiler.extract_closed false
namespace Mine.Internal
section
set_option maxRecDepth 100000
set_option maxHeartbeats 8000000
noncomputable def vw : Program := { PySem.Challenge.pw_pf0209_01 with main := { PySem.Challenge.pw_pf0209_01.main with
  body := (PySem.Challenge.pw_pf0209_01.main.body.take 15).drop 1 ++ (PySem.Challenge.pw_pf0209_01.main.body.take 27).drop 16 ++ PySem.Challenge.pw_pf0209_01.main.body.drop 28 } }
theorem left_of_boot {p q : Program} {loose : List Str} {Xt : Shared → Bool} {α : Type} {Yf : Shared → α} {Ya : World → α} {N : Nat} (e : opening p = plainProg p.main.scope.names) (hN : Nat.ble 600 N = true) (f : ∀ s, fenceModules? p s = some s)
    (run : ∀ (w : World) (os : OsState), (topFrom treeTable p w N ⟨boot_heap w.params, Array.mk [], boot_drawn, boot_toks, os⟩).map (fun s => (openSeen q loose (importedModules p.main.body) Xt true s, Yf s)) = some (openGood q loose, Ya w)) : LeftO p q loose Xt Yf Ya N := fun w => by
  obtain ⟨⟨h, gs, d, k, os⟩, e1, e2⟩ := Option.map_eq_some_iff.mp (boot_open e hN f w)
  obtain ⟨rfl, rfl, rfl, rfl⟩ : h = boot_heap w.params ∧ gs = Array.mk [] ∧ d = boot_drawn ∧ k = boot_toks := by simpa using e2
  unfold openEnds
  rw [e1]
  exact run w os
theorem op_e : opening PySem.Challenge.pw_pf0209_01 = plainProg PySem.Challenge.pw_pf0209_01.main.scope.names := by kernel_rfl
theorem op_f : ∀ s, fenceModules? PySem.Challenge.pw_pf0209_01 s = some s := fun s => by kernel_rfl
theorem lawSaid : PySem.Challenge.rw_pf0209_01.wellSaid = true := by decide +kernel
theorem rowSaid : PySem.Challenge.rw_pf0209_01.row.wellSaid = true := row_said lawSaid
theorem lawL (h : PySem.Challenge.rw_pf0209_01.row.Holds) : PySem.Challenge.rw_pf0209_01.Holds := holds_law lawSaid fun _ => h
noncomputable def lawD : DefRec × List (Str × Expr) := (defOf vw PySem.Challenge.rw_pf0209_01.row.name).get (by kernel_rfl)
theorem headL (H : Hook) (run : ∀ (w : World) (os : OsState), (topFrom treeTable PySem.Challenge.pw_pf0209_01 w 3446 ⟨boot_heap w.params, Array.mk [], boot_drawn, boot_toks, os⟩).map (fun s => (openSeen vw [] (importedModules PySem.Challenge.pw_pf0209_01.main.body) (fun s => xlAt vw [] s && recOk (RowW.records (PySem.Challenge.rw_pf0209_01.row.toRowW)) s) true s, Hook.obs H s)) = some (openGood vw [], Hook.val H w))
    (hw : PySem.Challenge.rw_pf0209_01.row.toRowW.promised) (hc : WalkO vw [] (XL vw []) (Hook.says H) PySem.Challenge.rw_pf0209_01.row.toRowW lawD.1 lawD.2 fun f vs => PySem.call f vs) : PySem.Challenge.rw_pf0209_01.row.Holds :=
  PySem.W.holds_open (q := vw) (loose := []) (Xt := fun s => xlAt vw [] s && recOk (RowW.records (PySem.Challenge.rw_pf0209_01.row.toRowW)) s) (XP := XL vw []) (Yf := Hook.obs H) (Ya := Hook.val H) (YP := Hook.says H) (N := 3446) (d := lawD.1) (kwd := lawD.2) (left_of_boot op_e (by decide) op_f run) (Hook.of H) (Hook.keeps H) (fun s e => xl_of s (Bool.and_eq_true_iff.mp e).1) XL.keeps (by kernel_rfl) (by kernel_rfl) (by kernel_rfl) (fun s e => recFacts_of (Bool.and_eq_true_iff.mp e).2) (by rfl) rowSaid (by decide +kernel) ⟨rfl, rfl, rfl, rfl, rfl, by decide +kernel⟩ hw hc
set_option hygiene false in
local macro_rules | `(tactic| o_law) => `(tactic| apply lawL)
set_option hygiene false in
local macro_rules | `(tactic| o_head $H) => `(tactic| refine headL $H (fun w os => by kernel_rfl) ?hw ?hc)
open_top hd for PySem.Challenge.rw_pf0209_01
end
section
theorem nosm {α : Type} {x : α} {P : Prop} (e : (none : Option α) = some x) : P := nomatch e
theorem so1 {α : Type} {a v : α} {P : α → Prop} (e : some a = some v) (h : P a) : P v := Option.some.inj e ▸ h
theorem so2 {α β : Type} {a v : α} {b w : β} {P : α → β → Prop} (e : some (a, b) = some (v, w)) (h : P a b) : P v w := by cases e; exact h
theorem so3 {α β γ : Type} {a v : α} {b w : β} {c u : γ} {P : α → β → γ → Prop} (e : some (a, b, c) = some (v, w, u)) (h : P a b c) : P v w u := by cases e; exact h
theorem n_s2 {n r : Nat} (h : r + 1 ≤ n) : n - (r + 1) + 1 = n - r := by rw [Nat.sub_add_eq]; exact Nat.sub_add_cancel (Nat.le_sub_of_add_le (Nat.add_comm r 1 ▸ h))
theorem n_s3 {n r : Nat} (h : r + 1 ≤ n) : n - (r + 1) < n := Nat.sub_lt (Nat.lt_of_lt_of_le (Nat.succ_pos r) h) (Nat.succ_pos r)
theorem n_pred {m : Nat} (h : 1 ≤ m) : m = m - 1 + 1 := (Nat.sub_add_cancel h).symm
theorem n_sub1 {n i p : Nat} (h : i < n) (e : n - 1 - i = p) : p < n := e ▸ Nat.lt_of_le_of_lt (Nat.sub_le _ _) (Nat.sub_lt (Nat.zero_lt_of_lt h) Nat.one_pos)
theorem n_c0 {n b : Nat} (h : b ≤ n) : (n : Int) - (b : Int) = ((n - b : Nat) : Int) := (Int.ofNat_sub h).symm
theorem n_c1 {n : Nat} (h : 1 ≤ n) : (n : Int) - 1 = ((n - 1 : Nat) : Int) := n_c0 h
theorem n_c2 {n f : Nat} (h : f < n - 1) : (n : Int) - 1 - (f : Int) = ((n - 1 - f : Nat) : Int) := by rw [n_c1 (Nat.le_of_lt (Nat.lt_of_sub_pos (Nat.zero_lt_of_lt h)))]; exact n_c0 (Nat.le_of_lt h)
theorem n_c3 {n b : Nat} (h : b ≤ n) : (n : Int) - (b : Int) + 1 = ((n - b + 1 : Nat) : Int) := by rw [n_c0 h]; rfl
theorem n_a1 {n f d : Nat} (h : d < n - 1 - f) : f + 1 + d < n := by
  have h := Nat.add_lt_of_lt_sub (Nat.add_lt_of_lt_sub h)
  rw [Nat.add_comm (f + 1) d, ← Nat.add_assoc]; exact h
theorem n_a2 {n f d : Nat} (h : f ≤ n) (g : d < n - f + 1) : f + d ≤ n := Nat.add_le_of_le_sub' h (Nat.le_of_lt_succ g)
theorem n_p1 {n : Nat} (h : 5 ≤ n) : 0 < n - 1 := Nat.sub_pos_of_lt (Nat.lt_of_lt_of_le (by decide) h)
theorem n_el {a b : Nat} {P : Nat → Prop} (h : b ≤ a) (k : ∀ d, a = b + d → P d) : P (a - b) := by
  obtain ⟨d, rfl⟩ := Nat.exists_eq_add_of_le h
  rw [Nat.add_sub_cancel_left]; exact k d rfl
theorem n_l1 {a b m : Nat} (h : a + 1 + b ≤ m) : a + b ≤ m - 1 := Nat.le_sub_of_add_le (by rw [Nat.add_right_comm]; exact h)
inductive V where
  | none
  | bool (b : Bool)
  | int (i : Int)
  | str (s : List Nat)
  | tup (vs : List V)
  | ref (n : Nat)
  | range (a b c : Int)
  | vals (n : Nat)
  | opq
deriving Inhabited
inductive MO where
  | list (vs : List V)
  | dictI (kvs : List (Int × V))
  | dictS (kvs : List (List Nat × V))
  | inst (k : Nat)
  | attrs (rows names temps trys lives : V)
deriving Inhabited
abbrev R := List (Option V)
abbrev H := List MO
structure Ctx where
  prog : Program
  w : World
  K : Frag
  h₀ : Heap
  C : Addr
  p : Program
  loose : List Str
  mg : Str → Option Value
  mb : Str → Option Value
noncomputable def biNames : List Str := [Str.ofString "len", Str.ofString "range", Str.ofString "list", Str.ofString "tuple", Str.ofString "dict", Str.ofString "sorted", Str.ofString "max", Str.ofString "str", Str.ofString "repr"]
structure Ctx.Ok (X : Ctx) : Prop where
  nob : ∀ x ∈ biNames, nsIn X.K mainGlobals x = some none
  kin : X.K.In X.h₀
  top : TopRead X.p X.loose X.mg X.mb X.h₀
  ga : findIn X.K (.ref X.C) "__getattribute__" = some (some (.builtin "object.__getattribute__"))
  hd : hasDictIn X.K X.C = true
  at1 : findIn X.K (.ref X.C) "rows" = some none
  at2 : findIn X.K (.ref X.C) "names" = some none
  at3 : findIn X.K (.ref X.C) "temps" = some none
  at4 : findIn X.K (.ref X.C) "trys" = some none
  at5 : findIn X.K (.ref X.C) "lives" = some none
mutual
inductive VRel (h : Heap) (β : List Addr) : V → Value → Prop
  | none : VRel h β .none .none
  | bool (b : Bool) : VRel h β (.bool b) (.bool b)
  | int (i : Int) (t : Tok) : VRel h β (.int i) (.int i t)
  | str (s : Str) (t : Tok) : VRel h β (.str s.cps.toList) (.str s t)
  | tup {vs : List V} {a : Addr} {ws : List Value} : h.IsTuple a ws.toArray → VRels h β vs ws → VRel h β (.tup vs) (.ref a)
  | ref {n : Nat} {a : Addr} : β[n]? = some a → VRel h β (.ref n) (.ref a)
  | range {a b c : Int} {ta tb tc : Tok} {r : Addr} : h.get? r = some ⟨.type "range", none, .fields #[.int a ta, .int b tb, .int c tc], #[]⟩ → VRel h β (.range a b c) (.ref r)
  | vals {n : Nat} {a r : Addr} : β[n]? = some a → h.IsValuesView r a → VRel h β (.vals n) (.ref r)
  | opq (r : Addr) : VRel h β .opq (.ref r)
inductive VRels (h : Heap) (β : List Addr) : List V → List Value → Prop
  | nil : VRels h β [] []
  | cons {v : V} {r : Value} {vs : List V} {rs : List Value} : VRel h β v r → VRels h β vs rs → VRels h β (v :: vs) (r :: rs)
end
noncomputable def Imm (o : Obj) : Prop := (o.cls = .type "tuple" ∧ ∃ ws n, o.data = .seq ws n) ∨ (o.cls = .type "range" ∧ ∃ fs, o.data = .fields fs) ∨ (o.cls = .type "dict_values" ∧ ∃ fs, o.data = .fields fs)
structure Keep (S β : List Addr) (h : Heap) (β' : List Addr) (h' : Heap) : Prop where
  pre : ∃ t, β' = β ++ t ∧ ∀ a ∈ t, h.get? a = none
  keep : ∀ b o, h.get? b = some o → (b ∉ β ∧ b ∉ S) ∨ Imm o → h'.get? b = some o
structure Grow (S β : List Addr) (h : Heap) (β' : List Addr) (h' : Heap) : Prop extends Keep S β h β' h' where
  alive : ∀ b o, h.get? b = some o → ∃ o', h'.get? b = some o'
theorem Grow.mk' {S β h β' h'} (pre : ∃ t, β' = β ++ t ∧ ∀ a ∈ t, h.get? a = none) (keep : ∀ b o, h.get? b = some o → (b ∉ β ∧ b ∉ S) ∨ Imm o → h'.get? b = some o)
    (alive : ∀ b o, h.get? b = some o → ∃ o', h'.get? b = some o') : Grow S β h β' h' := ⟨⟨pre, keep⟩, alive⟩
theorem Grow.refl {S β h} : Grow S β h β h := Grow.mk' ⟨[], by simp, by simp⟩ (fun _ _ e _ => e) (fun _ o e => ⟨o, e⟩)
theorem Grow.fresh {S β h β' h'} (g : Grow S β h β' h') {a : Addr} (e : h'.get? a = none) : h.get? a = none := by
  cases q : h.get? a with
  | none => rfl
  | some o => obtain ⟨o', e'⟩ := g.alive a o q; rw [e] at e'; cases e'
theorem Grow.trans {S β h β' h' β'' h''} (g : Grow S β h β' h') (g' : Grow S β' h' β'' h'') : Grow S β h β'' h'' := by
  obtain ⟨t, rfl, ft⟩ := g.pre
  obtain ⟨t', rfl, ft'⟩ := g'.pre
  refine Grow.mk' ⟨t ++ t', by simp, fun a ha => ?_⟩ (fun b o e q => ?_) (fun b o e => ?_)
  · rcases List.mem_append.mp ha with ha | ha
    · exact ft a ha
    · exact g.fresh (ft' a ha)
  · refine g'.keep b o (g.keep b o e q) ?_
    rcases q with q | q
    · refine .inl ⟨fun m => ?_, q.2⟩
      rcases List.mem_append.mp m with m | m
      · exact q.1 m
      · rw [ft b m] at e; cases e
    · exact .inr q
  · obtain ⟨o', e'⟩ := g.alive b o e
    exact g'.alive b o' e'
theorem Grow.mono {S S' β h β' h'} (g : Grow S β h β' h') (hs : ∀ a ∈ S, a ∈ S') : Grow S' β h β' h' :=
  Grow.mk' g.pre (fun b o e q => g.keep b o e (q.imp (fun q => ⟨q.1, fun m => q.2 (hs b m)⟩) id)) g.alive
theorem Grow.nil {S β h β' h'} (g : Grow [] β h β' h') : Grow S β h β' h' := g.mono fun _ m => nomatch m
theorem Grow.drop {S β h β' h'} (g : Grow S β h β' h') {S' : List Addr} (hs : ∀ a ∈ S, a ∈ S' ∨ h.get? a = none) : Grow S' β h β' h' :=
  Grow.mk' g.pre (fun b o e q => g.keep b o e (q.imp (fun q => ⟨q.1, fun m => by rcases hs b m with m | m; exact q.2 m; rw [m] at e; cases e⟩) id)) g.alive
theorem Keep.get {S β h β' h'} (g : Keep S β h β' h') {n : Nat} {a : Addr} (e : β[n]? = some a) : β'[n]? = some a := by
  obtain ⟨t, rfl, _⟩ := g.pre
  rw [List.getElem?_append_left (List.getElem?_eq_some_iff.mp e).1]; exact e
theorem Grow.push {S β} {h : Heap} (o : Obj) : Grow S β h β (h.push o) :=
  Grow.mk' ⟨[], by simp, by simp⟩ (fun _ _ e _ => Heap.get?_push_of_some o e) fun _ o' e => ⟨o', Heap.get?_push_of_some o e⟩
theorem size_fresh (h : Heap) : h.get? h.objs.size = none := by
  cases e : h.get? h.objs.size with
  | none => rfl
  | some o => exact absurd (Heap.lt_size e) (Nat.lt_irrefl _)
theorem Grow.pushNew {S β} {h : Heap} (o : Obj) : Grow S β h (β ++ [h.objs.size]) (h.push o) :=
  Grow.mk' ⟨[h.objs.size], rfl, fun a ha => by rw [List.mem_singleton] at ha; subst ha; exact size_fresh h⟩ (fun _ _ e _ => Heap.get?_push_of_some o e) fun _ o' e => ⟨o', Heap.get?_push_of_some o e⟩
theorem Grow.change {S β} {h h' : Heap} {a : Addr} (hs : Heap.SameBut a h h') (ha : a ∈ β ∨ a ∈ S) (hi : ∀ o, h.get? a = some o → ¬ Imm o) (hl : ∃ o, h'.get? a = some o) : Grow S β h β h' :=
  Grow.mk' ⟨[], by simp, by simp⟩ (fun b o e q => by
    by_cases hb : b = a
    · subst hb
      rcases q with q | q
      · exact absurd ha (not_or.mpr q)
      · exact absurd q (hi o e)
    · exact (hs.2 b hb).trans e)
   (fun b o e => by
    by_cases hb : b = a
    · subst hb; exact hl
    · exact ⟨o, (hs.2 b hb).trans e⟩)
structure Mv (h : Heap) (β : List Addr) (h' : Heap) (β' : List Addr) : Prop where
  t : ∀ {a ws}, h.IsTuple a ws → h'.IsTuple a ws
  f : ∀ {n : Nat} {a : Addr}, β[n]? = some a → β'[n]? = some a
  g : ∀ {r a b c ta tb tc}, h.get? r = some ⟨.type "range", none, .fields #[.int a ta, .int b tb, .int c tc], #[]⟩ → h'.get? r = some ⟨.type "range", none, .fields #[.int a ta, .int b tb, .int c tc], #[]⟩
  w : ∀ {r a}, h.IsValuesView r a → h'.IsValuesView r a
theorem VRel.map {h β h' β'} (m : Mv h β h' β') {v : V} {r : Value} (x : VRel h β v r) : VRel h' β' v r :=
  VRel.rec (motive_1 := fun v r _ => VRel h' β' v r) (motive_2 := fun vs rs _ => VRels h' β' vs rs) .none .bool .int .str (fun e _ ih => .tup (m.t e) ih) (fun e => .ref (m.f e)) (fun e => .range (m.g e)) (fun e e' => .vals (m.f e) (m.w e')) .opq .nil (fun _ _ a b => .cons a b) x
theorem VRels.ind {h β} {P : List V → List Value → Prop} (n : P [] []) (c : ∀ {v r vs rs}, VRel h β v r → VRels h β vs rs → P vs rs → P (v :: vs) (r :: rs)) {vs rs} (x : VRels h β vs rs) : P vs rs :=
  VRels.rec (motive_1 := fun _ _ _ => True) (motive_2 := fun vs rs _ => P vs rs) trivial (fun _ => trivial) (fun _ _ => trivial) (fun _ _ => trivial) (fun _ _ _ => trivial) (fun _ => trivial) (fun _ => trivial) (fun _ _ => trivial) (fun _ => trivial) n (fun a b _ ih => c a b ih) x
theorem VRels.map {h β h' β'} (m : Mv h β h' β') {vs : List V} {rs : List Value} (x : VRels h β vs rs) : VRels h' β' vs rs := x.ind (P := VRels h' β') .nil fun a _ ih => .cons (a.map m) ih
theorem Keep.mv {S β h β' h'} (g : Keep S β h β' h') : Mv h β h' β' where
  t := fun e => by obtain ⟨o, e1, e2, n, e3⟩ := e; exact ⟨o, g.keep _ _ e1 (.inr (.inl ⟨e2, _, _, e3⟩)), e2, n, e3⟩
  f := fun e => g.get e
  g := fun e => g.keep _ _ e (.inr (.inr (.inl ⟨rfl, _, rfl⟩)))
  w := fun e => by obtain ⟨o, e1, e2, e3⟩ := e; exact ⟨o, g.keep _ _ e1 (.inr (.inr (.inr ⟨e2, _, e3⟩))), e2, e3⟩
theorem VRel.monoK {S β h β' h'} (g : Keep S β h β' h') {v : V} {r : Value} (x : VRel h β v r) : VRel h' β' v r := x.map g.mv
theorem VRels.monoK {S β h β' h'} (g : Keep S β h β' h') {vs : List V} {rs : List Value} (x : VRels h β vs rs) : VRels h' β' vs rs := x.map g.mv
theorem VRel.mono {S β h β' h'} {v : V} {r : Value} (x : VRel h β v r) (g : Grow S β h β' h') : VRel h' β' v r := VRel.monoK g.toKeep x
theorem VRels.mono {S β h β' h'} {v : List V} {r : List Value} (x : VRels h β v r) (g : Grow S β h β' h') : VRels h' β' v r := VRels.monoK g.toKeep x
theorem VRels.length {h β} {vs : List V} {rs : List Value} (x : VRels h β vs rs) : vs.length = rs.length := x.ind (P := fun vs rs => vs.length = rs.length) rfl fun _ _ ih => congrArg Nat.succ ih
theorem VRels.get {h β} {vs : List V} {rs : List Value} (x : VRels h β vs rs) : ∀ {i : Nat} {v : V}, vs[i]? = some v → ∃ r, rs[i]? = some r ∧ VRel h β v r := by
  refine x.ind (P := fun vs rs => ∀ {i : Nat} {v : V}, vs[i]? = some v → ∃ r, rs[i]? = some r ∧ VRel h β v r) (fun {_ _} e => by simp at e) fun {_ r vs rs} a _ ih i v e => ?_
  induction i using Nat.casesOn with
  | zero => cases e; exact ⟨r, rfl, a⟩
  | succ i => exact ih (i := i) e
theorem VRels.append {h β} {vs : List V} {rs : List Value} {vs' rs'} (x : VRels h β vs rs) (y : VRels h β vs' rs') : VRels h β (vs ++ vs') (rs ++ rs') :=
  x.ind (P := fun vs rs => VRels h β (vs ++ vs') (rs ++ rs')) y fun a _ ih => .cons a ih
theorem VRels.snoc {h β} {vs : List V} {rs : List Value} {v r} (a : VRels h β vs rs) (b : VRel h β v r) : VRels h β (vs ++ [v]) (rs ++ [r]) := a.append (.cons b .nil)
theorem VRels.take {h β} {vs : List V} {rs : List Value} (x : VRels h β vs rs) : ∀ n, VRels h β (vs.take n) (rs.take n) := by
  refine x.ind (P := fun vs rs => ∀ n, VRels h β (vs.take n) (rs.take n)) (fun n => by simp; exact .nil) fun a _ ih n => ?_
  induction n using Nat.casesOn with
  | zero => exact .nil
  | succ n => exact .cons a (ih n)
theorem VRels.drop {h β} {vs : List V} {rs : List Value} (x : VRels h β vs rs) : ∀ n, VRels h β (vs.drop n) (rs.drop n) := by
  refine x.ind (P := fun vs rs => ∀ n, VRels h β (vs.drop n) (rs.drop n)) (fun n => by simp; exact .nil) fun a t ih n => ?_
  induction n using Nat.casesOn with
  | zero => exact .cons a t
  | succ n => exact ih n
theorem VRels.reverse {h β} {vs : List V} {rs : List Value} (x : VRels h β vs rs) : VRels h β vs.reverse rs.reverse :=
  x.ind (P := fun vs rs => VRels h β vs.reverse rs.reverse) .nil fun a _ ih => by rw [List.reverse_cons, List.reverse_cons]; exact ih.snoc a
theorem VRels.set {h β} {vs : List V} {rs : List Value} (x : VRels h β vs rs) {v r} (b : VRel h β v r) : ∀ n, VRels h β (vs.set n v) (rs.set n r) := by
  refine x.ind (P := fun vs rs => ∀ n, VRels h β (vs.set n v) (rs.set n r)) (fun n => by simp; exact .nil) fun a t ih n => ?_
  induction n using Nat.casesOn with
  | zero => exact .cons b t
  | succ n => exact .cons a (ih n)
inductive KVI (h : Heap) (β : List Addr) : List (Int × V) → List (Int × Value) → Prop
  | nil : KVI h β [] []
  | cons {k : Int} {v : V} {r : Value} {kvs rks} : VRel h β v r → KVI h β kvs rks → KVI h β ((k, v) :: kvs) ((k, r) :: rks)
inductive KVS (h : Heap) (β : List Addr) : List (List Nat × V) → List (Str × Value) → Prop
  | nil : KVS h β [] []
  | cons {k : Str} {v : V} {r : Value} {kvs rks} : VRel h β v r → KVS h β kvs rks → KVS h β ((k.cps.toList, v) :: kvs) ((k, r) :: rks)
theorem KVI.map {h β h' β'} (m : Mv h β h' β') {a b} (x : KVI h β a b) : KVI h' β' a b := by
  induction x with
  | nil => exact .nil
  | cons x _ ih => exact .cons (x.map m) ih
theorem KVS.map {h β h' β'} (m : Mv h β h' β') {a b} (x : KVS h β a b) : KVS h' β' a b := by
  induction x with
  | nil => exact .nil
  | cons x _ ih => exact .cons (x.map m) ih
theorem KVI.monoK {S β h β' h'} (g : Keep S β h β' h') {a b} (x : KVI h β a b) : KVI h' β' a b := x.map g.mv
theorem KVS.monoK {S β h β' h'} (g : Keep S β h β' h') {a b} (x : KVS h β a b) : KVS h' β' a b := x.map g.mv
theorem KVI.mono {S β h β' h' a b} (x : KVI h β a b) (g : Grow S β h β' h') : KVI h' β' a b := x.monoK g.toKeep
theorem KVS.mono {S β h β' h' a b} (x : KVS h β a b) (g : Grow S β h β' h') : KVS h' β' a b := x.monoK g.toKeep
noncomputable def ORel (X : Ctx) (h : Heap) (β : List Addr) : MO → Addr → Prop
  | .list vs, a => ∃ (ws : List Value) (k : Nat), h.get? a = some (listOf ws.toArray k) ∧ VRels h β vs ws
  | .dictI kvs, a => ∃ rks, h.DictAt (intKind X.prog X.w) a rks rks.length ∧ KVI h β kvs rks
  | .dictS kvs, a => ∃ rks, h.DictAt (strKind X.prog X.w) a rks rks.length ∧ KVS h β kvs rks
  | .inst k, a => ∃ dx, β[k]? = some dx ∧ h.get? a = some (instObj X.C dx)
  | .attrs r n t y l, a => ∃ es k r' n' t' y' l', h.get? a = some (dictOf es k) ∧
      getL (Str.ofString "rows") es = some (some r') ∧ getL (Str.ofString "names") es = some (some n') ∧ getL (Str.ofString "temps") es = some (some t') ∧
      getL (Str.ofString "trys") es = some (some y') ∧ getL (Str.ofString "lives") es = some (some l') ∧
      VRel h β r r' ∧ VRel h β n n' ∧ VRel h β t t' ∧ VRel h β y y' ∧ VRel h β l l'
theorem ORel.monoK {X : Ctx} {S β h β' h'} (g : Keep S β h β' h') {mo : MO} {a : Addr} (r : ORel X h β mo a) (e : h'.get? a = h.get? a) : ORel X h' β' mo a := by
  cases mo with
  | list vs => obtain ⟨ws, k, e1, e2⟩ := r; exact ⟨ws, k, e.trans e1, VRels.monoK g e2⟩
  | dictI kvs => obtain ⟨rks, e1, e2⟩ := r; obtain ⟨o, es, ho, q⟩ := e1; exact ⟨rks, ⟨o, es, e.trans ho, q⟩, e2.monoK g⟩
  | dictS kvs => obtain ⟨rks, e1, e2⟩ := r; obtain ⟨o, es, ho, q⟩ := e1; exact ⟨rks, ⟨o, es, e.trans ho, q⟩, e2.monoK g⟩
  | inst k => obtain ⟨dx, e1, e2⟩ := r; exact ⟨dx, g.get e1, e.trans e2⟩
  | attrs =>
    obtain ⟨es, k, r', n', t', y', l', e0, e1, e2, e3, e4, e5, v1, v2, v3, v4, v5⟩ := r
    exact ⟨es, k, r', n', t', y', l', e.trans e0, e1, e2, e3, e4, e5, VRel.monoK g v1, VRel.monoK g v2, VRel.monoK g v3, VRel.monoK g v4, VRel.monoK g v5⟩
theorem ORel.mono {X : Ctx} {S β h β' h'} {mo : MO} {a : Addr} (r : ORel X h β mo a) (g : Grow S β h β' h') (e : h'.get? a = h.get? a) : ORel X h' β' mo a := ORel.monoK g.toKeep r e
theorem isList_of {h : Heap} {a : Addr} {ws : Array Value} {k : Nat} (e : h.get? a = some (listOf ws k)) : h.IsList a ws := ⟨_, e, rfl, _, rfl⟩
theorem ORel.obj {X : Ctx} {β h} {mo : MO} {a : Addr} (r : ORel X h β mo a) : ∃ o, h.get? a = some o ∧ ¬ Imm o := by
  cases mo with
  | list vs => obtain ⟨ws, k, e1, _⟩ := r; exact ⟨_, e1, by simp [Imm]⟩
  | dictI kvs => obtain ⟨rks, ⟨o, es, ho, _, q, _⟩, _⟩ := r; exact ⟨o, ho, by simp [Imm, q]⟩
  | dictS kvs => obtain ⟨rks, ⟨o, es, ho, _, q, _⟩, _⟩ := r; exact ⟨o, ho, by simp [Imm, q]⟩
  | inst k => obtain ⟨dx, e1, e2⟩ := r; exact ⟨_, e2, by simp [Imm]⟩
  | attrs => obtain ⟨es, k, r', n', t', y', l', e0, _⟩ := r; exact ⟨_, e0, by simp [Imm]⟩
structure SRel (X : Ctx) (β : List Addr) (σ : H) (h : Heap) : Prop where
  base : ∀ b o, X.h₀.get? b = some o → h.get? b = some o
  len : β.length = σ.length
  nodup : β.Nodup
  new : ∀ a ∈ β, X.h₀.get? a = none
  big : ∀ a ∈ β, mainGlobals < a
  obj : ∀ (n : Nat) (o : MO) (a : Addr), σ[n]? = some o → β[n]? = some a → ORel X h β o a
theorem SRel.at {X β σ h} (s : SRel X β σ h) {n : Nat} {o : MO} (e : σ[n]? = some o) : ∃ a, β[n]? = some a ∧ ORel X h β o a := by
  have hl := (List.getElem?_eq_some_iff.mp e).1
  rw [← s.len] at hl
  exact ⟨β[n], List.getElem?_eq_getElem hl, s.obj n o _ e (List.getElem?_eq_getElem hl)⟩
theorem SRel.alive {X β σ h} (s : SRel X β σ h) {a} (m : a ∈ β) : ∃ o, h.get? a = some o ∧ ¬ Imm o := by
  obtain ⟨n, hn, rfl⟩ := List.getElem_of_mem m
  have hn' : n < σ.length := by rw [← s.len]; exact hn
  exact (s.obj n σ[n] β[n] (List.getElem?_eq_getElem hn') (List.getElem?_eq_getElem hn)).obj
theorem SRel.keep {X β σ h h' S} (s : SRel X β σ h) (g : Keep S β h β h') (hk : ∀ b o, h.get? b = some o → b ∈ β → h'.get? b = some o)
    (hb : ∀ a ∈ S, X.h₀.get? a = none) : SRel X β σ h' where
  base := fun b o e => g.keep b o (s.base b o e) (.inl ⟨fun m => by (rw [s.new b m] at e; cases e), fun m => by (rw [hb b m] at e; cases e)⟩)
  len := s.len
  nodup := s.nodup
  new := s.new
  big := s.big
  obj := fun n o a e1 e2 => by
    have r := s.obj n o a e1 e2
    obtain ⟨ob, e, _⟩ := r.obj
    exact ORel.monoK g r ((hk a ob e (List.mem_of_getElem? e2)).trans e.symm)
theorem SRel.push {X β σ h} (s : SRel X β σ h) (o : Obj) : SRel X β σ (h.push o) :=
  s.keep (S := []) (Grow.push o).toKeep (fun _ _ e _ => Heap.get?_push_of_some o e) fun _ m => nomatch m
theorem SRel.other {X β σ h h'} {a : Addr} (s : SRel X β σ h) (hs : Heap.SameBut a h h') (ha : a ∉ β) (hb : X.h₀.get? a = none) (hi : ∀ o, h.get? a = some o → ¬ Imm o) (hl : ∃ o, h'.get? a = some o) : SRel X β σ h' :=
  s.keep (S := [a]) (Grow.change hs (.inr (.head _)) hi hl).toKeep (fun b o e m => (hs.2 b (fun q => ha (q ▸ m))).trans e) fun b m => by
    rw [List.mem_singleton] at m; subst m; exact hb
theorem SRel.new' {X β σ h} (ok : X.Ok) (s : SRel X β σ h) {mo : MO} {o : Obj} (hf : o.isFreed = false)
    (hr : ∀ h', h'.get? h.objs.size = some o → Grow [] β h (β ++ [h.objs.size]) h' → ORel X h' (β ++ [h.objs.size]) mo h.objs.size) : SRel X (β ++ [h.objs.size]) (σ ++ [mo]) (h.push o) where
  base := fun b o' e => Heap.get?_push_of_some o (s.base b o' e)
  len := by simp [s.len]
  nodup := by
    rw [List.nodup_append]
    refine ⟨s.nodup, by simp, ?_⟩
    intro a ha b hb
    simp at hb; subst hb
    rintro rfl
    obtain ⟨o', e, _⟩ := s.alive ha
    exact absurd (Heap.lt_size e) (Nat.lt_irrefl _)
  new := fun a ha => by
    rcases List.mem_append.mp ha with ha | ha
    · exact s.new a ha
    · simp at ha; subst ha
      cases e : X.h₀.get? h.objs.size with
      | none => rfl
      | some o' => exact absurd (Heap.lt_size (s.base _ _ e)) (Nat.lt_irrefl _)
  big := fun a ha => by
    rcases List.mem_append.mp ha with ha | ha
    · exact s.big a ha
    · simp at ha; subst ha
      obtain ⟨o', _, _, ho, _⟩ := ok.top.g
      exact Heap.lt_size (s.base _ _ ho)
  obj := fun n o' a e1 e2 => by
    by_cases hn : n < σ.length
    · rw [List.getElem?_append_left hn] at e1
      rw [List.getElem?_append_left (by rw [s.len]; exact hn)] at e2
      have r := s.obj n o' a e1 e2
      obtain ⟨ob, e, _⟩ := r.obj
      exact r.mono (S := []) (Grow.pushNew o) ((Heap.get?_push_of_some o e).trans e.symm)
    · have : n = σ.length := by
        have := (List.getElem?_eq_some_iff.mp e1).1
        simp at this; lia
      subst this
      rw [List.getElem?_append_right (Nat.le_refl _)] at e1
      rw [List.getElem?_append_right (by rw [s.len]; exact Nat.le_refl _)] at e2
      simp [s.len] at e1 e2
      subst e1; subst e2
      exact hr _ (Heap.get?_push_size _ hf) (Grow.pushNew o)
theorem SRel.set {X β σ h h'} (s : SRel X β σ h) {n : Nat} {a : Addr} {mo : MO} (hn : β[n]? = some a) (hs : Heap.SameBut a h h') (hr : Grow [] β h β h' → ORel X h' β mo a) (hl : ∃ o, h'.get? a = some o) :
    SRel X β (σ.set n mo) h' := by
  have ma := List.mem_of_getElem? hn
  have g : Grow [] β h β h' := Grow.change hs (.inl ma) (fun o e => by obtain ⟨o', e', q⟩ := s.alive ma; rw [e] at e'; cases e'; exact q) hl
  refine ⟨fun b o e => (hs.2 b (fun q => ?_)).trans (s.base b o e), by simp [s.len], s.nodup, s.new, s.big, fun k o b e1 e2 => ?_⟩
  · subst q; rw [s.new b ma] at e; cases e
  · by_cases hk : k = n
    · subst hk
      rw [hn] at e2; cases e2
      have := (List.getElem?_eq_some_iff.mp e1).1
      rw [List.getElem?_set_self (by simpa using this)] at e1
      cases e1
      exact hr g
    · rw [List.getElem?_set_ne (Ne.symm hk)] at e1
      have r := s.obj k o b e1 e2
      refine r.mono g (hs.2 b fun q => hk ?_)
      subst q
      exact (List.getElem?_inj (List.getElem?_eq_some_iff.mp e2).1 s.nodup).mp (e2.trans hn.symm)
theorem SRel.setGrow {X β σ h h'} (s : SRel X β σ h) {n : Nat} {a : Addr} (hn : β[n]? = some a) (hs : Heap.SameBut a h h') (hl : ∃ o, h'.get? a = some o) {S : List Addr} : Grow S β h β h' := by
  have ma := List.mem_of_getElem? hn
  exact Grow.change hs (.inl ma) (fun o e => by obtain ⟨o', e', q⟩ := s.alive ma; rw [e] at e'; cases e'; exact q) hl
theorem Keep.but {β : List Addr} {h h' : Heap} {a : Addr} (hs : Heap.ExtBut a h h') (hi : ∀ o, h.get? a = some o → ¬ Imm o) : Keep [a] β h β h' :=
  ⟨⟨[], by simp, by simp⟩, fun b o e q => hs b o (fun hb => by
    subst hb
    rcases q with q | q
    · exact q.2 (.head _)
    · exact hi o e q) e⟩
theorem SRel.but {X β σ h h'} {a : Addr} (s : SRel X β σ h) (hs : Heap.ExtBut a h h') (ha : a ∉ β) (hb : X.h₀.get? a = none) (hi : ∀ o, h.get? a = some o → ¬ Imm o) : SRel X β σ h' :=
  s.keep (S := [a]) (Keep.but hs hi) (fun b o e m => hs b o (fun q => ha (q ▸ m)) e) fun b m => by
    rw [List.mem_singleton] at m; subst m; exact hb
theorem Grow.but {S β h β' h' h''} {a : Addr} (g : Grow S β h β' h') (hs : Heap.ExtBut a h' h'') (hf : h.get? a = none) : Grow S β h β' h'' :=
  Grow.mk' g.pre (fun b o e q => hs b o (fun hb => by rw [hb, hf] at e; cases e) (g.keep b o e q))
    fun b o e => by
      obtain ⟨o', e'⟩ := g.alive b o e
      exact ⟨o', hs b o' (fun hb => by rw [hb, hf] at e; cases e) e'⟩
end
section
noncomputable def idx : List Str → Str → Option Nat
  | [], _ => none
  | y :: r, x => if y = x then some 0 else (idx r x).map (· + 1)
theorem idx_inj : ∀ {nm : List Str} {x y : Str} {i : Nat}, idx nm x = some i → idx nm y = some i → x = y
  | [], _, _, _, h, _ => by exact nosm h
  | z :: r, x, y, i, h1, h2 => by
    unfold idx at h1 h2
    split at h1 <;> split at h2
    · rename_i a b; rw [← a, ← b]
    · cases h1
      cases q : idx r y <;> rw [q] at h2 <;> (first | exact nosm h2 | cases h2)
    · cases h2
      cases q : idx r x <;> rw [q] at h1 <;> (first | exact nosm h1 | cases h1)
    · cases q1 : idx r x <;> rw [q1] at h1 <;> cases h1
      cases q2 : idx r y <;> rw [q2] at h2 <;> cases h2
      exact idx_inj q1 q2
noncomputable def fa (env : Env) : List Addr := env.locals :: env.cells.map (·.2)
structure EnvOk (X : Ctx) (sc : Scope) (env : Env) : Prop where
  scope : env.scope = sc
  kind : sc.kind = .function
  globals : env.globals = mainGlobals
  builtins : env.builtins = builtinsNs
theorem EnvOk.kindOf {X sc env} (h : EnvOk X sc env) (x : Str) : env.kindOf x = sc.names.lookup x := by
  rw [← h.scope]; rfl
theorem EnvOk.fn {X sc env} (h : EnvOk X sc env) : env.scope.kind = .function := by rw [h.scope]; exact h.kind
structure FRel (X : Ctx) (nm : List Str) (env : Env) (ρ : R) (β : List Addr) (h : Heap) : Prop where
  apart : ∀ a ∈ fa env, a ∉ β
  base : ∀ a ∈ fa env, X.h₀.get? a = none
  loc : ∃ m, h.Ns env.locals m ∧ ∀ (i : Nat) (x : Str) (v : V), idx nm x = some i → env.kindOf x = some .local → ρ[i]? = some (some v) → ∃ rv, m x = some rv ∧ VRel h β v rv
  cells : ∀ p ∈ env.cells, ∃ v, h.IsCell p.2 v
  has : ∀ x, env.kindOf x = some .cell → ∃ c, env.cells.lookup x = some c
  cellv : ∀ (i : Nat) (x : Str) (v : V), idx nm x = some i → (env.kindOf x = some .cell ∨ env.kindOf x = some .free) → ρ[i]? = some (some v) →
    ∃ c rv, env.cells.lookup x = some c ∧ h.IsCell c (some rv) ∧ VRel h β v rv
  inj : ∀ x y c, env.cells.lookup x = some c → env.cells.lookup y = some c → x = y
  neq : ∀ p ∈ env.cells, p.2 ≠ env.locals
theorem mem_fa_cell {env : Env} {x : Str} {c : Addr} (h : env.cells.lookup x = some c) : c ∈ fa env :=
  .tail _ (List.mem_map.mpr ⟨(x, c), mem_of_lookup h, rfl⟩)
theorem ns_at {h h' : Heap} {L : Addr} {m} (hn : h.Ns L m) (e : ∀ o, h.get? L = some o → h'.get? L = some o) : h'.Ns L m :=
  let ⟨o, es, ep, ho, r⟩ := hn; ⟨o, es, ep, e _ ho, r⟩
theorem cell_at {h h' : Heap} {c : Addr} {v} (hn : h.IsCell c v) (e : ∀ o, h.get? c = some o → h'.get? c = some o) : h'.IsCell c v :=
  let ⟨o, ho, r⟩ := hn; ⟨o, e _ ho, r⟩
theorem Keep.kept {S β h β' h'} (g : Keep S β h β' h') {b o} (e : h.get? b = some o) (m : b ∉ β) (m' : b ∉ S) : h'.get? b = some o := g.keep b o e (.inl ⟨m, m'⟩)
theorem Keep.notin {S β h β' h'} (g : Keep S β h β' h') {b o} (e : h.get? b = some o) (m : b ∉ β) : b ∉ β' := by
  obtain ⟨t, rfl, ft⟩ := g.pre
  intro q
  rcases List.mem_append.mp q with q | q
  · exact m q
  · rw [ft b q] at e; exact nosm e
theorem FRel.live {X nm env ρ β h} (F : FRel X nm env ρ β h) : ∀ a ∈ fa env, ∃ o, h.get? a = some o ∧ ¬ Imm o := fun a ha => by
  cases ha with
  | head => obtain ⟨m, ⟨o, es, ep, ho, hd, _⟩, _⟩ := F.loc; exact ⟨o, ho, by simp [Imm, hd]⟩
  | tail _ ha =>
    obtain ⟨y, hy, rfl⟩ := List.mem_map.mp ha
    obtain ⟨v, o, ho, hd⟩ := F.cells y hy
    exact ⟨o, ho, by simp [Imm, hd]⟩
theorem FRel.monoK {X nm env ρ S β h β' h'} (F : FRel X nm env ρ β h) (g : Keep S β h β' h') (hS : ∀ a ∈ S, a ∉ fa env) : FRel X nm env ρ β' h' := by
  obtain ⟨m, hn, hm⟩ := F.loc
  have hL : ∀ o, h.get? env.locals = some o → h'.get? env.locals = some o := fun o e => g.kept e (F.apart _ (.head _)) (fun m => hS _ m (.head _))
  have hC : ∀ {c}, c ∈ fa env → ∀ o, h.get? c = some o → h'.get? c = some o := fun e o e' => g.kept e' (F.apart _ e) (fun m => hS _ m e)
  refine ⟨fun a ha => ?_, F.base, ⟨m, ns_at hn hL, fun i x v e1 e2 e3 => ?_⟩, fun p hp => ?_, F.has, fun i x v e1 e2 e3 => ?_, F.inj, F.neq⟩
  · obtain ⟨o, ho, _⟩ := F.live a ha
    exact g.notin ho (F.apart a ha)
  · obtain ⟨rv, a, b⟩ := hm i x v e1 e2 e3
    exact ⟨rv, a, VRel.monoK g b⟩
  · obtain ⟨v, b⟩ := F.cells p hp
    exact ⟨v, cell_at b (hC (.tail _ (List.mem_map_of_mem hp)))⟩
  · obtain ⟨c, rv, a, b, d⟩ := F.cellv i x v e1 e2 e3
    exact ⟨c, rv, a, cell_at b (hC (mem_fa_cell a)), VRel.monoK g d⟩
theorem FRel.mono {X nm env ρ β h β' h'} (F : FRel X nm env ρ β h) (g : Grow [] β h β' h') : FRel X nm env ρ β' h' := F.monoK g.toKeep fun _ m => nomatch m
structure Adm (d : Nat) (A : Around) : Prop where
  handled : A.handled = none
  guards : A.guards = some []
  depth : A.depth + d ≤ 900
  units : A.units + 4 * d ≤ 9000
theorem Adm.le {d d' A} (h : Adm d A) (e : d' ≤ d) : Adm d' A := ⟨h.handled, h.guards, by have := h.depth; lia, by have := h.units; lia⟩
theorem Adm.room {d A} (h : Adm d A) : A.units < cLine := by have := h.units; unfold cLine; lia
theorem Adm.room1 {d A} (h : Adm d A) : A.in1.units < cLine := by have := h.units; unfold cLine; show A.units + 1 < _; lia
theorem Adm.deep {d A} (h : Adm d A) : A.depth < recursionLimit := by have := h.depth; unfold recursionLimit; lia
structure Rest (s s' : Shared) : Prop where
  gens : s'.gens = s.gens
  os : s'.os = s.os
theorem Rest.refl {s} : Rest s s := ⟨rfl, rfl⟩
theorem Rest.trans {s s' s''} (a : Rest s s') (b : Rest s' s'') : Rest s s'' := ⟨b.gens.trans a.gens, b.os.trans a.os⟩
abbrev NoE : Value → Shared → Prop := fun _ _ => False
inductive EPost (X : Ctx) (s : Shared) (β : List Addr) (v : V) (σ' : H) (rv : Value) (s' : Shared) : Prop
  | mk (β' : List Addr) (a : SRel X β' σ' s'.heap) (b : Grow [] β s.heap β' s'.heap) (c : VRel s'.heap β' v rv) (d : Rest s s')
theorem EPost.after {X s s₁ β β₁ v σ rv s'} (g : Grow [] β s.heap β₁ s₁.heap) (r : Rest s s₁) (h : EPost X s₁ β₁ v σ rv s') : EPost X s β v σ rv s' := by
  obtain ⟨β', a, b, c, d⟩ := h
  exact ⟨β', a, g.trans b, c, r.trans d⟩
inductive LPost (X : Ctx) (s : Shared) (β : List Addr) (vs : List V) (σ' : H) (rvs : List Value) (s' : Shared) : Prop
  | mk (β' : List Addr) (a : SRel X β' σ' s'.heap) (b : Grow [] β s.heap β' s'.heap) (c : VRels s'.heap β' vs rvs) (d : Rest s s')
inductive BPost (X : Ctx) (s : Shared) (β : List Addr) (b : Bool) (σ' : H) (rb : Bool) (s' : Shared) : Prop
  | mk (e : rb = b) (β' : List Addr) (a : SRel X β' σ' s'.heap) (g : Grow [] β s.heap β' s'.heap) (d : Rest s s')
theorem BPost.after {X s s₁ β β₁ v σ rv s'} (g : Grow [] β s.heap β₁ s₁.heap) (r : Rest s s₁) (h : BPost X s₁ β₁ v σ rv s') : BPost X s β v σ rv s' := by
  obtain ⟨e, β', a, b, d⟩ := h
  exact ⟨e, β', a, g.trans b, r.trans d⟩
abbrev MM (X : Ctx) : Model := model X.prog X.w
abbrev Ex := R → H → Option (V × H)
abbrev Tx := R → H → Option (Bool × H)
inductive Fl where
  | next
  | ret (v : V)
deriving Inhabited
abbrev Sx := R → H → Option (Fl × R × H)
structure SimE (X : Ctx) (d : Nat) (nm : List Str) (sc : Scope) (e : Expr) (m : Ex) : Prop where
  run : ∀ (A : Around) (env : Env) (s : Shared) (β : List Addr) (ρ : R) (σ : H) (v : V) (σ' : H), Adm d A → EnvOk X sc env → SRel X β σ s.heap → FRel X nm env ρ β s.heap →
    m ρ σ = some (v, σ') → wpAny (MM X) A (eval e env) (EPost X s β v σ') NoE s
structure SimT (X : Ctx) (d : Nat) (nm : List Str) (sc : Scope) (e : Expr) (m : Tx) : Prop where
  run : ∀ (A : Around) (env : Env) (s : Shared) (β : List Addr) (ρ : R) (σ : H) (v : Bool) (σ' : H), Adm d A → EnvOk X sc env → SRel X β σ s.heap → FRel X nm env ρ β s.heap →
    m ρ σ = some (v, σ') → wpAny (MM X) A (isTrue e env (eval e env)) (BPost X s β v σ') NoE s
structure SimL (X : Ctx) (d : Nat) (nm : List Str) (sc : Scope) (es : List Expr) (m : R → H → Option (List V × H)) : Prop where
  run : ∀ (A : Around) (env : Env) (s : Shared) (β : List Addr) (ρ : R) (σ : H) (v : List V) (σ' : H) (pos : Pos), Adm d A → EnvOk X sc env → SRel X β σ s.heap → FRel X nm env ρ β s.heap →
    m ρ σ = some (v, σ') → wpAny (MM X) A (spliced (backTo pos (starEach es env))) (LPost X s β v σ') NoE s
inductive FlRel (h : Heap) (β : List Addr) : Fl → Flow → Prop
  | next : FlRel h β .next .next
  | ret {v r} : VRel h β v r → FlRel h β (.ret v) (.ret r)
inductive SPost (X : Ctx) (nm : List Str) (env : Env) (s : Shared) (β : List Addr) (f : Fl) (ρ' : R) (σ' : H) (rf : Flow) (s' : Shared) : Prop
  | mk (β' : List Addr) (a : SRel X β' σ' s'.heap) (b : FRel X nm env ρ' β' s'.heap) (c : Grow (fa env) β s.heap β' s'.heap) (d : FlRel s'.heap β' f rf) (e : Rest s s')
structure SimS (X : Ctx) (d : Nat) (nm : List Str) (sc : Scope) (st : Stmt) (m : Sx) : Prop where
  run : ∀ (A : Around) (env : Env) (s : Shared) (β : List Addr) (ρ : R) (σ : H) (f : Fl) (ρ' : R) (σ' : H), Adm d A → EnvOk X sc env → SRel X β σ s.heap → FRel X nm env ρ β s.heap →
    m ρ σ = some (f, ρ', σ') → wpAny (MM X) A (exec st env) (SPost X nm env s β f ρ' σ') NoE s
structure SimSs (X : Ctx) (d : Nat) (nm : List Str) (sc : Scope) (sts : List Stmt) (m : Sx) : Prop where
  run : ∀ (A : Around) (env : Env) (s : Shared) (β : List Addr) (ρ : R) (σ : H) (f : Fl) (ρ' : R) (σ' : H), Adm d A → EnvOk X sc env → SRel X β σ s.heap → FRel X nm env ρ β s.heap →
    m ρ σ = some (f, ρ', σ') → wpAny (MM X) A (execs sts env) (SPost X nm env s β f ρ' σ') NoE s
noncomputable def VOp1 (X : Ctx) (d : Nat) (t : Value → Sem Value) (f : V → H → Option (V × H)) : Prop :=
  ∀ (A : Around) (s : Shared) (β : List Addr) (σ : H) (a : V) (ra : Value) (v : V) (σ' : H), Adm d A → SRel X β σ s.heap → VRel s.heap β a ra →
    f a σ = some (v, σ') → wpAny (MM X) A (t ra) (EPost X s β v σ') NoE s
noncomputable def VOp2 (X : Ctx) (d : Nat) (t : Value → Value → Sem Value) (f : V → V → H → Option (V × H)) : Prop :=
  ∀ (A : Around) (s : Shared) (β : List Addr) (σ : H) (a b : V) (ra rb : Value) (v : V) (σ' : H), Adm d A → SRel X β σ s.heap → VRel s.heap β a ra → VRel s.heap β b rb →
    f a b σ = some (v, σ') → wpAny (MM X) A (t ra rb) (EPost X s β v σ') NoE s
noncomputable def VOpN (X : Ctx) (d : Nat) (t : List Value → Sem Value) (f : List V → H → Option (V × H)) : Prop :=
  ∀ (A : Around) (s : Shared) (β : List Addr) (σ : H) (a : List V) (ra : List Value) (v : V) (σ' : H), Adm d A → SRel X β σ s.heap → VRels s.heap β a ra →
    f a σ = some (v, σ') → wpAny (MM X) A (t ra) (EPost X s β v σ') NoE s
@[irreducible] noncomputable def eC (v : V) : Ex := fun _ σ => some (v, σ)
@[irreducible] noncomputable def eV (i : Nat) : Ex := fun ρ σ => match ρ[i]? with
  | some (some v) => some (v, σ)
  | _ => none
@[irreducible] noncomputable def e1 (f : V → H → Option (V × H)) (a : Ex) : Ex := fun ρ σ => match a ρ σ with
  | some (va, σ₁) => f va σ₁
  | none => none
@[irreducible] noncomputable def e2 (f : V → V → H → Option (V × H)) (a b : Ex) : Ex := fun ρ σ => match a ρ σ with
  | some (va, σ₁) => match b ρ σ₁ with
    | some (vb, σ₂) => f va vb σ₂
    | none => none
  | none => none
noncomputable def eL : List Ex → R → H → Option (List V × H)
  | [], _, σ => some ([], σ)
  | a :: r, ρ, σ => match a ρ σ with
    | some (v, σ₁) => match eL r ρ σ₁ with
      | some (vs, σ₂) => some (v :: vs, σ₂)
      | none => none
    | none => none
@[irreducible] noncomputable def eN (f : List V → H → Option (V × H)) (as : List Ex) : Ex := fun ρ σ => match eL as ρ σ with
  | some (vs, σ₁) => f vs σ₁
  | none => none
noncomputable def vTup (vs : List V) (σ : H) : Option (V × H) := if vs.length ≤ 1000 then some (.tup vs, σ) else none
noncomputable def vList (vs : List V) (σ : H) : Option (V × H) := if vs.length ≤ 100000 then some (.ref σ.length, σ ++ [.list vs]) else none
@[irreducible] noncomputable def eIf (t : Tx) (a b : Ex) : Ex := fun ρ σ => match t ρ σ with
  | some (true, σ₁) => a ρ σ₁
  | some (false, σ₁) => b ρ σ₁
  | none => none
section
variable {X : Ctx} {d : Nat} {nm : List Str} {sc : Scope}
theorem sEn {k pos} : SimE X d nm sc (.Constant .none k pos) (eC .none) := .mk fun A env s β ρ σ v σ' _ _ S _ e => by
  unfold eC at e
  apply so2 e
  exact wpAny_Constant_none ⟨β, S, Grow.refl, .none, Rest.refl⟩
theorem sEo {b k pos} : SimE X d nm sc (.Constant (.bool b) k pos) (eC (.bool b)) := .mk fun A env s β ρ σ v σ' _ _ S _ e => by
  unfold eC at e
  apply so2 e
  exact wpAny_Constant_bool ⟨β, S, Grow.refl, .bool b, Rest.refl⟩
theorem sEi {i k pos} : SimE X d nm sc (.Constant (.int i) k pos) (eC (.int i)) := .mk fun A env s β ρ σ v σ' _ _ S _ e => by
  unfold eC at e
  apply so2 e
  exact wpAny_Constant_int ⟨β, S, Grow.refl, .int i _, rfl, rfl⟩
theorem sEs {x : Str} {l : List Nat} {k pos} (hx : x.cps.toList = l) : SimE X d nm sc (.Constant (.str x) k pos) (eC (.str l)) := .mk fun A env s β ρ σ v σ' _ _ S _ e => by
  unfold eC at e
  apply so2 e
  subst hx
  exact wpAny_Constant_str ⟨β, S, Grow.refl, .str x _, rfl, rfl⟩
theorem simE_var {x : Str} {i : Nat} {pos} (hi : idx nm x = some i) (hk : sc.names.lookup x = some .local ∨ sc.names.lookup x = some .cell ∨ sc.names.lookup x = some .free)
    (hd : (x == ("__debug__" : Str)) = false) (hn : (x == ("__classdict__" : Str)) = false) : SimE X d nm sc (.Name x pos) (eV i) := .mk fun A env s β ρ σ v σ' _ en S F e => by
  unfold eV at e
  split at e
  · rename_i v' hv
    cases e
    refine wpAny_Name ?_ hd
    have hk' : env.kindOf x = some .local ∨ env.kindOf x = some .cell ∨ env.kindOf x = some .free := by rw [en.kindOf]; exact hk
    rcases hk' with hk' | hk' | hk'
    · obtain ⟨m, hm, hl⟩ := F.loc
      obtain ⟨rv, h1, h2⟩ := hl i x v hi hk' hv
      exact wpAny_loadName_local en.fn hk' hm h1 ⟨β, S, Grow.refl, h2, Rest.refl⟩
    · obtain ⟨c, rv, h1, h2, h3⟩ := F.cellv i x v hi (.inl hk') hv
      exact wpAny_loadName_cell en.fn hk' h1 h2 ⟨β, S, Grow.refl, h3, Rest.refl⟩
    · obtain ⟨c, rv, h1, h2, h3⟩ := F.cellv i x v hi (.inr hk') hv
      exact wpAny_loadName_free en.fn hk' h1 h2 ⟨β, S, Grow.refl, h3, Rest.refl⟩ hn
  · exact nosm e
theorem bind1 {A env s β ρ σ v σ'} {f : V → H → Option (V × H)} {ma : Ex} {a : Expr} {t : Value → Sem Value} {Q : Value → Shared → Prop} (ha : SimE X d nm sc a ma) (ad : Adm d A) (en : EnvOk X sc env) (S : SRel X β σ s.heap) (F : FRel X nm env ρ β s.heap)
    (e : e1 f ma ρ σ = some (v, σ')) (h : ∀ va ra β₁ σ₁ s₁, SRel X β₁ σ₁ s₁.heap → FRel X nm env ρ β₁ s₁.heap → VRel s₁.heap β₁ va ra → Grow [] β s.heap β₁ s₁.heap → Rest s s₁ → f va σ₁ = some (v, σ') → wpAny (MM X) A (t ra) Q NoE s₁) :
    wpAny (MM X) A (eval a env) (fun ra s₁ => wpAny (MM X) A (t ra) Q NoE s₁) NoE s := by
  unfold e1 at e
  split at e
  · rename_i va σ₁ ea
    refine wpAny_mono (ha.run A env s β ρ σ va σ₁ ad en S F ea) (fun ra s₁ p => ?_) fun _ _ x => x
    obtain ⟨β₁, S₁, g, vr, r⟩ := p
    exact h va ra β₁ σ₁ s₁ S₁ (F.mono g) vr g r e
  · exact nosm e
theorem bind2g {A env s β ρ σ v σ'} {f : V → V → H → Option (V × H)} {ma mb : Ex} {a b : Expr} {P : Value → Value → Shared → Prop} (ha : SimE X d nm sc a ma) (hb : SimE X d nm sc b mb) (ad : Adm d A) (en : EnvOk X sc env) (S : SRel X β σ s.heap) (F : FRel X nm env ρ β s.heap)
    (e : e2 f ma mb ρ σ = some (v, σ')) (h : ∀ va ra vb rb β₁ σ₁ s₁, SRel X β₁ σ₁ s₁.heap → FRel X nm env ρ β₁ s₁.heap → VRel s₁.heap β₁ va ra → VRel s₁.heap β₁ vb rb → Grow [] β s.heap β₁ s₁.heap → Rest s s₁ → f va vb σ₁ = some (v, σ') → P ra rb s₁) :
    wpAny (MM X) A (eval a env) (fun ra s₁ => wpAny (MM X) A (eval b env) (fun rb s₂ => P ra rb s₂) NoE s₁) NoE s := by
  unfold e2 at e
  split at e
  · rename_i va σ₁ ea
    split at e
    · rename_i vb σ₂ eb
      refine wpAny_mono (ha.run A env s β ρ σ va σ₁ ad en S F ea) (fun ra s₁ p => ?_) fun _ _ x => x
      obtain ⟨β₁, S₁, g, vr, r⟩ := p
      refine wpAny_mono (hb.run A env s₁ β₁ ρ σ₁ vb σ₂ ad en S₁ (F.mono g) eb) (fun rb s₂ p => ?_) fun _ _ x => x
      obtain ⟨β₂, S₂, g₂, vr₂, r₂⟩ := p
      exact h va ra vb rb β₂ σ₂ s₂ S₂ ((F.mono g).mono g₂) (vr.mono g₂) vr₂ (g.trans g₂) (r.trans r₂) e
    · exact nosm e
  · exact nosm e
theorem bind2 {A env s β ρ σ v σ'} {f : V → V → H → Option (V × H)} {ma mb : Ex} {a b : Expr} {t : Value → Value → Sem Value} {Q : Value → Shared → Prop} (ha : SimE X d nm sc a ma) (hb : SimE X d nm sc b mb) (ad : Adm d A) (en : EnvOk X sc env) (S : SRel X β σ s.heap) (F : FRel X nm env ρ β s.heap)
    (e : e2 f ma mb ρ σ = some (v, σ')) (h : ∀ va ra vb rb β₁ σ₁ s₁, SRel X β₁ σ₁ s₁.heap → FRel X nm env ρ β₁ s₁.heap → VRel s₁.heap β₁ va ra → VRel s₁.heap β₁ vb rb → Grow [] β s.heap β₁ s₁.heap → Rest s s₁ → f va vb σ₁ = some (v, σ') → wpAny (MM X) A (t ra rb) Q NoE s₁) :
    wpAny (MM X) A (eval a env) (fun ra s₁ => wpAny (MM X) A (eval b env) (fun rb s₂ => wpAny (MM X) A (t ra rb) Q NoE s₂) NoE s₁) NoE s :=
  bind2g ha hb ad en S F e h
theorem sEb {l r : Expr} {op : Operator} {pos} {ml mr : Ex} {f} (ho : VOp2 X d (binaryOp op) f) (hl : SimE X d nm sc l ml) (hr : SimE X d nm sc r mr) : SimE X d nm sc (.BinOp l op r pos) (e2 f ml mr) :=
  .mk fun A env s β ρ σ v σ' ad en S F e => wpAny_BinOp (bind2 (t := binaryOp op) hl hr ad en S F e fun va ra vb rb β₁ σ₁ s₁ S₁ F₁ v1 v2 g r e' =>
    wpAny_mono (ho A s₁ β₁ σ₁ va vb ra rb v σ' ad S₁ v1 v2 e') (fun _ _ p => p.after g r) fun _ _ x => x)
theorem simE_cmp {l r : Expr} {op : CmpOp} {pos} {ml mr : Ex} {f} (ho : VOp2 X d (compareOp op) f) (hm : behindInMarks op r = false) (hl : SimE X d nm sc l ml) (hr : SimE X d nm sc r mr) :
    SimE X d nm sc (.Compare l [op] [r] pos) (e2 f ml mr) :=
  .mk fun A env s β ρ σ v σ' ad en S F e => wpAny_Compare1 (hm := hm) (bind2 (t := compareOp op) hl hr ad en S F e fun va ra vb rb β₁ σ₁ s₁ S₁ F₁ v1 v2 g r e' =>
    wpAny_mono (ho A s₁ β₁ σ₁ va vb ra rb v σ' ad S₁ v1 v2 e') (fun _ _ p => p.after g r) fun _ _ x => x)
theorem simE_un {a : Expr} {op : UnaryOp} {pos} {ma : Ex} {f} (ho : VOp1 X d (unaryOp op) f) (ha : SimE X d nm sc a ma) : SimE X d nm sc (.UnaryOp op a pos) (e1 f ma) :=
  .mk fun A env s β ρ σ v σ' ad en S F e => wpAny_UnaryOp (bind1 (t := unaryOp op) ha ad en S F e fun va ra β₁ σ₁ s₁ S₁ F₁ v1 g r e' =>
    wpAny_mono (ho A s₁ β₁ σ₁ va ra v σ' ad S₁ v1 e') (fun _ _ p => p.after g r) fun _ _ x => x)
theorem simE_if {t a b : Expr} {pos} {mt : Tx} {ma mb : Ex} (ht : SimT X d nm sc t mt) (ha : SimE X d nm sc a ma) (hb : SimE X d nm sc b mb) : SimE X d nm sc (.IfExp t a b pos) (eIf mt ma mb) :=
  .mk fun A env s β ρ σ v σ' ad en S F e => by
    unfold eIf at e
    split at e
    · rename_i σ₁ et
      refine wpAny_IfExp (wpAny_mono (ht.run A env s β ρ σ true σ₁ ad en S F et) (fun b s₁ p => ?_) fun _ _ x => x)
      obtain ⟨rfl, β₁, S₁, g, r⟩ := p
      simp only [if_true]
      exact wpAny_mono (ha.run A env s₁ β₁ ρ σ₁ v σ' ad en S₁ (F.mono g) e) (fun _ _ p => p.after g r) fun _ _ x => x
    · rename_i σ₁ et
      refine wpAny_IfExp (wpAny_mono (ht.run A env s β ρ σ false σ₁ ad en S F et) (fun b s₁ p => ?_) fun _ _ x => x)
      obtain ⟨rfl, β₁, S₁, g, r⟩ := p
      simp only [Bool.false_eq_true, if_false]
      exact wpAny_mono (hb.run A env s₁ β₁ ρ σ₁ v σ' ad en S₁ (F.mono g) e) (fun _ _ p => p.after g r) fun _ _ x => x
    · exact nosm e
theorem sLn : SimL X d nm sc [] (eL []) := .mk fun A env s β ρ σ v σ' pos _ _ S _ e => by
  apply so2 e
  exact wpAny_items_nil ⟨β, S, Grow.refl, .nil, Rest.refl⟩
theorem sLc {a : Expr} {r : List Expr} {ma : Ex} {mr : List Ex} (ha : SimE X d nm sc a ma) (hr : SimL X d nm sc r (eL mr)) (hs : ∀ x p, a ≠ .Starred x p) : SimL X d nm sc (a :: r) (eL (ma :: mr)) :=
  .mk fun A env s β ρ σ v σ' pos ad en S F e => by
    rw [eL] at e
    split at e
    · rename_i va σ₁ ea
      split at e
      · rename_i vs σ₂ er
        cases e
        have key : starEach (a :: r) env = (false, eval a env) :: starEach r env := by
          cases a <;> first | rfl | exact absurd rfl (hs _ _)
        rw [key]
        show wpAny _ A (spliced ((false, eval a env) :: backTo pos (starEach r env))) _ _ s
        refine Calls.spliced_cons (wpAny_mono (ha.run A env s β ρ σ va σ₁ ad en S F ea) (fun ra s₁ p => ?_) fun _ _ x => x)
        obtain ⟨β₁, S₁, g, vr, rs⟩ := p
        refine wpAny_mono (hr.run A env s₁ β₁ ρ σ₁ vs σ' pos ad en S₁ (F.mono g) er) (fun rvs s₂ p => ?_) fun _ _ x => x
        obtain ⟨β₂, S₂, g₂, vrs, rs₂⟩ := p
        exact ⟨β₂, S₂, g.trans g₂, .cons (vr.mono g₂) vrs, rs.trans rs₂⟩
      · exact nosm e
    · exact nosm e
end
noncomputable def VInv (h : Heap) (β : List Addr) (v : V) (r : Value) : Prop := match v with
  | .none => r = .none
  | .bool b => r = .bool b
  | .int i => ∃ t, r = .int i t
  | .str l => ∃ s t, s.cps.toList = l ∧ r = .str s t
  | .tup vs => ∃ a ws, r = .ref a ∧ h.IsTuple a ws.toArray ∧ VRels h β vs ws
  | .ref n => ∃ a, r = .ref a ∧ β[n]? = some a
  | .range a b c => ∃ ta tb tc x, r = .ref x ∧ h.get? x = some ⟨.type "range", none, .fields #[.int a ta, .int b tb, .int c tc], #[]⟩
  | .vals n => ∃ a x, r = .ref x ∧ β[n]? = some a ∧ h.IsValuesView x a
  | .opq => ∃ x, r = .ref x
theorem VRel.inv {h β v r} (x : VRel h β v r) : VInv h β v r := by
  cases x with
  | none => exact rfl
  | bool b => exact rfl
  | int i t => exact ⟨t, rfl⟩
  | str s t => exact ⟨s, t, rfl, rfl⟩
  | tup a b => exact ⟨_, _, rfl, a, b⟩
  | ref a => exact ⟨_, rfl, a⟩
  | range a => exact ⟨_, _, _, _, rfl, a⟩
  | vals a b => exact ⟨_, _, rfl, a, b⟩
  | opq r => exact ⟨r, rfl⟩
noncomputable def LInv (h : Heap) (β : List Addr) (vs : List V) (rs : List Value) : Prop := match vs with
  | [] => rs = []
  | v :: vs => ∃ r rs', rs = r :: rs' ∧ VRel h β v r ∧ VRels h β vs rs'
theorem VRels.inv {h β vs rs} (x : VRels h β vs rs) : LInv h β vs rs := by
  cases x with
  | nil => exact rfl
  | cons a b => exact ⟨_, _, rfl, a, b⟩
theorem VRel.i {h β i r} {P : Value → Prop} (x : VRel h β (.int i) r) (k : ∀ t, P (.int i t)) : P r := by obtain ⟨t, rfl⟩ := x.inv; exact k t
theorem VRel.n {h β r} {P : Value → Prop} (x : VRel h β .none r) (k : P .none) : P r := by obtain rfl := x.inv; exact k
theorem VRel.b {h β b r} {P : Value → Prop} (x : VRel h β (.bool b) r) (k : P (.bool b)) : P r := by obtain rfl := x.inv; exact k
theorem VRel.a {h β n r} {P : Value → Prop} (x : VRel h β (.ref n) r) (k : ∀ a, β[n]? = some a → P (.ref a)) : P r := by obtain ⟨a, rfl, e⟩ := x.inv; exact k a e
theorem VRel.o {h β r} {P : Value → Prop} (x : VRel h β .opq r) (k : ∀ a, P (.ref a)) : P r := by obtain ⟨a, rfl⟩ := x.inv; exact k a
theorem VRels.z {h β rs} {P : List Value → Prop} (x : VRels h β [] rs) (k : P []) : P rs := by obtain rfl := x.inv; exact k
theorem VRels.c {h β v vs rs} {P : List Value → Prop} (x : VRels h β (v :: vs) rs) (k : ∀ r rs', VRel h β v r → VRels h β vs rs' → P (r :: rs')) : P rs := by obtain ⟨r, rs', rfl, a, b⟩ := x.inv; exact k r rs' a b
theorem VRels.c1 {h β v rs} {P : List Value → Prop} (x : VRels h β [v] rs) (k : ∀ r, VRel h β v r → P [r]) : P rs := x.c fun r rs' a b => b.z (P := fun rs' => P (r :: rs')) (k r a)
theorem VRels.c2 {h β v w rs} {P : List Value → Prop} (x : VRels h β [v, w] rs) (k : ∀ r s, VRel h β v r → VRel h β w s → P [r, s]) : P rs := x.c fun r rs' a b => b.c1 (P := fun rs' => P (r :: rs')) fun s b => k r s a b
theorem VRels.c3 {h β v w u rs} {P : List Value → Prop} (x : VRels h β [v, w, u] rs) (k : ∀ r s t, VRel h β v r → VRel h β w s → VRel h β u t → P [r, s, t]) : P rs := x.c fun r rs' a b => b.c2 (P := fun rs' => P (r :: rs')) fun s t b c => k r s t a b c
section
variable {α : Type} {r : α}
noncomputable def V.onI (v : V) (f : Int → Option α) : Option α := V.casesOn (motive_1 := fun _ => Option α) v Option.none (fun _ => Option.none) f (fun _ => Option.none) (fun _ => Option.none) (fun _ => Option.none) (fun _ _ _ => Option.none) (fun _ => Option.none) Option.none
noncomputable def V.onR (v : V) (f : Nat → Option α) : Option α := V.casesOn (motive_1 := fun _ => Option α) v Option.none (fun _ => Option.none) (fun _ => Option.none) (fun _ => Option.none) (fun _ => Option.none) f (fun _ _ _ => Option.none) (fun _ => Option.none) Option.none
noncomputable def V.onT (v : V) (f : List V → Option α) : Option α := V.casesOn (motive_1 := fun _ => Option α) v Option.none (fun _ => Option.none) (fun _ => Option.none) (fun _ => Option.none) f (fun _ => Option.none) (fun _ _ _ => Option.none) (fun _ => Option.none) Option.none
noncomputable def V.onIS (v : V) (f : Int → Option α) (g : List Nat → Option α) : Option α := V.casesOn (motive_1 := fun _ => Option α) v Option.none (fun _ => Option.none) f g (fun _ => Option.none) (fun _ => Option.none) (fun _ _ _ => Option.none) (fun _ => Option.none) Option.none
noncomputable def V.onRTS (v : V) (f : Nat → Option α) (g : List V → Option α) (h : List Nat → Option α) : Option α := V.casesOn (motive_1 := fun _ => Option α) v Option.none (fun _ => Option.none) (fun _ => Option.none) h g f (fun _ _ _ => Option.none) (fun _ => Option.none) Option.none
noncomputable def V.onRS (v : V) (f : Nat → Option α) (h : List Nat → Option α) : Option α := V.casesOn (motive_1 := fun _ => Option α) v Option.none (fun _ => Option.none) (fun _ => Option.none) h (fun _ => Option.none) f (fun _ _ _ => Option.none) (fun _ => Option.none) Option.none
theorem V.onRS_e {v : V} {f : Nat → Option α} {h : List Nat → Option α} {P : V → Prop} (e : v.onRS f h = some r) (k : ∀ i, f i = some r → P (.ref i)) (k3 : ∀ i, h i = some r → P (.str i)) : P v := by
  induction v using V.casesOn <;> first | exact nosm e | exact k _ e | exact k3 _ e
theorem V.onI_e {v : V} {f : Int → Option α} {P : V → Prop} (e : v.onI f = some r) (k : ∀ i, f i = some r → P (.int i)) : P v := by
  induction v using V.casesOn <;> first | exact nosm e | exact k _ e
theorem V.onR_e {v : V} {f : Nat → Option α} {P : V → Prop} (e : v.onR f = some r) (k : ∀ i, f i = some r → P (.ref i)) : P v := by
  induction v using V.casesOn <;> first | exact nosm e | exact k _ e
theorem V.onT_e {v : V} {f : List V → Option α} {P : V → Prop} (e : v.onT f = some r) (k : ∀ i, f i = some r → P (.tup i)) : P v := by
  induction v using V.casesOn <;> first | exact nosm e | exact k _ e
theorem V.onIS_e {v : V} {f : Int → Option α} {g : List Nat → Option α} {P : V → Prop} (e : v.onIS f g = some r) (k : ∀ i, f i = some r → P (.int i)) (k2 : ∀ i, g i = some r → P (.str i)) : P v := by
  induction v using V.casesOn <;> first | exact nosm e | exact k _ e | exact k2 _ e
theorem V.onRTS_e {v : V} {f : Nat → Option α} {g : List V → Option α} {h : List Nat → Option α} {P : V → Prop} (e : v.onRTS f g h = some r) (k : ∀ i, f i = some r → P (.ref i)) (k2 : ∀ i, g i = some r → P (.tup i)) (k3 : ∀ i, h i = some r → P (.str i)) : P v := by
  induction v using V.casesOn <;> first | exact nosm e | exact k _ e | exact k2 _ e | exact k3 _ e
noncomputable def l0 (vs : List V) (a : Option α) : Option α := List.casesOn (motive := fun _ => Option α) vs a fun _ _ => none
noncomputable def l1 (vs : List V) (f : V → Option α) : Option α := List.casesOn (motive := fun _ => Option α) vs none fun a vs => l0 vs (f a)
noncomputable def l2 (vs : List V) (f : V → V → Option α) : Option α := List.casesOn (motive := fun _ => Option α) vs none fun a vs => l1 vs (f a)
noncomputable def l3 (vs : List V) (f : V → V → V → Option α) : Option α := List.casesOn (motive := fun _ => Option α) vs none fun a vs => l2 vs (f a)
noncomputable def l123 (vs : List V) (f : V → Option α) (g : V → V → Option α) (h : V → V → V → Option α) : Option α := List.casesOn (motive := fun _ => Option α) vs none fun a vs => List.casesOn (motive := fun _ => Option α) vs (f a) fun b vs => List.casesOn (motive := fun _ => Option α) vs (g a b) fun c vs => l0 vs (h a b c)
theorem l1_e {vs : List V} {f : V → Option α} {P : List V → Prop} (e : l1 vs f = some r) (k : ∀ a, f a = some r → P [a]) : P vs := by
  rcases vs with _ | ⟨a, vs⟩
  · exact nosm e
  · rcases vs with _ | ⟨b, vs⟩
    · exact k _ e
    · exact nosm e
theorem l2_e {vs : List V} {f : V → V → Option α} {P : List V → Prop} (e : l2 vs f = some r) (k : ∀ a b, f a b = some r → P [a, b]) : P vs := by
  rcases vs with _ | ⟨a, vs⟩
  · exact nosm e
  · exact l1_e (f := f a) (P := fun vs => P (a :: vs)) e fun b e => k a b e
theorem l3_e {vs : List V} {f : V → V → V → Option α} {P : List V → Prop} (e : l3 vs f = some r) (k : ∀ a b c, f a b c = some r → P [a, b, c]) : P vs := by
  rcases vs with _ | ⟨a, vs⟩
  · exact nosm e
  · exact l2_e (f := f a) (P := fun vs => P (a :: vs)) e fun b c e => k a b c e
theorem l123_e {vs : List V} {f : V → Option α} {g : V → V → Option α} {h : V → V → V → Option α} {P : List V → Prop} (e : l123 vs f g h = some r) (k1 : ∀ a, f a = some r → P [a]) (k2 : ∀ a b, g a b = some r → P [a, b]) (k3 : ∀ a b c, h a b c = some r → P [a, b, c]) : P vs := by
  rcases vs with _ | ⟨a, _ | ⟨b, _ | ⟨c, _ | ⟨d, vs⟩⟩⟩⟩ <;> first | exact nosm e | exact k1 _ e | exact k2 _ _ e | exact k3 _ _ _ e
noncomputable def oL (o : Option MO) (f : List V → Option α) : Option α := Option.casesOn (motive := fun _ => Option α) o none fun o => MO.casesOn (motive := fun _ => Option α) o f (fun _ => none) (fun _ => none) (fun _ => none) (fun _ _ _ _ _ => none)
noncomputable def oI (o : Option MO) (f : List (Int × V) → Option α) : Option α := Option.casesOn (motive := fun _ => Option α) o none fun o => MO.casesOn (motive := fun _ => Option α) o (fun _ => none) f (fun _ => none) (fun _ => none) (fun _ _ _ _ _ => none)
noncomputable def oS (o : Option MO) (f : List (List Nat × V) → Option α) : Option α := Option.casesOn (motive := fun _ => Option α) o none fun o => MO.casesOn (motive := fun _ => Option α) o (fun _ => none) (fun _ => none) f (fun _ => none) (fun _ _ _ _ _ => none)
noncomputable def oLI (o : Option MO) (f : List V → Option α) (g : List (Int × V) → Option α) : Option α := Option.casesOn (motive := fun _ => Option α) o none fun o => MO.casesOn (motive := fun _ => Option α) o f g (fun _ => none) (fun _ => none) (fun _ _ _ _ _ => none)
noncomputable def oIS (o : Option MO) (f : List (Int × V) → Option α) (g : List (List Nat × V) → Option α) : Option α := Option.casesOn (motive := fun _ => Option α) o none fun o => MO.casesOn (motive := fun _ => Option α) o (fun _ => none) f g (fun _ => none) (fun _ _ _ _ _ => none)
theorem oL_e {o : Option MO} {f : List V → Option α} {P : Prop} (e : oL o f = some r) (k : ∀ vs, o = some (.list vs) → f vs = some r → P) : P := by
  rcases o with _ | o
  · exact nosm e
  · induction o using MO.casesOn <;> first | exact nosm e | exact k _ rfl e
theorem oI_e {o : Option MO} {f : List (Int × V) → Option α} {P : Prop} (e : oI o f = some r) (k : ∀ vs, o = some (.dictI vs) → f vs = some r → P) : P := by
  rcases o with _ | o
  · exact nosm e
  · induction o using MO.casesOn <;> first | exact nosm e | exact k _ rfl e
theorem oLI_e {o : Option MO} {f : List V → Option α} {g : List (Int × V) → Option α} {P : Prop} (e : oLI o f g = some r) (k : ∀ vs, o = some (.list vs) → f vs = some r → P) (k2 : ∀ vs, o = some (.dictI vs) → g vs = some r → P) : P := by
  rcases o with _ | o
  · exact nosm e
  · induction o using MO.casesOn <;> first | exact nosm e | exact k _ rfl e | exact k2 _ rfl e
theorem oS_e {o : Option MO} {f : List (List Nat × V) → Option α} {P : Prop} (e : oS o f = some r) (k : ∀ vs, o = some (.dictS vs) → f vs = some r → P) : P := by
  rcases o with _ | o
  · exact nosm e
  · induction o using MO.casesOn <;> first | exact nosm e | exact k _ rfl e
theorem oIS_e {o : Option MO} {f : List (Int × V) → Option α} {g : List (List Nat × V) → Option α} {P : Prop} (e : oIS o f g = some r) (k : ∀ vs, o = some (.dictI vs) → f vs = some r → P) (k2 : ∀ vs, o = some (.dictS vs) → g vs = some r → P) : P := by
  rcases o with _ | o
  · exact nosm e
  · induction o using MO.casesOn <;> first | exact nosm e | exact k _ rfl e | exact k2 _ rfl e
theorem ife {c : Prop} [Decidable c] {a : Option α} {P : Prop} (e : (if c then a else none) = some r) (k : c → a = some r → P) : P := by
  by_cases h : c
  · rw [if_pos h] at e; exact k h e
  · rw [if_neg h] at e; exact nosm e
theorem obe {β : Type} {o : Option β} {f : β → Option α} {P : Prop} (e : o.bind f = some r) (k : ∀ a, o = some a → f a = some r → P) : P := by
  rcases o with _ | a
  · exact nosm e
  · exact k a rfl e
end
end
section
section
variable {X : Ctx} {d : Nat} {nm : List Str} {sc : Scope}
theorem set_get {ρ : R} {i j : Nat} {v w : V} (h : (ρ.set i (some v))[j]? = some (some w)) : (j = i ∧ w = v) ∨ (j ≠ i ∧ ρ[j]? = some (some w)) := by
  by_cases hj : j = i
  · subst hj
    rw [List.getElem?_set] at h
    simp only [if_true] at h
    split at h
    · cases h; exact .inl ⟨rfl, rfl⟩
    · exact nosm h
  · rw [List.getElem?_set_ne (Ne.symm hj)] at h
    exact .inr ⟨hj, h⟩
structure Stored (X : Ctx) (nm : List Str) (env : Env) (s : Shared) (β : List Addr) (ρ' : R) (σ : H) (u : Unit) (s' : Shared) : Prop where
  a : SRel X β σ s'.heap
  b : FRel X nm env ρ' β s'.heap
  c : Grow (fa env) β s.heap β s'.heap
  d : Rest s s'
theorem FRel.setBut {env : Env} {ρ : R} {β : List Addr} {h h' : Heap} {a : Addr} (F : FRel X nm env ρ β h) (hs : Heap.SameBut a h h') (ha : a ∈ fa env) (hl : ∃ o, h'.get? a = some o) : Grow (fa env) β h β h' :=
  Grow.change hs (.inr ha) (fun o e => by obtain ⟨o', e', q⟩ := F.live a ha; rw [e] at e'; cases e'; exact q) hl
theorem store_local {x : Str} {i : Nat} {A : Around} {env : Env} {s : Shared} {β : List Addr} {ρ : R} {σ : H} {v : V} {rv : Value} (hi : idx nm x = some i) (hk : env.kindOf x = some .local) (hf : env.scope.kind = .function)
    (S : SRel X β σ s.heap) (F : FRel X nm env ρ β s.heap) (vr : VRel s.heap β v rv) : wpAny (MM X) A (storeName env x rv) (Stored X nm env s β (ρ.set i (some v)) σ) NoE s := by
  obtain ⟨m, hm, hl⟩ := F.loc
  refine wpAny_storeName_local hk hm (fun h' hn' hs' => ?_) (by rw [hf]; rfl)
  have hlive : ∃ o, h'.get? env.locals = some o := let ⟨o, _, _, ho, _⟩ := hn'; ⟨o, ho⟩
  have g := F.setBut hs' (.head _) hlive
  refine ⟨S.other hs' (F.apart _ (.head _)) (F.base _ (.head _)) (fun o e => by obtain ⟨o', e', q⟩ := F.live _ (.head _); rw [e] at e'; cases e'; exact q) hlive, ?_, g, rfl, rfl⟩
  refine ⟨F.apart, F.base, ⟨_, hn', fun j y w e1 e2 e3 => ?_⟩, fun p hp => ?_, F.has, fun j y w e1 e2 e3 => ?_, F.inj, F.neq⟩
  · rcases set_get e3 with ⟨rfl, rfl⟩ | ⟨hj, e3⟩
    · have : y = x := idx_inj e1 hi
      exact ⟨rv, by rw [if_pos this], vr.mono g⟩
    · obtain ⟨r, h1, h2⟩ := hl j y w e1 e2 e3
      have : y ≠ x := fun q => hj (by subst q; rw [hi] at e1; apply so1 e1; rfl)
      exact ⟨r, by rw [if_neg this]; exact h1, h2.mono g⟩
  · obtain ⟨u, b⟩ := F.cells p hp
    exact ⟨u, b.sameBut hs' (F.neq p hp)⟩
  · rcases set_get e3 with ⟨rfl, rfl⟩ | ⟨hj, e3⟩
    · have : y = x := idx_inj e1 hi
      subst this
      rw [hk] at e2
      rcases e2 with e2 | e2 <;> cases e2
    · obtain ⟨c, r, h1, h2, h3⟩ := F.cellv j y w e1 e2 e3
      exact ⟨c, r, h1, h2.sameBut hs' (F.neq (y, c) (mem_of_lookup h1)), h3.mono g⟩
theorem store_cell {x : Str} {i : Nat} {A : Around} {env : Env} {s : Shared} {β : List Addr} {ρ : R} {σ : H} {v : V} {rv : Value} (hi : idx nm x = some i) (hk : env.kindOf x = some .cell) (hf : env.scope.kind = .function)
    (S : SRel X β σ s.heap) (F : FRel X nm env ρ β s.heap) (vr : VRel s.heap β v rv) : wpAny (MM X) A (storeName env x rv) (Stored X nm env s β (ρ.set i (some v)) σ) NoE s := by
  obtain ⟨c, hc⟩ := F.has x hk
  have mc := mem_fa_cell hc
  obtain ⟨v0, hv0⟩ := F.cells (x, c) (mem_of_lookup hc)
  refine wpAny_storeName_cell hf hk hc hv0 fun h' hn' hs' => ?_
  have hlive : ∃ o, h'.get? c = some o := let ⟨o, ho, _⟩ := hn'; ⟨o, ho⟩
  have g := F.setBut hs' mc hlive
  have cL : env.locals ≠ c := Ne.symm (F.neq (x, c) (mem_of_lookup hc))
  obtain ⟨m, hm, hl⟩ := F.loc
  refine ⟨S.other hs' (F.apart _ mc) (F.base _ mc) (fun o e => by obtain ⟨o', e', q⟩ := F.live _ mc; rw [e] at e'; cases e'; exact q) hlive, ?_, g, rfl, rfl⟩
  refine ⟨F.apart, F.base, ⟨m, hm.sameBut hs' cL, fun j y w e1 e2 e3 => ?_⟩, fun p hp => ?_, F.has, fun j y w e1 e2 e3 => ?_, F.inj, F.neq⟩
  · rcases set_get e3 with ⟨rfl, rfl⟩ | ⟨hj, e3⟩
    · have : y = x := idx_inj e1 hi
      subst this
      rw [hk] at e2; cases e2
    · obtain ⟨r, h1, h2⟩ := hl j y w e1 e2 e3
      exact ⟨r, h1, h2.mono g⟩
  · by_cases hp' : p.2 = c
    · exact ⟨_, hp' ▸ hn'⟩
    · obtain ⟨u, b⟩ := F.cells p hp
      exact ⟨u, b.sameBut hs' hp'⟩
  · rcases set_get e3 with ⟨rfl, rfl⟩ | ⟨hj, e3⟩
    · have : y = x := idx_inj e1 hi
      subst this
      exact ⟨c, rv, hc, hn', vr.mono g⟩
    · obtain ⟨c', r, h1, h2, h3⟩ := F.cellv j y w e1 e2 e3
      have : c' ≠ c := fun q => hj (by
        subst q
        have := F.inj y x _ h1 hc
        subst this; rw [hi] at e1; apply so1 e1; rfl)
      exact ⟨c', r, h1, h2.sameBut hs' this, h3.mono g⟩
theorem store_any {x : Str} {i : Nat} {A : Around} {env : Env} {s : Shared} {β : List Addr} {ρ : R} {σ : H} {v : V} {rv : Value} (hi : idx nm x = some i) (hk : sc.names.lookup x = some .local ∨ sc.names.lookup x = some .cell) (en : EnvOk X sc env)
    (S : SRel X β σ s.heap) (F : FRel X nm env ρ β s.heap) (vr : VRel s.heap β v rv) : wpAny (MM X) A (storeName env x rv) (Stored X nm env s β (ρ.set i (some v)) σ) NoE s := by
  rcases hk with hk | hk
  · exact store_local hi (by rw [en.kindOf]; exact hk) en.fn S F vr
  · exact store_cell hi (by rw [en.kindOf]; exact hk) en.fn S F vr
@[irreducible] noncomputable def sNil : Sx := fun ρ σ => some (.next, ρ, σ)
@[irreducible] noncomputable def sSeq (a b : Sx) : Sx := fun ρ σ => match a ρ σ with
  | some (.next, ρ₁, σ₁) => b ρ₁ σ₁
  | some (.ret v, ρ₁, σ₁) => some (.ret v, ρ₁, σ₁)
  | none => none
@[irreducible] noncomputable def sRet (a : Ex) : Sx := fun ρ σ => match a ρ σ with
  | some (v, σ₁) => some (.ret v, ρ, σ₁)
  | none => none
@[irreducible] noncomputable def sSet (i : Nat) (a : Ex) : Sx := fun ρ σ => match a ρ σ with
  | some (v, σ₁) => some (.next, ρ.set i (some v), σ₁)
  | none => none
@[irreducible] noncomputable def sIf (t : Tx) (a b : Sx) : Sx := fun ρ σ => match t ρ σ with
  | some (true, σ₁) => a ρ σ₁
  | some (false, σ₁) => b ρ σ₁
  | none => none
theorem sSn : SimSs X d nm sc [] sNil := .mk fun A env s β ρ σ f ρ' σ' _ _ S F e => by
  unfold sNil at e
  apply so3 e
  exact wpAny_execs_nil ⟨β, S, F, Grow.refl, .next, Rest.refl⟩
theorem SPost.after {env : Env} {s s₁ : Shared} {β β₁ : List Addr} {f : Fl} {ρ' : R} {σ' : H} {rf : Flow} {s' : Shared} (g : Grow (fa env) β s.heap β₁ s₁.heap) (r : Rest s s₁) (h : SPost X nm env s₁ β₁ f ρ' σ' rf s') : SPost X nm env s β f ρ' σ' rf s' := by
  obtain ⟨β', a, b, c, e, q⟩ := h
  exact ⟨β', a, b, g.trans c, e, r.trans q⟩
theorem sSc {st : Stmt} {r : List Stmt} {a b : Sx} (ha : SimS X d nm sc st a) (hb : SimSs X d nm sc r b) : SimSs X d nm sc (st :: r) (sSeq a b) := .mk fun A env s β ρ σ f ρ' σ' ad en S F e => by
  unfold sSeq at e
  split at e
  · rename_i ρ₁ σ₁ ea
    refine wpAny_execs_cons (wpAny_mono (ha.run A env s β ρ σ .next ρ₁ σ₁ ad en S F ea) (fun rf s₁ p => ?_) fun _ _ x => x)
    obtain ⟨β₁, S₁, F₁, g, fr, rs⟩ := p
    cases fr
    exact wpAny_mono (hb.run A env s₁ β₁ ρ₁ σ₁ f ρ' σ' ad en S₁ F₁ e) (fun _ _ p => p.after g rs) fun _ _ x => x
  · rename_i v ρ₁ σ₁ ea
    apply so3 e
    refine wpAny_execs_cons (wpAny_mono (ha.run A env s β ρ σ _ _ _ ad en S F ea) (fun rf s₁ p => ?_) fun _ _ x => x)
    obtain ⟨β₁, S₁, F₁, g, fr, rs⟩ := p
    cases fr with
    | ret vr => exact ⟨β₁, S₁, F₁, g, .ret vr, rs⟩
  · exact nosm e
theorem sSr {a : Expr} {pos} {ma : Ex} (ha : SimE X d nm sc a ma) : SimS X d nm sc (.Return (some a) pos) (sRet ma) := .mk fun A env s β ρ σ f ρ' σ' ad en S F e => by
  unfold sRet at e
  split at e
  · rename_i v σ₁ ea
    cases e
    refine wpAny_Return_some (wpAny_mono (ha.run A env s β ρ σ v σ' ad en S F ea) (fun rv s₁ p => ?_) fun _ _ x => x)
    obtain ⟨β₁, S₁, g, vr, rs⟩ := p
    exact ⟨β₁, S₁, F.mono g, g.nil, .ret vr, rs⟩
  · exact nosm e
theorem sSi {t : Expr} {b o : List Stmt} {pos} {mt : Tx} {mb mo : Sx} (ht : SimT X d nm sc t mt) (hb : SimSs X d nm sc b mb) (ho : SimSs X d nm sc o mo) : SimS X d nm sc (.If t b o pos) (sIf mt mb mo) :=
  .mk fun A env s β ρ σ f ρ' σ' ad en S F e => by
    unfold sIf at e
    split at e
    · rename_i σ₁ et
      refine wpAny_If (wpAny_mono (ht.run A env s β ρ σ true σ₁ ad en S F et) (fun b s₁ p => ?_) fun _ _ x => x)
      obtain ⟨rfl, β₁, S₁, g, r⟩ := p
      simp only [if_true]
      exact wpAny_mono (hb.run A env s₁ β₁ ρ σ₁ f ρ' σ' ad en S₁ (F.mono g) e) (fun _ _ p => p.after g.nil r) fun _ _ x => x
    · rename_i σ₁ et
      refine wpAny_If (wpAny_mono (ht.run A env s β ρ σ false σ₁ ad en S F et) (fun b s₁ p => ?_) fun _ _ x => x)
      obtain ⟨rfl, β₁, S₁, g, r⟩ := p
      simp only [Bool.false_eq_true, if_false]
      exact wpAny_mono (ho.run A env s₁ β₁ ρ σ₁ f ρ' σ' ad en S₁ (F.mono g) e) (fun _ _ p => p.after g.nil r) fun _ _ x => x
    · exact nosm e
theorem Stored.spost {env : Env} {s s₁ : Shared} {β β₁ : List Addr} {ρ' : R} {σ' : H} {u : Unit} {s' : Shared} (h : Stored X nm env s₁ β₁ ρ' σ' u s') (g : Grow (fa env) β s.heap β₁ s₁.heap) (r : Rest s s₁) : SPost X nm env s β .next ρ' σ' .next s' :=
  ⟨β₁, h.1, h.2, g.trans h.3, .next, r.trans h.4⟩
theorem sSs {x : Str} {i : Nat} {a : Expr} {p pos} {ma : Ex} (ha : SimE X d nm sc a ma) (hi : idx nm x = some i) (hk : sc.names.lookup x = some .local ∨ sc.names.lookup x = some .cell)
    (hs : ∀ env : Env, env.scope = sc → swapsWith a (some (.Name x p)) pos.line env = pure false) : SimS X d nm sc (.Assign [.Name x p] a pos) (sSet i ma) := .mk fun A env s β ρ σ f ρ' σ' ad en S F e => by
  unfold sSet at e
  split at e
  · rename_i v σ₁ ea
    cases e
    refine wpAny_Assign_Name (hs := hs env en.scope) (wpAny_mono (ha.run A env s β ρ σ v σ' ad en S F ea) (fun rv s₁ p => ?_) fun _ _ x => x)
    obtain ⟨β₁, S₁, g, vr, rs⟩ := p
    exact wpAny_mono (store_any hi hk en S₁ (F.mono g) vr) (fun _ s₂ q => q.spost g.nil rs) fun _ _ x => x
  · exact nosm e
end
end
section
noncomputable def put {κ : Type} [DecidableEq κ] : List (κ × V) → κ → V → List (κ × V)
  | [], k, v => [(k, v)]
  | (k', v') :: r, k, v => if k' = k then (k', v) :: r else (k', v') :: put r k v
noncomputable def look {κ : Type} [DecidableEq κ] : List (κ × V) → κ → Option V
  | [], _ => none
  | (k', v') :: r, k => if k' = k then some v' else look r k
theorem map_id_of {κ : Type} [DecidableEq κ] (k : κ) (r : Value) : ∀ (rks : List (κ × Value)), (∀ p ∈ rks, p.1 ≠ k) → (rks.map fun kv => if kv.1 = k then (kv.1, r) else kv) = rks
  | [], _ => rfl
  | p :: t, h => by
    rw [List.map_cons, if_neg (h p (.head _)), map_id_of k r t fun q hq => h q (.tail _ hq)]
theorem stored_cons {κ : Type} [DecidableEq κ] (k' k : κ) (r' r : Value) (rks : List (κ × Value)) (hn : ((k', r') :: rks).map (·.1) |>.Nodup) :
    stored ((k', r') :: rks) k r = if k' = k then (k', r) :: rks else (k', r') :: stored rks k r := by
  simp only [List.map_cons, List.nodup_cons] at hn
  by_cases h : k' = k
  · subst h
    simp only [stored, List.any_cons, decide_true, Bool.true_or, if_true, List.map_cons]
    rw [map_id_of k' r rks fun p hp q => hn.1 (q ▸ List.mem_map_of_mem hp)]
  · simp only [stored, List.any_cons, h, decide_false, Bool.false_or, if_false, List.map_cons]
    split <;> rfl
theorem KVI.put {h β} {v : V} {r : Value} (hv : VRel h β v r) (k : Int) {kvs rks} (x : KVI h β kvs rks) (hn : (rks.map (·.1)).Nodup) : KVI h β (put kvs k v) (stored rks k r) := by
  induction x with
  | nil => exact .cons hv .nil
  | cons x t ih =>
    rw [stored_cons _ _ _ _ _ hn]
    have := ih (List.nodup_cons.mp hn).2
    unfold Mine.Internal.put
    split
    · exact .cons hv t
    · exact .cons x this
theorem KVS.put {h β} {v : V} {r : Value} (hv : VRel h β v r) (k : Str) {kvs rks} (x : KVS h β kvs rks) (hn : (rks.map (·.1)).Nodup) : KVS h β (put kvs k.cps.toList v) (stored rks k r) := by
  induction x with
  | nil => exact .cons hv .nil
  | @cons k' _ _ _ _ x t ih =>
    rw [stored_cons _ _ _ _ _ hn]
    have := ih (List.nodup_cons.mp hn).2
    unfold Mine.Internal.put
    by_cases e : k' = k
    · subst e
      rw [if_pos rfl, if_pos rfl]
      exact .cons hv t
    · have e' : ¬ k'.cps.toList = k.cps.toList := fun q => e (by cases k'; cases k; simpa using q)
      rw [if_neg e, if_neg e']
      exact .cons x this
theorem KVI.length {h β kvs rks} (x : KVI h β kvs rks) : kvs.length = rks.length := by
  induction x with
  | nil => rfl
  | cons _ _ ih => exact congrArg Nat.succ ih
theorem KVS.length {h β kvs rks} (x : KVS h β kvs rks) : kvs.length = rks.length := by
  induction x with
  | nil => rfl
  | cons _ _ ih => exact congrArg Nat.succ ih
theorem KVI.look {h β} (k : Int) {kvs rks} (x : KVI h β kvs rks) : match look kvs k with
    | some v => ∃ r, valueAt rks k = some r ∧ VRel h β v r
    | none => valueAt rks k = none := by
  induction x with
  | nil => rfl
  | @cons k' _ _ _ _ x t this =>
    unfold Mine.Internal.look
    by_cases e : k' = k
    · subst e
      simp only [if_true]
      exact ⟨_, by simp [valueAt], x⟩
    · simp only [e, if_false]
      have q : ∀ r (l : List (Int × Value)), valueAt ((k', r) :: l) k = valueAt l k := fun r l => by simp [valueAt, List.find?_cons, e]
      simp only [q]
      exact this
theorem KVS.look {h β} (k : Str) {kvs rks} (x : KVS h β kvs rks) : match look kvs k.cps.toList with
    | some v => ∃ r, valueAt rks k = some r ∧ VRel h β v r
    | none => valueAt rks k = none := by
  induction x with
  | nil => rfl
  | @cons k' _ _ _ _ x t this =>
    unfold Mine.Internal.look
    by_cases e : k' = k
    · subst e
      simp only [if_true]
      exact ⟨_, by simp [valueAt], x⟩
    · have e' : ¬ k'.cps.toList = k.cps.toList := fun q => e (by cases k'; cases k; simpa using q)
      simp only [e', if_false]
      have q : ∀ r (l : List (Str × Value)), valueAt ((k', r) :: l) k = valueAt l k := fun r l => by simp [valueAt, List.find?_cons, e]
      simp only [q]
      exact this
section
variable {prog : Program} {w : World} {K : Type} [DecidableEq K] {knd : KeyKind prog w K} {A : Around} {E : Value → Shared → Prop} {s : Shared}
theorem dictSet_at {d : Addr} {kvs : List (K × Value)} {k : K} {key v : Value} {Q : Unit → Shared → Prop} (hkey : knd.is k key = true) (hm : s.heap.DictAt knd d kvs kvs.length) (hsz : kvs.length ≤ sizeLine)
    (hQ : ∀ h', h'.DictAt knd d (stored kvs k v) (stored kvs k v).length → Heap.SameBut d s.heap h' → Q () { s with heap := h', toks := s.toks + 1 }) :
    wpAny (model prog w) A (dictSet d key v) Q E s := by
  obtain ⟨o, ⟨es⟩, ho, hc, hd, hk, hp, hn⟩ := hm
  have hes : (⟨es⟩ : Array DictEntry).size ≤ sizeLine := by have := hp.length; simp at this ⊢; lia
  unfold dictSet
  try with_reducible refine wpAny_holding ?_
  refine wpAny_bind (knd.pyHash hkey ?_)
  unfold dictSetHashed
  try with_reducible refine wpAny_holding ?_
  refine wpAny_bind (wpAny_dictFind_of (s := { s with toks := s.toks + 1 }) hkey ho hd hk ?_)
  have hidx : ((⟨es⟩ : Array DictEntry).findIdx? fun e => knd.is k e.key) = kvs.findIdx? fun kv => decide (kv.1 = k) := by
    rw [← hp.findIdx k]; simp
  cases hi : (⟨es⟩ : Array DictEntry).findIdx? fun e => knd.is k e.key with
  | some i =>
    have hst : stored kvs k v = kvs.map (fun kv => if kv.1 = k then (kv.1, v) else kv) := if_pos (any_of_findIdx_some (hidx ▸ hi))
    have hl : (es.findIdx? fun e => knd.is k e.key) = some i := by rw [← hi]; simp
    refine wpAny_bind (wpAny_rule (wpAny_bind (wpAny_updateDict (s := { s with toks := s.toks + 1 }) ho hd (wpAny_point (hQ _ ?_ (Heap.SameBut.update ..))))))
    refine ⟨_, _, Heap.get?_update_self _ ho (Obj.isFreed_of_dict (Obj.data_mapDict hd _)), hc.mapDict _, (Obj.data_mapDict hd _).trans (by rw [hst, List.length_map]), hk.modify _ _, ?_, ?_⟩
    · rw [hst]; simpa using hp.modify hn hl v
    · rw [hst, keys_map_store]; exact hn
  | none =>
    have hnot : k ∉ kvs.map (·.1) := not_mem_of_findIdx_none (hidx ▸ hi)
    have hst : stored kvs k v = kvs ++ [(k, v)] := if_neg fun hany => by
      rw [List.any_eq_true] at hany
      obtain ⟨kv, hkv, he⟩ := hany
      exact hnot (List.mem_map.mpr ⟨kv, hkv, of_decide_eq_true he⟩)
    refine wpAny_bind (wpAny_rule (wpAny_updateDictKeys (hz := hes) (s := { s with toks := s.toks + 1 }) ho hd (hQ _ ?_ (Heap.SameBut.update ..))))
    refine ⟨_, _, Heap.get?_update_self _ ho (Obj.isFreed_of_dict (Obj.data_mapDictKeys hd _)), hc.mapDictKeys _, (Obj.data_mapDictKeys hd _).trans (by rw [hst, List.length_append]; rfl), hk.push hkey _, ?_, ?_⟩
    · rw [hst]; simpa using hp.append hkey (knd.hash k) v
    · rw [hst, List.map_append, List.nodup_append]
      refine ⟨hn, by simp, ?_⟩
      intro a ha b hb
      simp only [List.map_cons, List.map_nil, List.mem_singleton] at hb
      subst hb
      exact fun e => hnot (e ▸ ha)
theorem setItem_at {d : Addr} {kvs : List (K × Value)} {k : K} {key v : Value} {Q : Unit → Shared → Prop} (hkey : knd.is k key = true) (hm : s.heap.DictAt knd d kvs kvs.length) (hsz : kvs.length ≤ sizeLine)
    (hQ : ∀ h', h'.DictAt knd d (stored kvs k v) (stored kvs k v).length → Heap.SameBut d s.heap h' → Q () { s with heap := h', toks := s.toks + 1 }) :
    wpAny (model prog w) A (setItem (.ref d) key v) Q E s := by
  have hT : s.TypeIs (.ref d) "dict" := hm.dictOf.typeIs
  unfold setItem
  try with_reducible refine wpAny_holding ?_
  refine wpAny_bind (wpAny_sequenceKey hT (by decide) ?_)
  refine wpAny_bind (wpAny_callSpecial?_slot (name := Str.ofString "__setitem__") hT slot_dict_setitem
    (wpAny_call_entry slot_dict_setitem hT entry_dict_setitem ?_ (args_dict_setitem _ _ _)))
  show wpAny _ _ (Builtin.Dict.notOrdered "__setitem__" ⟨[.ref d, key, v], []⟩ >>= _) _ _ s
  refine wpAny_bind (wpAny_notOrdered_dict hT ?_)
  show wpAny _ _ (dictSet d key v >>= _) _ _ s
  exact wpAny_bind (dictSet_at hkey hm hsz fun h' hm' hs' => wpAny_pure ⟨.none, rfl, wpAny_pure (hQ h' hm' hs')⟩)
end
section
variable {prog : Program} {w : World} {A : Around} {E : Value → Shared → Prop} {s : Shared}
theorem setList_at {l : Addr} {items : Array Value} {n : Nat} {k : Int} {t : Tok} {v : Value} {Q : Unit → Shared → Prop} (hl : s.heap.get? l = some (listOf items n))
    (h0 : 0 ≤ k) (hfit : k < 2 ^ 63) (hn : k < items.size)
    (hQ : ∀ h', h'.get? l = some (listOf (items.setIfInBounds k.toNat v) n) → Heap.SameBut l s.heap h' → Q () { s with heap := h' }) :
    wpAny (model prog w) A (setItem (.ref l) (.int k t) v) Q E s := by
  have hT : s.TypeIs (.ref l) "list" := (isList_of hl).typeIs
  unfold setItem
  try with_reducible refine wpAny_holding ?_
  first | refine wpAny_bind (wpAny_pure ?_) | skip
  refine wpAny_bind (wpAny_sequenceKey hT (by decide) ?_)
  refine wpAny_bind (wpAny_callSpecial?_slot (name := Str.ofString "__setitem__") hT slot_list_setitem
    (wpAny_call_entry slot_list_setitem hT entry_list_setitem ?_ (args_list_setitem _ _ _)))
  show wpAny _ _ (Builtin.List.listSubscript? (.int k t) >>= _) _ _ s
  refine wpAny_bind (wpAny_listSubscript_int (fitsIndex_of h0 hfit) ?_)
  clear hfit
  obtain ⟨j, rfl⟩ := Int.eq_ofNat_of_zero_le h0
  have hj : j < items.size := by lia
  have hx' : items[j]? = some items[j] := Array.getElem?_eq_getElem hj
  show wpAny _ _ ((seqItemAt l j >>= fun r => pure (r.map (j, ·))) >>= _) _ _ s
  refine wpAny_bind (wpAny_bind (wpAny_seqItemAt hl rfl (wpAny_pure ?_)))
  rw [hx']
  show wpAny _ _ (setSeqItemAt l j v >>= _) _ _ s
  have hfin : (s.heap.update l (Obj.mapSeq (·.setIfInBounds j v))).get? l = some (listOf (items.setIfInBounds j v) n) := by
    rw [Heap.get?_update_self _ hl rfl]
    simp [Obj.mapSeq]
  refine wpAny_bind (wpAny_setSeqItemAt hl rfl ?_)
  first
    | exact wpAny_bind (wpAny_pure (wpAny_pure ⟨.none, rfl, wpAny_pure (hQ _ hfin (Heap.SameBut.update ..))⟩))
    | exact wpAny_pure ⟨.none, rfl, wpAny_pure (hQ _ hfin (Heap.SameBut.update ..))⟩
end
noncomputable def vSet (o i v : V) (σ : H) : Option H := o.onR fun n => i.onIS
  (fun k => oLI σ[n]? (fun vs => if 0 ≤ k ∧ k < vs.length ∧ vs.length ≤ 100000 then some (σ.set n (.list (vs.set k.toNat v))) else none)
    fun kvs => if kvs.length ≤ 100000 then some (σ.set n (.dictI (put kvs k v))) else none)
  fun x => oS σ[n]? fun kvs => if kvs.length ≤ 100000 then some (σ.set n (.dictS (put kvs x v))) else none
section
variable {X : Ctx} {d : Nat} {nm : List Str} {sc : Scope}
structure HPost (X : Ctx) (s : Shared) (β : List Addr) (σ' : H) (u : Unit) (s' : Shared) : Prop where
  a : SRel X β σ' s'.heap
  b : Grow [] β s.heap β s'.heap
  c : Rest s s'
theorem dict_alive {K : Type} [DecidableEq K] {knd : KeyKind X.prog X.w K} {h : Heap} {a : Addr} {kvs ep} (x : h.DictAt knd a kvs ep) : ∃ o, h.get? a = some o := let ⟨o, _, ho, _⟩ := x; ⟨o, ho⟩
theorem vset_ok {A : Around} {s : Shared} {β : List Addr} {σ σ' : H} {o i v : V} {ro ri rv : Value} (S : SRel X β σ s.heap) (vo : VRel s.heap β o ro) (vi : VRel s.heap β i ri) (vv : VRel s.heap β v rv)
    (e : vSet o i v σ = some σ') : wpAny (MM X) A (setItem ro ri rv) (HPost X s β σ') NoE s := by
  unfold vSet at e
  revert vo; apply V.onR_e e; intro n e vo
  apply vo.a; intro a hn
  revert vi; apply V.onIS_e e
  · intro k e vi
    apply vi.i; intro t
    apply oLI_e e
    · intro vs hvs e
      · apply ife e; intro hb e
        apply so1 e
        obtain ⟨ws, kk, hl, hr⟩ := S.obj n _ a hvs hn
        have hlen : (ws.toArray.size : Int) = vs.length := by rw [hr.length]; simp
        have h1 := hb.2.1
        have h2 := hb.2.2
        refine setList_at hl hb.1 (by lia) (by rw [hlen]; exact h1) fun h' hl' hs' => ?_
        have hlv : ∃ o, h'.get? a = some o := ⟨_, hl'⟩
        exact ⟨S.set hn hs' (fun g => ⟨ws.set k.toNat rv, kk, by simpa using hl', (hr.mono g).set (vv.mono g) _⟩) hlv, S.setGrow hn hs' hlv, rfl, rfl⟩
    · intro kvs hkvs e
      · apply ife e; intro hb e
        apply so1 e
        obtain ⟨rks, hd, hr⟩ := S.obj n _ a hkvs hn
        refine setItem_at (intKind_is _ _ k t) hd (by rw [sizeLine_eq, ← hr.length]; lia) fun h' hd' hs' => ?_
        have hlv := dict_alive hd'
        exact ⟨S.set hn hs' (fun g => ⟨_, hd', (hr.mono g).put (vv.mono g) k hd.nodup⟩) hlv, S.setGrow hn hs' hlv, rfl, rfl⟩
  · intro x e vi
    obtain ⟨x, t, rfl, rfl⟩ := vi.inv
    apply oS_e e; intro kvs hkvs e
    · apply ife e; intro hb e
      · apply so1 e
        obtain ⟨rks, hd, hr⟩ := S.obj n _ a hkvs hn
        refine setItem_at (strKind_is _ _ x t) hd (by rw [sizeLine_eq, ← hr.length]; lia) fun h' hd' hs' => ?_
        have hlv := dict_alive hd'
        exact ⟨S.set hn hs' (fun g => ⟨_, hd', (hr.mono g).put (vv.mono g) x hd.nodup⟩) hlv, S.setGrow hn hs' hlv, rfl, rfl⟩
@[irreducible] noncomputable def sPut (o i v : Ex) : Sx := fun ρ σ => match v ρ σ with
  | some (vv, σ₁) => match o ρ σ₁ with
    | some (vo, σ₂) => match i ρ σ₂ with
      | some (vi, σ₃) => match vSet vo vi vv σ₃ with
        | some σ₄ => some (.next, ρ, σ₄)
        | none => none
      | none => none
    | none => none
  | none => none
theorem simS_put {o i v : Expr} {p pos} {mo mi mv : Ex} (hv : SimE X d nm sc v mv) (ho : SimE X d nm sc o mo) (hi : SimE X d nm sc i mi) (hs : ∀ env : Env, env.scope = sc → swapsWith v (some (.Subscript o i p)) pos.line env = pure false) :
    SimS X d nm sc (.Assign [.Subscript o i p] v pos) (sPut mo mi mv) := .mk fun A env s β ρ σ f ρ' σ' ad en S F e => by
  unfold sPut at e
  split at e
  · rename_i vv σ₁ e1
    split at e
    · rename_i vo σ₂ e2
      split at e
      · rename_i vi σ₃ e3
        split at e
        · rename_i σ₄ e4
          apply so3 e
          refine wpAny_Assign_Subscript (hs := hs env en.scope) (wpAny_mono (hv.run A env s β ρ σ _ _ ad en S F e1) (fun rv s₁ p => ?_) fun _ _ x => x)
          obtain ⟨β₁, S₁, g₁, v₁, r₁⟩ := p
          refine wpAny_mono (ho.run A env s₁ β₁ ρ σ₁ _ _ ad en S₁ (F.mono g₁) e2) (fun ro s₂ p => ?_) fun _ _ x => x
          obtain ⟨β₂, S₂, g₂, v₂, r₂⟩ := p
          refine wpAny_mono (hi.run A env s₂ β₂ ρ σ₂ _ _ ad en S₂ ((F.mono g₁).mono g₂) e3) (fun ri s₃ p => ?_) fun _ _ x => x
          obtain ⟨β₃, S₃, g₃, v₃, r₃⟩ := p
          refine wpAny_mono (vset_ok S₃ (v₂.mono g₃) v₃ ((v₁.mono g₂).mono g₃) e4) (fun _ s₄ p => ?_) fun _ _ x => x
          obtain ⟨S₄, g₄, r₄⟩ := p
          have G := ((g₁.trans g₂).trans g₃).trans g₄
          exact ⟨β₃, S₄, F.mono G, G.nil, .next, ((r₁.trans r₂).trans r₃).trans r₄⟩
        · exact nosm e
      · exact nosm e
    · exact nosm e
  · exact nosm e
theorem load_var {x : Str} {i : Nat} {A env s β ρ σ} {v : V} (hi : idx nm x = some i) (hk : sc.names.lookup x = some .local ∨ sc.names.lookup x = some .cell ∨ sc.names.lookup x = some .free)
    (hn : (x == ("__classdict__" : Str)) = false) (en : EnvOk X sc env) (S : SRel X β σ s.heap) (F : FRel X nm env ρ β s.heap) (hv : ρ[i]? = some (some v)) :
    wpAny (MM X) A (loadName env x) (fun rv s' => s' = s ∧ VRel s.heap β v rv) NoE s := by
  have hk' : env.kindOf x = some .local ∨ env.kindOf x = some .cell ∨ env.kindOf x = some .free := by rw [en.kindOf]; exact hk
  rcases hk' with hk' | hk' | hk'
  · obtain ⟨m, hm, hl⟩ := F.loc
    obtain ⟨rv, h1, h2⟩ := hl i x v hi hk' hv
    exact wpAny_loadName_local en.fn hk' hm h1 ⟨rfl, h2⟩
  · obtain ⟨c, rv, h1, h2, h3⟩ := F.cellv i x v hi (.inl hk') hv
    exact wpAny_loadName_cell en.fn hk' h1 h2 ⟨rfl, h3⟩
  · obtain ⟨c, rv, h1, h2, h3⟩ := F.cellv i x v hi (.inr hk') hv
    exact wpAny_loadName_free en.fn hk' h1 h2 ⟨rfl, h3⟩ hn
theorem simS_aug {x : Str} {i : Nat} {a : Expr} {op : Operator} {p pos} {ma : Ex} {f : V → V → H → Option (V × H)} (ho : VOp2 X d (inplaceOp op) f) (ha : SimE X d nm sc a ma) (hi : idx nm x = some i)
    (hk : sc.names.lookup x = some .local ∨ sc.names.lookup x = some .cell) (hn : (x == ("__classdict__" : Str)) = false) : SimS X d nm sc (.AugAssign (.Name x p) op a pos) (sSet i (e2 f (eV i) ma)) := .mk fun A env s β ρ σ fl ρ' σ' ad en S F e => by
  unfold sSet e2 eV at e
  cases hv : ρ[i]? with
  | none => simp [hv] at e
  | some ov =>
    induction ov using Option.casesOn with
    | none => simp [hv] at e
    | some v =>
      simp only [hv] at e
      split at e
      · rename_i w σ₁ ea
        apply so3 e
        split at ea
        · rename_i vb σ₂ eb
          refine wpAny_AugAssign_Name (wpAny_mono (load_var hi (hk.imp id .inl) hn en S F hv) (fun rv s₁ q => ?_) fun _ _ x => x)
          obtain ⟨rfl, vr⟩ := q
          refine wpAny_mono (ha.run A env s₁ β ρ σ vb σ₂ ad en S F eb) (fun rb s₂ q => ?_) fun _ _ x => x
          obtain ⟨β₂, S₂, g₂, v₂, r₂⟩ := q
          refine wpAny_mono (ho A s₂ β₂ σ₂ v vb rv rb w _ ad S₂ (vr.mono g₂) v₂ ea) (fun rw' s₃ q => ?_) fun _ _ x => x
          obtain ⟨β₃, S₃, g₃, v₃, r₃⟩ := q
          exact wpAny_mono (store_any hi hk en S₃ ((F.mono g₂).mono g₃) v₃) (fun _ s₄ q => q.spost (g₂.trans g₃).nil (r₂.trans r₃)) fun _ _ x => x
        · exact nosm ea
      · exact nosm e
@[irreducible] noncomputable def sDo (a : Ex) : Sx := fun ρ σ => match a ρ σ with
  | some (.none, σ₁) => some (.next, ρ, σ₁)
  | _ => none
theorem sSd {a : Expr} {pos} {ma : Ex} (ha : SimE X d nm sc a ma) (hs : ∀ env : Env, swapsWith a none pos.line env = pure false) : SimS X d nm sc (.Expr a pos) (sDo ma) := .mk fun A env s β ρ σ f ρ' σ' ad en S F e => by
  unfold sDo at e
  split at e
  · rename_i σ₁ ea
    apply so3 e
    refine wpAny_Expr (hi := by unfold interactive; rw [en.fn]; rfl) (hs := hs env) (wpAny_mono (ha.run A env s β ρ σ _ _ ad en S F ea) (fun rv s₁ p => ?_) fun _ _ x => x)
    obtain ⟨β₁, S₁, g, vr, rs⟩ := p
    apply vr.n
    exact ⟨β₁, S₁, F.mono g, g.nil, .next, rs⟩
  · exact nosm e
inductive Tg where
  | one (i : Nat)
  | many (is : List Nat)
noncomputable def setAll : List Nat → List V → R → Option R
  | [], [], ρ => some ρ
  | i :: is, v :: vs, ρ => setAll is vs (ρ.set i (some v))
  | _, _, _ => none
noncomputable def Tg.bind : Tg → V → R → Option R
  | .one i, v, ρ => some (ρ.set i (some v))
  | .many is, .tup vs, ρ => setAll is vs ρ
  | .many _, _, _ => none
noncomputable def TgsOk (nm : List Str) (sc : Scope) : List Expr → List Nat → Prop
  | [], [] => True
  | .Name x _ :: es, i :: is => (idx nm x = some i ∧ (sc.names.lookup x = some .local ∨ sc.names.lookup x = some .cell)) ∧ TgsOk nm sc es is
  | _, _ => False
noncomputable def TgOk (nm : List Str) (sc : Scope) : Expr → Tg → Prop
  | .Name x _, .one i => idx nm x = some i ∧ (sc.names.lookup x = some .local ∨ sc.names.lookup x = some .cell)
  | .Tuple es _ _, .many is => TgsOk nm sc es is
  | _, _ => False
theorem VRel.list_inv {h β vs r} (x : VRel h β (.tup vs) r) : ∃ a ws, r = .ref a ∧ h.IsTuple a ws.toArray ∧ VRels h β vs ws := by
  cases x with
  | tup e hs => exact ⟨_, _, rfl, e, hs⟩
theorem setAll_len : ∀ {is : List Nat} {vs : List V} {ρ ρ' : R}, setAll is vs ρ = some ρ' → is.length = vs.length
  | [], [], _, _, _ => rfl
  | i :: is, v :: vs, ρ, ρ', e => congrArg Nat.succ (setAll_len (is := is) (vs := vs) (ρ := ρ.set i (some v)) e)
  | [], _ :: _, _, _, e => nosm e
  | _ :: _, [], _, _, e => nosm e
theorem assignAll_ok {A : Around} {env : Env} (en : EnvOk X sc env) : ∀ {es : List Expr} {is : List Nat} {vs : List V} {ws : List Value} {s : Shared} {β : List Addr} {ρ ρ' : R} {σ : H}, TgsOk nm sc es is → setAll is vs ρ = some ρ' →
    SRel X β σ s.heap → FRel X nm env ρ β s.heap → VRels s.heap β vs ws → wpAny (MM X) A (assignInOrder ((assignEach es env).map (·.2)) ws) (Stored X nm env s β ρ' σ) NoE s
  | [], [], vs, ws, s, β, ρ, ρ', σ, _, e, S, F, v => by
    induction vs using List.casesOn with
    | nil => apply so1 e; apply v.z; exact wpAny_pure ⟨S, F, Grow.refl, Rest.refl⟩
    | cons => exact nosm e
  | e₀ :: es, is, vs, ws, s, β, ρ, ρ', σ, hT, e, S, F, v => by
    cases e₀ with
    | Name x p =>
      induction is using List.casesOn with
      | nil => exact hT.elim
      | cons i is =>
        induction vs using List.casesOn with
        | nil => exact nosm e
        | cons v' vs =>
          cases v with
          | cons v1 v2 =>
            rename_i r rs
            have hT' : (idx nm x = some i ∧ (sc.names.lookup x = some .local ∨ sc.names.lookup x = some .cell)) ∧ TgsOk nm sc es is := hT
            have e' : setAll is vs (ρ.set i (some v')) = some ρ' := e
            show wpAny _ A (do holding rs (assign (.Name x p) env r); assignInOrder ((assignEach es env).map (·.2)) rs) _ _ s
            refine wpAny_bind (wpAny_holding (assign_Name (wpAny_mono (store_any hT'.1.1 hT'.1.2 en S F v1) (fun _ s₁ q => ?_) fun _ _ x => x)))
            obtain ⟨S₁, F₁, g₁, r₁⟩ := q
            refine wpAny_mono (assignAll_ok en hT'.2 e' S₁ F₁ (v2.mono g₁)) (fun _ s₂ q => ?_) fun _ _ x => x
            exact ⟨q.1, q.2, g₁.trans q.3, r₁.trans q.4⟩
    | _ => exact hT.elim
  | [], _ :: _, _, _, _, _, _, _, _, hT, _, _, _, _ => hT.elim
theorem assignEach_len (env : Env) : ∀ (es : List Expr), (assignEach es env).length = es.length
  | [] => rfl
  | e :: es => by cases e <;> exact congrArg Nat.succ (assignEach_len env es)
theorem assignEach_plain (env : Env) : ∀ {es : List Expr} {is : List Nat}, TgsOk nm sc es is → (assignEach es env).findIdx? (·.1) = none
  | [], _, _ => rfl
  | e :: es, [], h => by cases e <;> exact h.elim
  | e :: es, i :: is, h => by
    cases e with
    | Name x p =>
      have := assignEach_plain env (es := es) (is := is) (by have h' : _ ∧ TgsOk nm sc es is := h; exact h'.2)
      show List.findIdx? _ ((false, assign (.Name x p) env) :: assignEach es env) = none
      rw [List.findIdx?_cons, this]; rfl
    | _ => exact h.elim
theorem tgs_len : ∀ {es : List Expr} {is : List Nat}, TgsOk nm sc es is → es.length = is.length
  | [], [], _ => rfl
  | [], _ :: _, h => h.elim
  | e :: es, [], h => by cases e <;> exact h.elim
  | e :: es, i :: is, h => by
    cases e with
    | Name x p =>
      have := tgs_len (es := es) (is := is) (by have h' : _ ∧ TgsOk nm sc es is := h; exact h'.2)
      simp [this]
    | _ => exact h.elim
theorem ExtBut_size {h h' : Heap} (hs : Heap.ExtBut h.objs.size h h') : ∀ b o, h.get? b = some o → h'.get? b = some o := fun b o e => hs b o (Nat.ne_of_lt (Heap.lt_size e)) e
theorem Grow.ext {S β} {h h' : Heap} (hk : ∀ b o, h.get? b = some o → h'.get? b = some o) : Grow S β h β h' :=
  Grow.mk' ⟨[], by simp, by simp⟩ (fun b o e _ => hk b o e) fun b o e => ⟨o, hk b o e⟩
theorem SRel.ext {β σ} {h h' : Heap} (s : SRel X β σ h) (hk : ∀ b o, h.get? b = some o → h'.get? b = some o) : SRel X β σ h' :=
  s.keep (S := []) (Grow.ext hk).toKeep (fun b o e _ => hk b o e) fun _ m => nomatch m
theorem target_ok {A : Around} {env : Env} {t : Expr} {g : Tg} {v : V} {rv : Value} {s : Shared} {β : List Addr} {ρ ρ' : R} {σ : H} (ad : Adm d A) (en : EnvOk X sc env) (hT : TgOk nm sc t g) (e : g.bind v ρ = some ρ')
    (S : SRel X β σ s.heap) (F : FRel X nm env ρ β s.heap) (vr : VRel s.heap β v rv) : wpAny (MM X) A (assign t env rv) (Stored X nm env s β ρ' σ) NoE s := by
  cases t with
  | Name x p =>
    cases g with
    | one i =>
      apply so1 e
      have hT' : idx nm x = some i ∧ (sc.names.lookup x = some .local ∨ sc.names.lookup x = some .cell) := hT
      exact assign_Name (store_any hT'.1 hT'.2 en S F vr)
    | many => exact hT.elim
  | Tuple es k p =>
    cases g with
    | one => exact hT.elim
    | many is =>
      induction v using V.casesOn with
      | tup vs =>
        obtain ⟨a, ws, rfl, ht, hv⟩ := vr.list_inv
        have hT' : TgsOk nm sc es is := hT
        have e' : setAll is vs ρ = some ρ' := e
        have hl := setAll_len e'
        refine wpAny_assign_Tuple ad.handled ht (by rw [assignEach_len, tgs_len hT', hl, hv.length]; simp) (assignEach_plain env hT') fun h' hs' => ?_
        have hk := ExtBut_size hs'
        refine wpAny_mono (assignAll_ok (s := { s with heap := h' }) en hT' e' (S.ext hk) (F.mono (Grow.ext hk)) (hv.mono (Grow.ext (S := []) hk))) (fun _ s₂ q => ?_) fun _ _ x => x
        exact ⟨q.1, q.2, (Grow.ext hk).trans q.3, ⟨q.4.gens, q.4.os⟩⟩
      | _ => simp [Tg.bind] at e
  | _ => exact hT.elim
@[irreducible] noncomputable def sUnpack (is : List Nat) (a : Ex) : Sx := fun ρ σ => match a ρ σ with
  | some (v, σ₁) => match (Tg.many is).bind v ρ with
    | some ρ₁ => some (.next, ρ₁, σ₁)
    | none => none
  | none => none
theorem simS_unpack {es : List Expr} {is : List Nat} {a : Expr} {k p pos} {ma : Ex} (ha : SimE X d nm sc a ma) (hT : TgsOk nm sc es is)
    (hs : ∀ env : Env, env.scope = sc → swapsWithSole [.Tuple es k p] a pos.line env = pure false) (hw : ∀ env : Env, env.scope = sc → swappedStores [.Tuple es k p] a env = pure none) :
    SimS X d nm sc (.Assign [.Tuple es k p] a pos) (sUnpack is ma) := .mk fun A env s β ρ σ f ρ' σ' ad en S F e => by
  unfold sUnpack at e
  split at e
  · rename_i v σ₁ ea
    split at e
    · rename_i ρ₁ eb
      cases e
      refine Assign_Tuple (hs := hs env en.scope) (hw := hw env en.scope) (wpAny_mono (ha.run A env s β ρ σ v σ' ad en S F ea) (fun rv s₁ q => ?_) fun _ _ x => x)
      obtain ⟨β₁, S₁, g, vr, rs⟩ := q
      exact wpAny_mono (target_ok (nm := nm) (t := .Tuple es k p) (g := .many is) ad en hT eb S₁ (F.mono g) vr) (fun _ s₂ q => q.spost g.nil rs) fun _ _ x => x
    · exact nosm e
  · exact nosm e
noncomputable def NamesOk (nm : List Str) (sc : Scope) : List Str → List Nat → Prop
  | [], [] => True
  | x :: xs, i :: is => (idx nm x = some i ∧ (sc.names.lookup x = some .local ∨ sc.names.lookup x = some .cell)) ∧ NamesOk nm sc xs is
  | _, _ => False
theorem NamesOk.snoc {x : Str} {i : Nat} (h : idx nm x = some i ∧ (sc.names.lookup x = some .local ∨ sc.names.lookup x = some .cell)) : ∀ {xs : List Str} {is : List Nat}, NamesOk nm sc xs is → NamesOk nm sc (xs ++ [x]) (is ++ [i])
  | [], [], _ => ⟨h, trivial⟩
  | _ :: _, _ :: _, q => ⟨q.1, NamesOk.snoc h q.2⟩
  | [], _ :: _, q => q.elim
  | _ :: _, [], q => q.elim
theorem NamesOk.reverse : ∀ {xs : List Str} {is : List Nat}, NamesOk nm sc xs is → NamesOk nm sc xs.reverse is.reverse
  | [], [], _ => trivial
  | _ :: _, _ :: _, q => by rw [List.reverse_cons, List.reverse_cons]; exact NamesOk.snoc q.1 (NamesOk.reverse q.2)
  | [], _ :: _, q => q.elim
  | _ :: _, [], q => q.elim
theorem NamesOk.length : ∀ {xs : List Str} {is : List Nat}, NamesOk nm sc xs is → xs.length = is.length
  | [], [], _ => rfl
  | _ :: _, _ :: _, q => by simp [NamesOk.length q.2]
  | [], _ :: _, q => q.elim
  | _ :: _, [], q => q.elim
theorem bindAll_ok {A : Around} {env : Env} (en : EnvOk X sc env) : ∀ {xs : List Str} {is : List Nat} {vs : List V} {ws : List Value} {s : Shared} {β : List Addr} {ρ ρ' : R} {σ : H}, NamesOk nm sc xs is → setAll is vs ρ = some ρ' →
    SRel X β σ s.heap → FRel X nm env ρ β s.heap → VRels s.heap β vs ws → wpAny (MM X) A (assignInOrder (xs.map fun n => bindName env n) ws) (Stored X nm env s β ρ' σ) NoE s
  | [], [], vs, ws, s, β, ρ, ρ', σ, _, e, S, F, v => by
    induction vs using List.casesOn with
    | nil => apply so1 e; apply v.z; exact wpAny_pure ⟨S, F, Grow.refl, Rest.refl⟩
    | cons => exact nosm e
  | x :: xs, i :: is, vs, ws, s, β, ρ, ρ', σ, hT, e, S, F, v => by
    induction vs using List.casesOn with
    | nil => exact nosm e
    | cons v' vs =>
      cases v with
      | cons v1 v2 =>
        rename_i r rs
        have e' : setAll is vs (ρ.set i (some v')) = some ρ' := e
        show wpAny _ A (do holding rs (bindName env x r); assignInOrder (xs.map fun n => bindName env n) rs) _ _ s
        refine wpAny_bind (wpAny_holding (wpAny_bindName (wpAny_mono (store_any hT.1.1 hT.1.2 en S F v1) (fun _ s₁ q => ?_) fun _ _ x => x)))
        obtain ⟨S₁, F₁, g₁, r₁⟩ := q
        refine wpAny_mono (bindAll_ok en hT.2 e' S₁ F₁ (v2.mono g₁)) (fun _ s₂ q => ?_) fun _ _ x => x
        exact ⟨q.1, q.2, g₁.trans q.3, r₁.trans q.4⟩
  | [], _ :: _, _, _, _, _, _, _, _, hT, _, _, _, _ => hT.elim
  | _ :: _, [], _, _, _, _, _, _, _, hT, _, _, _, _ => hT.elim
@[irreducible] noncomputable def sSwap (is : List Nat) (a : Ex) : Sx := fun ρ σ => match a ρ σ with
  | some (.tup vs, σ₁) => match setAll is.reverse vs.reverse ρ with
    | some ρ₁ => some (.next, ρ₁, σ₁)
    | none => none
  | _ => none
theorem simS_swap {es : List Expr} {is : List Nat} {names : List Str} {a : Expr} {k p pos} {ma : Ex} (ha : SimE X d nm sc a ma) (hT : NamesOk nm sc names is)
    (hs : ∀ env : Env, env.scope = sc → swapsWithSole [.Tuple es k p] a pos.line env = pure false) (hw : ∀ env : Env, env.scope = sc → swappedStores [.Tuple es k p] a env = pure (some names)) :
    SimS X d nm sc (.Assign [.Tuple es k p] a pos) (sSwap is ma) := .mk fun A env s β ρ σ f ρ' σ' ad en S F e => by
  unfold sSwap at e
  split at e
  · rename_i vs σ₁ ea
    split at e
    · rename_i ρ₁ eb
      apply so3 e
      refine Assign_Tuple_swapped (hs := hs env en.scope) (hw := hw env en.scope) (wpAny_mono (ha.run A env s β ρ σ _ _ ad en S F ea) (fun rv s₁ q => ?_) fun _ _ x => x)
      obtain ⟨β₁, S₁, g, vr, rs⟩ := q
      obtain ⟨a, ws, rfl, ht, hv⟩ := vr.list_inv
      have hl := setAll_len eb
      rw [List.length_reverse, List.length_reverse] at hl
      rw [show names.length = ws.toArray.size by rw [hT.length, hl, hv.length]; simp]
      refine wpAny_unpackItems_tuple ad.handled ht fun h' hs' => ?_
      have hk := ExtBut_size hs'
      have F₁ := (F.mono g).mono (Grow.ext hk)
      refine wpAny_mono (bindAll_ok (s := { s₁ with heap := h' }) en hT.reverse eb (S₁.ext hk) F₁ (by simpa using (hv.mono (Grow.ext (S := []) hk)).reverse)) (fun _ s₂ q => ?_) fun _ _ x => x
      exact Stored.spost (s₁ := { s₁ with heap := h' }) q (g.nil.trans (Grow.ext hk)) ⟨rs.gens, rs.os⟩
    · exact nosm e
  · exact nosm e
end
end
section
noncomputable def rItems (a c : Int) : Nat → List V
  | 0 => []
  | n + 1 => .int a :: rItems (a + c) c n
theorem rItems_get (c : Int) : ∀ (n i : Nat) (a : Int), i < n → (rItems a c n)[i]? = some (.int (a + c * i))
  | n + 1, 0, a, _ => by simp [rItems]
  | n + 1, i + 1, a, h => by
    rw [rItems, List.getElem?_cons_succ, rItems_get c n i (a + c) (by lia)]
    congr 2
    rw [Int.add_assoc]; congr 1
    rw [Int.natCast_succ, Int.mul_add, Int.mul_one, Int.add_comm]
theorem rItems_len (c : Int) : ∀ (n : Nat) (a : Int), (rItems a c n).length = n
  | 0, _ => rfl
  | n + 1, a => by simp [rItems, rItems_len c n]
inductive Kd where
  | list | dict | fix | vals
deriving DecidableEq
noncomputable def rOk (a b c : Int) : Prop := Builtin.Range.small a b c = true
noncomputable def itemsOf : V → H → Option (Kd × List V)
  | .ref n, σ => match σ[n]? with
    | some (.list vs) => some (.list, vs)
    | some (.dictI kvs) => some (.dict, kvs.map fun p => .int p.1)
    | _ => none
  | .vals n, σ => match σ[n]? with
    | some (.dictI kvs) => some (.vals, kvs.map fun p => p.2)
    | _ => none
  | .tup vs, _ => some (.fix, vs)
  | .range a b c, _ => if Builtin.Range.small a b c = true then some (.fix, rItems a c (Builtin.Range.rangeSize a b c).toNat) else none
  | _, _ => none
inductive ItAt (X : Ctx) (β : List Addr) (h : Heap) (i : Nat) (it : Addr) : V → Kd → Nat → Prop
  | list {k a n} : β[k]? = some a → h.IsListIter it a i → ItAt X β h i it (.ref k) .list n
  | dict {k a n} : β[k]? = some a → h.IsKeyIter it a i n n → ItAt X β h i it (.ref k) .dict n
  | vals {k a n} : β[k]? = some a → h.IsValIter it a i n n → ItAt X β h i it (.vals k) .vals n
  | tup {vs ws t n} : h.IsTupleIter it t i → h.IsTuple t ws → VRels h β vs ws.toList → t ≠ it → ItAt X β h i it (.tup vs) .fix n
  | range {a b c : Int} {n : Nat} : IsRangeIter h it (a + c * (i : Int)) ((n : Int) - (i : Int)) c → Builtin.Range.rangeSize a b c = (n : Int) → ItAt X β h i it (.range a b c) .fix n
section
variable {X : Ctx} {d : Nat} {nm : List Str} {sc : Scope}
theorem ItAt.obj {β h i it v kd n} (x : ItAt X β h i it v kd n) : ∃ o fs, h.get? it = some o ∧ o.data = .fields fs ∧ (o.cls = .type "list_iterator" ∨ o.cls = .type "dict_keyiterator" ∨ o.cls = .type "tuple_iterator" ∨ o.cls = .type "range_iterator" ∨ o.cls = .type "dict_valueiterator") := by
  cases x with
  | list _ e => obtain ⟨o, a, b, c⟩ := e; exact ⟨o, _, a, c, .inl b⟩
  | dict _ e => obtain ⟨o, a, b, c⟩ := e; exact ⟨o, _, a, c, .inr (.inl b)⟩
  | tup e _ _ _ => obtain ⟨o, a, b, c⟩ := e; exact ⟨o, _, a, c, .inr (.inr (.inl b))⟩
  | range e => exact ⟨_, _, e, rfl, .inr (.inr (.inr (.inl rfl)))⟩
  | vals _ e => obtain ⟨o, a, b, c⟩ := e; exact ⟨o, _, a, c, .inr (.inr (.inr (.inr b)))⟩
theorem ItAt.notImm {β h i it v kd n} (x : ItAt X β h i it v kd n) : ∀ o, h.get? it = some o → ¬ Imm o := fun o e => by
  obtain ⟨o', fs, e', _, hc⟩ := x.obj
  rw [e] at e'; cases e'
  rintro (⟨q, _⟩ | ⟨q, _⟩ | ⟨q, _⟩) <;> rw [q] at hc <;> simp at hc
theorem ItAt.mono {S β h β' h' i it v kd n} (x : ItAt X β h i it v kd n) (g : Grow S β h β' h') (h1 : it ∉ β) (h2 : it ∉ S) : ItAt X β' h' i it v kd n := by
  have k : ∀ o, h.get? it = some o → h'.get? it = some o := fun o e => g.keep it o e (.inl ⟨h1, h2⟩)
  cases x with
  | list e1 e2 => obtain ⟨o, a, b⟩ := e2; exact .list (g.get e1) ⟨o, k o a, b⟩
  | dict e1 e2 => obtain ⟨o, a, b⟩ := e2; exact .dict (g.get e1) ⟨o, k o a, b⟩
  | vals e1 e2 => obtain ⟨o, a, b⟩ := e2; exact .vals (g.get e1) ⟨o, k o a, b⟩
  | tup e1 e2 e3 e4 =>
    obtain ⟨o, a, b⟩ := e1
    obtain ⟨o', a', b', m, c'⟩ := e2
    exact .tup ⟨o, k o a, b⟩ ⟨o', g.keep _ _ a' (.inr (.inl ⟨b', _, _, c'⟩)), b', m, c'⟩ (e3.mono g) e4
  | range e1 e2 => exact .range (k _ e1) e2
theorem letGo_ok {A : Around} {s : Shared} {β i it v kd n} {t : Expr} {rv : Value} (x : ItAt X β s.heap i it v kd n) {Q : Unit → Shared → Prop} {E : Value → Shared → Prop} (hQ : Q () s) : wpAny (MM X) A (letOwnedTupleGo t (.ref it) rv) Q E s := by
  obtain ⟨o, fs, e, hd, hc⟩ := x.obj
  have key : ∀ a : Addr, ∀ {es c p}, wpAny (MM X) A (letOwnedTupleGo (.Tuple es c p) (.ref it) (.ref a)) Q E s := fun a {es c p} => by
    show wpAny (MM X) A (load it >>= _) Q E s
    refine wpAny_bind (wpAny_load e ?_)
    rw [hd]
    rcases hc with hc | hc | hc | hc | hc <;> rw [hc] <;> exact wpAny_pure hQ
  cases t with
  | Tuple es c p => cases rv with
    | ref a => exact key a
    | _ => exact wpAny_pure hQ
  | List es c => cases rv with
    | ref a => exact key a (es := es) (c := 0) (p := c)
    | _ => exact wpAny_pure hQ
  | _ => exact wpAny_pure hQ
theorem next_item {A : Around} {s : Shared} {β : List Addr} {σ : H} {i it : Nat} {v : V} {kd : Kd} {items : List V} {y : V} (x : ItAt X β s.heap i it v kd items.length) (e : itemsOf v σ = some (kd, items)) (hy : items[i]? = some y) (S : SRel X β σ s.heap)
    (hβ : it ∉ β) :
    wpAny (MM X) A (pyNext (.ref it)) (fun r s' => ∃ rv, r = some rv ∧ VRel s'.heap β y rv ∧ ItAt X β s'.heap (i + 1) it v kd items.length ∧ Heap.SameBut it s.heap s'.heap ∧ Rest s s') NoE s := by
  have hi : i < items.length := (List.getElem?_eq_some_iff.mp hy).1
  have nI := x.notImm
  cases x with
  | list e1 e2 =>
    rename_i k a
    unfold itemsOf at e
    simp only at e
    split at e <;> simp at e
    rename_i vs hvs
    subst e
    obtain ⟨ws, kk, hl, hr⟩ := S.obj _ _ _ hvs e1
    obtain ⟨rv, h1, h2⟩ := hr.get hy
    refine wpAny_pyNext_list_item e2 (isList_of hl) (x := rv) (by simpa using h1) fun h' hit' hs' => ⟨rv, rfl, VRel.monoK (Keep.but (β := β) hs'.extBut nI) h2, .list e1 hit', hs', rfl, rfl⟩
  | dict e1 e2 =>
    rename_i k a
    unfold itemsOf at e
    simp only at e
    split at e <;> simp at e
    rename_i kvs hkvs
    subst e
    obtain ⟨rks, hd, hr⟩ := S.obj _ _ _ hkvs e1
    simp only [List.length_map] at e2 hi
    have hlen := hr.length
    rw [hlen] at e2
    have hk : i < rks.length := by lia
    have key : ∀ {kvs : List (Int × V)} {rks : List (Int × Value)}, KVI s.heap β kvs rks → ∀ i : Nat, (kvs[i]?).map (·.1) = (rks[i]?).map (·.1) := by
      intro kvs rks q
      induction q with
      | nil => intro i; simp
      | cons _ _ ih => intro i; cases i <;> simp [ih]
    have hki := key hr i
    rw [List.getElem?_map] at hy
    rw [List.getElem?_eq_getElem hk] at hki
    cases hkv : kvs[i]? with
    | none => rw [hkv] at hy; simp at hy
    | some p =>
      rw [hkv] at hy hki
      simp at hy hki
      subst hy
      refine wpAny_pyNext_dict_item e2 hd (k := rks[i].1) (v := rks[i].2) (by rw [List.getElem?_eq_getElem hk]) fun key' h' hkey hit' hs' => ?_
      have : ∃ t, key' = .int p.1 t := by
        rw [← hki] at hkey
        have hkey' : key'.isInt p.1 = true := hkey
        unfold Value.isInt at hkey'
        split at hkey'
        · rename_i j t
          exact ⟨t, by rw [beq_iff_eq.mp hkey']⟩
        · cases hkey'
      obtain ⟨t, rfl⟩ := this
      exact ⟨_, rfl, .int _ _, .dict e1 (by rw [List.length_map, hlen]; exact hit'), hs', rfl, rfl⟩
  | vals e1 e2 =>
    rename_i k a
    unfold itemsOf at e
    simp only at e
    split at e <;> simp at e
    rename_i kvs hkvs
    subst e
    obtain ⟨rks, hd, hr⟩ := S.obj _ _ _ hkvs e1
    simp only [List.length_map] at e2 hi
    have hlen := hr.length
    rw [hlen] at e2
    have key : ∀ {kvs : List (Int × V)} {rks : List (Int × Value)}, KVI s.heap β kvs rks → ∀ {i : Nat} {p}, kvs[i]? = some p → ∃ r, rks[i]? = some (p.1, r) ∧ VRel s.heap β p.2 r := by
      intro kvs rks q
      induction q with
      | nil => intro i p h; simp at h
      | cons x _ ih =>
        intro i p h
        induction i using Nat.casesOn with
        | zero => simp at h; subst h; exact ⟨_, rfl, x⟩
        | succ i => simp at h; obtain ⟨r, h1, h2⟩ := ih h; exact ⟨r, by simpa using h1, h2⟩
    rw [List.getElem?_map] at hy
    cases hkv : kvs[i]? with
    | none => rw [hkv] at hy; simp at hy
    | some p =>
      rw [hkv] at hy
      simp at hy
      subst hy
      obtain ⟨r, h1, h2⟩ := key hr hkv
      refine wpAny_pyNext_values_item e2 hd h1 fun h' hit' hs' => ?_
      exact ⟨r, rfl, VRel.monoK (Keep.but (β := β) hs'.extBut nI) h2, .vals e1 (by rw [List.length_map, hlen]; exact hit'), hs', rfl, rfl⟩
  | tup e1 e2 e3 e4 =>
    rename_i vs ws t
    simp [itemsOf] at e
    subst e
    obtain ⟨rv, h1, h2⟩ := e3.get hy
    refine wpAny_pyNext_tuple_item e1 e2 (x := rv) (by simpa using h1) fun h' hit' hs' => ⟨rv, rfl, VRel.monoK (Keep.but (β := β) hs'.extBut nI) h2, ?_, hs', rfl, rfl⟩
    exact .tup hit' (e2.extBut hs'.extBut e4) (VRels.monoK (Keep.but (β := β) hs'.extBut nI) e3) e4
  | range e1 e2 =>
    rename_i a b c
    unfold itemsOf at e
    simp only at e
    split at e <;> simp at e
    rename_i hsm
    subst e
    rw [rItems_len] at e1 e2 hi
    rw [rItems_get c _ i a (by lia)] at hy
    apply so1 hy
    refine wpAny_pyNext_range_item e1 (by lia) fun h' hit' hs' => ⟨_, rfl, .int _ _, ?_, hs', rfl, rfl⟩
    refine .range ?_ (by rw [rItems_len]; exact e2)
    rw [rItems_len]
    have q1 : a + c * (i : Int) + c = a + c * ((i + 1 : Nat) : Int) := by rw [Int.natCast_succ, Int.mul_add, Int.mul_one, Int.add_assoc]
    have q2 : ((Builtin.Range.rangeSize a b c).toNat : Int) - i - 1 = (Builtin.Range.rangeSize a b c).toNat - ((i + 1 : Nat) : Int) := by lia
    rw [q1, q2] at hit'
    exact hit'
theorem next_end {A : Around} {s : Shared} {β : List Addr} {σ : H} {it : Nat} {v : V} {kd : Kd} {items : List V} (x : ItAt X β s.heap items.length it v kd items.length) (e : itemsOf v σ = some (kd, items)) (S : SRel X β σ s.heap) (hh : A.handled = none) :
    wpAny (MM X) A (pyNext (.ref it)) (fun r s' => r = none ∧ Heap.ExtBut it s.heap s'.heap ∧ Rest s s') NoE s := by
  cases x with
  | list e1 e2 =>
    rename_i k a
    unfold itemsOf at e
    simp only at e
    split at e <;> simp at e
    rename_i vs hvs
    subst e
    obtain ⟨ws, kk, hl, hr⟩ := S.obj _ _ _ hvs e1
    exact wpAny_pyNext_list_end hh e2 (isList_of hl) (by rw [hr.length]; simp) fun h' hs' => ⟨rfl, hs', rfl, rfl⟩
  | dict e1 e2 =>
    rename_i k a
    unfold itemsOf at e
    simp only at e
    split at e <;> simp at e
    rename_i kvs hkvs
    subst e
    obtain ⟨rks, hd, hr⟩ := S.obj _ _ _ hkvs e1
    simp only [List.length_map] at e2
    have hlen := hr.length
    rw [hlen] at e2
    exact wpAny_pyNext_dict_end hh e2 hd (by simp) fun h' hs' => ⟨rfl, hs', rfl, rfl⟩
  | vals e1 e2 =>
    rename_i k a
    unfold itemsOf at e
    simp only at e
    split at e <;> simp at e
    rename_i kvs hkvs
    subst e
    obtain ⟨rks, hd, hr⟩ := S.obj _ _ _ hkvs e1
    simp only [List.length_map] at e2
    have hlen := hr.length
    rw [hlen] at e2
    exact wpAny_pyNext_values_end hh e2 hd (by simp) fun h' hs' => ⟨rfl, hs', rfl, rfl⟩
  | tup e1 e2 e3 e4 =>
    simp [itemsOf] at e
    subst e
    exact wpAny_pyNext_tuple_end hh e1 e2 (by rw [e3.length]; simp) fun h' hs' => ⟨rfl, hs', rfl, rfl⟩
  | range e1 e2 => exact wpAny_pyNext_range_end hh e1 (by lia) fun h' hs' => ⟨rfl, hs', rfl, rfl⟩
theorem iter_ok {A : Around} {s : Shared} {β : List Addr} {σ : H} {v : V} {rv : Value} {kd : Kd} {items : List V} (e : itemsOf v σ = some (kd, items)) (S : SRel X β σ s.heap) (vr : VRel s.heap β v rv) :
    wpAny (MM X) A (pyIter rv) (fun r s' => ∃ o, r = .ref s.heap.objs.size ∧ s' = { s with heap := s.heap.push o } ∧ ItAt X β s'.heap 0 s.heap.objs.size v kd items.length) NoE s := by
  cases vr with
  | ref hn =>
    rename_i n a
    unfold itemsOf at e
    simp only at e
    split at e <;> simp at e
    · rename_i vs hvs
      obtain ⟨rfl, rfl⟩ := e
      obtain ⟨ws, kk, hl, hr⟩ := S.obj _ _ _ hvs hn
      exact wpAny_pyIter_list (isList_of hl) ⟨_, rfl, rfl, .list hn ⟨_, Heap.get?_push_size _ rfl, rfl, rfl⟩⟩
    · rename_i kvs hkvs
      obtain ⟨rfl, rfl⟩ := e
      obtain ⟨rks, hd, hr⟩ := S.obj _ _ _ hkvs hn
      have hb := S.big a (List.mem_of_getElem? hn)
      have hsys : (a == sysModules) = false := by
        simp only [beq_eq_false_iff_ne]
        have : sysModules < mainGlobals := by decide
        exact Nat.ne_of_gt (Nat.lt_trans this hb)
      refine wpAny_pyIter_dict hsys hd ⟨_, rfl, rfl, .dict hn ⟨_, Heap.get?_push_size _ rfl, rfl, ?_⟩⟩
      rw [List.length_map, hr.length]; rfl
  | tup ht hv =>
    simp [itemsOf] at e
    obtain ⟨rfl, rfl⟩ := e
    obtain ⟨o', ho', _⟩ := id ht
    exact wpAny_pyIter_tuple ht ⟨_, rfl, rfl, .tup ⟨_, Heap.get?_push_size _ rfl, rfl, rfl⟩ (ht.push _) (by simpa using hv.mono (S := []) (Grow.push _)) (Nat.ne_of_lt (Heap.lt_size ho'))⟩
  | vals hn hv =>
    rename_i n a r
    unfold itemsOf at e
    simp only at e
    split at e <;> simp at e
    rename_i kvs hkvs
    obtain ⟨rfl, rfl⟩ := e
    obtain ⟨rks, hd, hr⟩ := S.obj _ _ _ hkvs hn
    refine wpAny_pyIter_values hv hd ⟨_, rfl, rfl, .vals hn ⟨_, Heap.get?_push_size _ rfl, rfl, ?_⟩⟩
    rw [List.length_map, hr.length]; rfl
  | range hr =>
    rename_i a b c ta tb tc r
    unfold itemsOf at e
    simp only at e
    split at e <;> simp at e
    rename_i hsm
    obtain ⟨rfl, rfl⟩ := e
    have hn : (0 : Int) ≤ Builtin.Range.rangeSize a b c := by
      unfold Builtin.Range.rangeSize
      split
      · split
        · rename_i h1 h2
          have := Int.ediv_nonneg (a := b - a - 1) (b := c) (by lia) (by lia)
          lia
        · lia
      · split
        · rename_i h1 h2
          have := Int.ediv_nonneg (a := a - b - 1) (b := -c) (by lia) (by lia)
          lia
        · lia
    have hz : Builtin.Range.rangeSize a b c = (((rItems a c (Builtin.Range.rangeSize a b c).toNat).length : Nat) : Int) := by rw [rItems_len]; lia
    refine wpAny_pyIter_range hr hsm ⟨_, rfl, rfl, .range ?_ hz⟩
    rw [rItems_len]
    have : ((Builtin.Range.rangeSize a b c).toNat : Int) - ((0 : Nat) : Int) = Builtin.Range.rangeSize a b c := by lia
    rw [this, show a + c * ((0 : Nat) : Int) = a by simp]
    exact Heap.get?_push_size _ rfl
  | _ => simp [itemsOf] at e
end
end
section
noncomputable def forGo (v : V) (kd : Kd) (n : Nat) (t : Tg) (body : Sx) : Nat → Sx
  | 0, ρ, σ => match itemsOf v σ with
    | some (k, items) => if k = kd ∧ items.length = n then some (.next, ρ, σ) else none
    | none => none
  | r + 1, ρ, σ => match itemsOf v σ with
    | some (k, items) => if k = kd ∧ items.length = n then match items[n - (r + 1)]? with
        | some y => match t.bind y ρ with
          | some ρ₁ => match body ρ₁ σ with
            | some (.next, ρ₂, σ₂) => forGo v kd n t body r ρ₂ σ₂
            | some (.ret u, ρ₂, σ₂) => some (.ret u, ρ₂, σ₂)
            | none => none
          | none => none
        | none => none
      else none
    | none => none
@[irreducible] noncomputable def sFor (t : Tg) (src : Ex) (body : Sx) : Sx := fun ρ σ => match src ρ σ with
  | some (v, σ₁) => match itemsOf v σ₁ with
    | some (kd, items) => forGo v kd items.length t body items.length ρ σ₁
    | none => none
  | none => none
section
variable {X : Ctx} {d : Nat} {nm : List Str} {sc : Scope}
structure Turn (X : Ctx) (nm : List Str) (env : Env) (s₀ : Shared) (β₀ : List Addr) (it : Addr) (i : Nat) (v : V) (kd : Kd) (n : Nat) (β : List Addr) (ρ : R) (σ : H) (s : Shared) : Prop where
  S : SRel X β σ s.heap
  F : FRel X nm env ρ β s.heap
  G : Grow (fa env) β₀ s₀.heap β s.heap
  rs : Rest s₀ s
  ia : ItAt X β s.heap i it v kd n
  ib : it ∉ β
  fresh : s₀.heap.get? it = none
theorem Turn.fa {env s₀ β₀ it i v kd n β ρ σ s} (T : Turn X nm env s₀ β₀ it i v kd n β ρ σ s) : it ∉ fa env := fun m => by
  obtain ⟨o, fs, e, hd, hc⟩ := T.ia.obj
  cases m with
  | head =>
    obtain ⟨m, ⟨o', _, _, e', hd', _⟩, _⟩ := T.F.loc
    rw [e] at e'; cases e'
    rw [hd] at hd'; cases hd'
  | tail _ m =>
    obtain ⟨p, hp, q⟩ := List.mem_map.mp m
    obtain ⟨u, o', e', hd'⟩ := T.F.cells p hp
    rw [q, e] at e'; cases e'
    rw [hd] at hd'; cases hd'
theorem Turn.base {env s₀ β₀ it i v kd n β ρ σ s} (T : Turn X nm env s₀ β₀ it i v kd n β ρ σ s) (S₀ : SRel X β₀ σ' s₀.heap) : X.h₀.get? it = none := by
  cases e : X.h₀.get? it with
  | none => rfl
  | some o => have := S₀.base it o e; rw [T.fresh] at this; exact nosm this
theorem stepn {a b r : Nat} (h : a = b) (hr : r + 1 ≤ b) : b - r = a - (r + 1) + 1 := by subst h; exact (n_s2 hr).symm
theorem forGo_z {v kd n t b ρ σ f ρ' σ'} {P : Fl → R → H → Prop} (e : forGo v kd n t b 0 ρ σ = some (f, ρ', σ')) (k : ∀ items, itemsOf v σ = some (kd, items) → items.length = n → P .next ρ σ) : P f ρ' σ' := by
  unfold forGo at e
  split at e
  · split at e
    · rename_i ei hk
      obtain ⟨rfl, hl⟩ := hk
      apply so3 e; exact k _ ei hl
    · exact nosm e
  · exact nosm e
theorem forGo_s {v kd n t b r ρ σ f ρ' σ'} {P : Prop} (e : forGo v kd n t b (r + 1) ρ σ = some (f, ρ', σ')) (k : ∀ items y ρ₁, itemsOf v σ = some (kd, items) → items.length = n → items[n - (r + 1)]? = some y → t.bind y ρ = some ρ₁ →
    (∀ {P : Fl → R → H → Prop}, (∀ ρ₂ σ₂, b ρ₁ σ = some (.next, ρ₂, σ₂) → forGo v kd n t b r ρ₂ σ₂ = some (f, ρ', σ') → P f ρ' σ') → (∀ u ρ₂ σ₂, b ρ₁ σ = some (.ret u, ρ₂, σ₂) → P (.ret u) ρ₂ σ₂) → P f ρ' σ') → P) : P := by
  unfold forGo at e
  split at e
  · split at e
    · rename_i ei hk
      obtain ⟨rfl, hl⟩ := hk
      split at e
      · split at e
        · refine k _ _ _ ei hl ‹_› ‹_› fun {P} k1 k2 => ?_
          split at e
          · exact k1 _ _ ‹_› e
          · apply so3 e; exact k2 _ _ _ ‹_›
          · exact nosm e
        · exact nosm e
      · exact nosm e
    · exact nosm e
  · exact nosm e
theorem FlRel.x {h β rf} {P : Flow → Prop} (x : FlRel h β .next rf) (k : P .next) : P rf := by cases x; exact k
theorem FlRel.r {h β v rf} {P : Flow → Prop} (x : FlRel h β (.ret v) rf) (k : ∀ u, VRel h β v u → P (.ret u)) : P rf := by
  cases x with
  | ret u => exact k _ u
theorem sSf {t iter : Expr} {body : List Stmt} {pos} {g : Tg} {ms : Ex} {mb : Sx} (hs : SimE X d nm sc iter ms) (hT : TgOk nm sc t g) (hb : SimSs X d nm sc body mb)
    (hfold : ∀ (env : Env) x, foldedSetIterable iter env x = pure x) : SimS X d nm sc (.For t iter body [] pos) (sFor g ms mb) := .mk fun A env s β ρ σ f ρ' σ' ad en S F e => by
  unfold sFor at e
  split at e
  · rename_i v σ₁ es
    split at e
    · rename_i kd items ei
      refine wpAny_For (hs := hfold env) (wpAny_mono (hs.run A env s β ρ σ v σ₁ ad en S F es) (fun rv s₁ p => ?_) fun _ _ x => x)
      obtain ⟨β₁, S₁, g₁, vr, r₁⟩ := p
      refine wpAny_mono (iter_ok ei S₁ vr) (fun r s₂ p => ?_) fun _ _ x => x
      obtain ⟨o, rfl, rfl, hit⟩ := p
      have F₁ := F.mono g₁
      have fr := size_fresh s₁.heap
      have T₀ : Turn X nm env s₁ β₁ s₁.heap.objs.size 0 v kd items.length β₁ ρ σ₁ { s₁ with heap := s₁.heap.push o } :=
        ⟨S₁.push o, F₁.mono (Grow.push o), Grow.push o, ⟨rfl, rfl⟩, hit, fun m => by (obtain ⟨o', e', _⟩ := S₁.alive m; rw [fr] at e'; cases e'), fr⟩
      generalize hI : s₁.heap.objs.size = it at *
      have e₀ := e
      clear e
      obtain ⟨I, i1, i2⟩ : ∃ I : Nat → Shared → Prop, (∀ {r s'}, (r ≤ items.length ∧ ∃ β' ρ₁ σ₂, Turn X nm env s₁ β₁ it (items.length - r) v kd items.length β' ρ₁ σ₂ s' ∧ forGo v kd items.length g mb r ρ₁ σ₂ = some (f, ρ', σ')) → I r s') ∧ ∀ {r s'}, I r s' → r ≤ items.length ∧ ∃ β' ρ₁ σ₂, Turn X nm env s₁ β₁ it (items.length - r) v kd items.length β' ρ₁ σ₂ s' ∧ forGo v kd items.length g mb r ρ₁ σ₂ = some (f, ρ', σ') := ⟨_, id, id⟩
      refine codeAny_forLoop_any I (fun r s' hI => ?_) items.length (i1 ⟨Nat.le_refl _, β₁, ρ, σ₁, by rw [Nat.sub_self]; exact T₀, e₀⟩)
      have hI := i2 hI
      obtain ⟨hr, β', ρ₁, σ₂, T, e⟩ := hI
      have hbase := T.base S₁
      induction r using Nat.casesOn with
      | zero =>
        apply forGo_z e; intro items' ei' hl
        have T' := T.ia
        rw [Nat.sub_zero, ← hl] at T'
        refine wpAny_mono (next_end T' ei' T.S ad.handled) (fun r s₃ p => ?_) fun _ _ x => x.elim
        obtain ⟨rfl, hx, rs⟩ := p
        have nI := T.ia.notImm
        refine wpAny_execs_nil ⟨β', T.S.but hx T.ib hbase nI, T.F.monoK (Keep.but hx nI) (fun a m => by rw [List.mem_singleton] at m; subst m; exact T.fa), ?_, .next, (r₁.trans T.rs).trans rs⟩
        exact g₁.nil.trans (T.G.but hx T.fresh)
      | succ r =>
        apply forGo_s e; intro items' y ρ₂ ei' hl hy eb hh
        have T' := T.ia
        rw [← hl] at T' hy
        refine wpAny_mono (next_item T' ei' hy T.S T.ib) (fun r' s₃ p => ?_) fun _ _ x => x.elim
        obtain ⟨rv, rfl, vr', hit', hs', rs⟩ := p
        have nI := T.ia.notImm
        have S₃ := T.S.but hs'.extBut T.ib hbase nI
        have F₃ := T.F.monoK (Keep.but (β := β') hs'.extBut nI) (fun a m => by rw [List.mem_singleton] at m; subst m; exact T.fa)
        have G₃ : Grow (fa env) β₁ s₁.heap β' s₃.heap := T.G.but hs'.extBut T.fresh
        refine letGo_ok hit' ?_
        refine wpAny_mono (target_ok ad en hT eb S₃ F₃ vr') (fun _ s₄ p => ?_) fun _ _ x => x.elim
        obtain ⟨S₄, F₄, G₄, r₄⟩ := p
        have it₄ := hit'.mono G₄ T.ib T.fa
        apply hh
        · intro ρ₃ σ₃ ebd e
          refine wpAny_mono (hb.run A env s₄ β' ρ₂ σ₂ _ _ _ ad en S₄ F₄ ebd) (fun rf s₅ p => ?_) fun _ _ x => x.elim
          obtain ⟨β₅, S₅, F₅, G₅, fr₅, r₅⟩ := p
          apply fr₅.x
          obtain ⟨oi, fs, ei, _⟩ := it₄.obj
          refine ⟨r, Nat.lt_succ_self _, i1 ⟨Nat.le_of_succ_le hr, β₅, ρ₃, σ₃, ⟨S₅, F₅, (G₃.trans G₄).trans G₅, ((T.rs.trans rs).trans r₄).trans r₅, ?_, G₅.notin ei T.ib, T.fresh⟩, e⟩⟩
          have := it₄.mono G₅ T.ib T.fa
          rw [stepn hl hr, ← hl]
          exact this
        · intro u ρ₃ σ₃ ebd
          refine wpAny_mono (hb.run A env s₄ β' ρ₂ σ₂ _ _ _ ad en S₄ F₄ ebd) (fun rf s₅ p => ?_) fun _ _ x => x.elim
          obtain ⟨β₅, S₅, F₅, G₅, fr₅, r₅⟩ := p
          apply fr₅.r; intro w ur
          exact ⟨β₅, S₅, F₅, g₁.nil.trans ((G₃.trans G₄).trans G₅), .ret ur, (((r₁.trans T.rs).trans rs).trans r₄).trans r₅⟩
    · exact nosm e
  · exact nosm e
noncomputable def whGo (t : Tx) (body : Sx) : Nat → Sx
  | 0, _, _ => none
  | r + 1, ρ, σ => match t ρ σ with
    | some (true, σ₁) => match body ρ σ₁ with
      | some (.next, ρ₂, σ₂) => whGo t body r ρ₂ σ₂
      | some (.ret u, ρ₂, σ₂) => some (.ret u, ρ₂, σ₂)
      | none => none
    | some (false, σ₁) => some (.next, ρ, σ₁)
    | none => none
@[irreducible] noncomputable def sWh (t : Tx) (body : Sx) (n : Nat) : Sx := whGo t body n
theorem simS_while {t : Expr} {body : List Stmt} {pos} {mt : Tx} {mb : Sx} (n : Nat) (ht : SimT X d nm sc t mt) (hb : SimSs X d nm sc body mb) : SimS X d nm sc (.While t body [] pos) (sWh mt mb n) := .mk fun A env s β ρ σ f ρ' σ' ad en S F e => by
  unfold sWh at e
  obtain ⟨I, i1, i2⟩ : ∃ I : Nat → Shared → Prop, (∀ {r s'}, (∃ β' ρ₁ σ₂, SRel X β' σ₂ s'.heap ∧ FRel X nm env ρ₁ β' s'.heap ∧ Grow (fa env) β s.heap β' s'.heap ∧ Rest s s' ∧ whGo mt mb r ρ₁ σ₂ = some (f, ρ', σ')) → I r s') ∧ ∀ {r s'}, I r s' → ∃ β' ρ₁ σ₂, SRel X β' σ₂ s'.heap ∧ FRel X nm env ρ₁ β' s'.heap ∧ Grow (fa env) β s.heap β' s'.heap ∧ Rest s s' ∧ whGo mt mb r ρ₁ σ₂ = some (f, ρ', σ') := ⟨_, id, id⟩
  refine wpAny_While (codeAny_whileLoop I (fun r s' hI => ?_) n (i1 ⟨β, ρ, σ, S, F, Grow.refl, Rest.refl, e⟩))
  have hI := i2 hI
  obtain ⟨β', ρ₁, σ₂, S', F', G', rs, e⟩ := hI
  induction r using Nat.casesOn with
  | zero => exact nosm e
  | succ r =>
    unfold whGo at e
    split at e
    · rename_i σ₃ et
      refine wpAny_mono (ht.run A env s' β' ρ₁ σ₂ _ _ ad en S' F' et) (fun b s₁ p => ?_) fun _ _ x => x.elim
      obtain ⟨rfl, β₁, S₁, g₁, r₁⟩ := p
      simp only [if_true]
      split at e
      · rename_i ρ₃ σ₄ eb
        refine wpAny_mono (hb.run A env s₁ β₁ ρ₁ σ₃ _ _ _ ad en S₁ (F'.mono g₁) eb) (fun rf s₂ p => ?_) fun _ _ x => x.elim
        obtain ⟨β₂, S₂, F₂, G₂, fr, r₂⟩ := p
        cases fr
        exact ⟨r, Nat.lt_succ_self _, i1 ⟨β₂, ρ₃, σ₄, S₂, F₂, (G'.trans g₁.nil).trans G₂, (rs.trans r₁).trans r₂, e⟩⟩
      · rename_i u ρ₃ σ₄ eb
        apply so3 e
        refine wpAny_mono (hb.run A env s₁ β₁ ρ₁ σ₃ _ _ _ ad en S₁ (F'.mono g₁) eb) (fun rf s₂ p => ?_) fun _ _ x => x.elim
        obtain ⟨β₂, S₂, F₂, G₂, fr, r₂⟩ := p
        cases fr with
        | ret ur => exact ⟨β₂, S₂, F₂, (G'.trans g₁.nil).trans G₂, .ret ur, (rs.trans r₁).trans r₂⟩
      · exact nosm e
    · rename_i σ₃ et
      apply so3 e
      refine wpAny_mono (ht.run A env s' β' _ σ₂ _ _ ad en S' F' et) (fun b s₁ p => ?_) fun _ _ x => x.elim
      obtain ⟨rfl, β₁, S₁, g₁, r₁⟩ := p
      simp only [Bool.false_eq_true, if_false]
      exact wpAny_execs_nil ⟨β₁, S₁, F'.mono g₁, G'.trans g₁.nil, .next, rs.trans r₁⟩
    · exact nosm e
@[irreducible] noncomputable def tNot (t : Tx) : Tx := fun ρ σ => match t ρ σ with
  | some (b, σ₁) => some (!b, σ₁)
  | none => none
noncomputable def tAnd : List Tx → Tx
  | [], _, σ => some (true, σ)
  | t :: r, ρ, σ => match t ρ σ with
    | some (true, σ₁) => tAnd r ρ σ₁
    | some (false, σ₁) => some (false, σ₁)
    | none => none
noncomputable def tOr : List Tx → Tx
  | [], _, σ => some (false, σ)
  | t :: r, ρ, σ => match t ρ σ with
    | some (true, σ₁) => some (true, σ₁)
    | some (false, σ₁) => tOr r ρ σ₁
    | none => none
@[irreducible] noncomputable def tB (m : Ex) : Tx := fun ρ σ => match m ρ σ with
  | some (.bool b, σ₁) => some (b, σ₁)
  | _ => none
theorem simT_not {t : Expr} {pos} {mt : Tx} (ht : SimT X d nm sc t mt) : SimT X d nm sc (.UnaryOp .Not t pos) (tNot mt) := .mk fun A env s β ρ σ v σ' ad en S F e => by
  unfold tNot at e
  split at e
  · rename_i b σ₁ et
    apply so2 e
    refine wpAny_isTrue_Not (wpAny_mono (ht.run A env s β ρ σ b _ ad en S F et) (fun rb s₁ p => ?_) fun _ _ x => x)
    obtain ⟨rfl, β₁, S₁, g, r⟩ := p
    exact ⟨rfl, β₁, S₁, g, r⟩
  · exact nosm e
inductive SimTs (X : Ctx) (d : Nat) (nm : List Str) (sc : Scope) : List Expr → List Tx → Prop
  | nil : SimTs X d nm sc [] []
  | cons {e m es ms} : SimT X d nm sc e m → SimTs X d nm sc es ms → SimTs X d nm sc (e :: es) (m :: ms)
theorem allTrue_and {es : List Expr} {ms : List Tx} (h : SimTs X d nm sc es ms) : ∀ (A : Around) (env : Env) (s : Shared) (β : List Addr) (ρ : R) (σ : H) (v : Bool) (σ' : H), Adm d A → EnvOk X sc env → SRel X β σ s.heap → FRel X nm env ρ β s.heap →
    tAnd ms ρ σ = some (v, σ') → wpAny (MM X) A (allTrue .And es env) (BPost X s β v σ') NoE s := by
  induction h with
  | nil => intro A env s β ρ σ v σ' ad en S F e; apply so2 e; exact wpAny_allTrue_And_nil ⟨rfl, β, S, Grow.refl, Rest.refl⟩
  | cons h1 _ ih =>
    intro A env s β ρ σ v σ' ad en S F e
    rw [tAnd] at e
    split at e
    · rename_i σ₁ et
      refine wpAny_allTrue_And_cons (wpAny_mono (h1.run A env s β ρ σ _ _ ad en S F et) (fun rb s₁ p => ?_) fun _ _ x => x)
      obtain ⟨rfl, β₁, S₁, g, r⟩ := p
      exact wpAny_mono (ih A env s₁ β₁ ρ σ₁ v σ' ad en S₁ (F.mono g) e) (fun _ _ p => p.after g r) fun _ _ x => x
    · rename_i σ₁ et
      apply so2 e
      refine wpAny_allTrue_And_cons (wpAny_mono (h1.run A env s β ρ σ _ _ ad en S F et) (fun rb s₁ p => ?_) fun _ _ x => x)
      obtain ⟨rfl, β₁, S₁, g, r⟩ := p
      exact ⟨rfl, β₁, S₁, g, r⟩
    · exact nosm e
theorem allTrue_or {es : List Expr} {ms : List Tx} (h : SimTs X d nm sc es ms) : ∀ (A : Around) (env : Env) (s : Shared) (β : List Addr) (ρ : R) (σ : H) (v : Bool) (σ' : H), Adm d A → EnvOk X sc env → SRel X β σ s.heap → FRel X nm env ρ β s.heap →
    tOr ms ρ σ = some (v, σ') → wpAny (MM X) A (allTrue .Or es env) (BPost X s β v σ') NoE s := by
  induction h with
  | nil => intro A env s β ρ σ v σ' ad en S F e; apply so2 e; exact wpAny_allTrue_Or_nil ⟨rfl, β, S, Grow.refl, Rest.refl⟩
  | cons h1 _ ih =>
    intro A env s β ρ σ v σ' ad en S F e
    rw [tOr] at e
    split at e
    · rename_i σ₁ et
      apply so2 e
      refine wpAny_allTrue_Or_cons (wpAny_mono (h1.run A env s β ρ σ _ _ ad en S F et) (fun rb s₁ p => ?_) fun _ _ x => x)
      obtain ⟨rfl, β₁, S₁, g, r⟩ := p
      exact ⟨rfl, β₁, S₁, g, r⟩
    · rename_i σ₁ et
      refine wpAny_allTrue_Or_cons (wpAny_mono (h1.run A env s β ρ σ _ _ ad en S F et) (fun rb s₁ p => ?_) fun _ _ x => x)
      obtain ⟨rfl, β₁, S₁, g, r⟩ := p
      exact wpAny_mono (ih A env s₁ β₁ ρ σ₁ v σ' ad en S₁ (F.mono g) e) (fun _ _ p => p.after g r) fun _ _ x => x
    · exact nosm e
theorem simT_and {es : List Expr} {pos} {ms : List Tx} (h : SimTs X d nm sc es ms) : SimT X d nm sc (.BoolOp .And es pos) (tAnd ms) := .mk fun A env s β ρ σ v σ' ad en S F e =>
  wpAny_isTrue_BoolOp (allTrue_and h A env s β ρ σ v σ' ad en S F e)
theorem simT_or {es : List Expr} {pos} {ms : List Tx} (h : SimTs X d nm sc es ms) : SimT X d nm sc (.BoolOp .Or es pos) (tOr ms) := .mk fun A env s β ρ σ v σ' ad en S F e =>
  wpAny_isTrue_BoolOp (allTrue_or h A env s β ρ σ v σ' ad en S F e)
theorem truthy_bool {A : Around} {s s₀ : Shared} {β β₀ : List Addr} {b : Bool} {r : Value} {σ' : H} (S : SRel X β σ' s.heap) (g : Grow [] β₀ s₀.heap β s.heap) (rs : Rest s₀ s) (vr : VRel s.heap β (.bool b) r) : wpAny (MM X) A (truthy r) (BPost X s₀ β₀ b σ') NoE s := by
  apply vr.b
  exact wpAny_truthy_bool ⟨rfl, β, S, g, rs⟩
theorem sTv {e : Expr} {m : Ex} (h : SimE X d nm sc e m) (he : ∀ env whole, isTrue e env whole = (do let v ← whole; standAt e.pos; holding [v] (truthy v))) : SimT X d nm sc e (tB m) := .mk fun A env s β ρ σ v σ' ad en S F eq => by
  unfold tB at eq
  split at eq
  · rename_i b σ₁ em
    apply so2 eq
    rw [he]
    refine wpAny_bind (wpAny_mono (h.run A env s β ρ σ _ _ ad en S F em) (fun r s₁ p => ?_) fun _ _ x => x)
    obtain ⟨β₁, S₁, g, vr, rs⟩ := p
    exact wpAny_bind (wpAny_standAt (wpAny_holding (truthy_bool S₁ g rs vr)))
  · exact nosm eq
theorem sTc {l r : Expr} {op : CmpOp} {pos} {ml mr : Ex} {f} (ho : VOp2 X d (compareOp op) f) (hm : behindInMarks op r = false) (hl : SimE X d nm sc l ml) (hr : SimE X d nm sc r mr) :
    SimT X d nm sc (.Compare l [op] [r] pos) (tB (e2 f ml mr)) :=
  .mk fun A env s β ρ σ v σ' ad en S F e => by
    unfold tB at e
    split at e
    · rename_i b σ₁ em
      cases e
      refine wpAny_isTrue_Compare1 (hm := hm) (bind2g (P := fun ra rb s₂ => wpAny (MM X) A (compareOp op ra rb) (fun c s₃ => wpAny (MM X) A (truthy c) (BPost X s β v σ') NoE s₃) NoE s₂) hl hr ad en S F em
        fun va ra vb rb β₁ σ₁ s₁ S₁ F₁ v1 v2 g r e' => wpAny_mono (ho A s₁ β₁ σ₁ va vb ra rb _ _ ad S₁ v1 v2 e') (fun c s₃ p => ?_) fun _ _ x => x)
      obtain ⟨β₃, S₃, g₃, v₃, r₃⟩ := p
      exact truthy_bool S₃ (g.trans g₃) (r.trans r₃) v₃
    · exact nosm e
end
end
section
theorem idx_get : ∀ {nm : List Str} {x : Str} {i : Nat}, idx nm x = some i → nm[i]? = some x
  | [], _, _, h => by exact nosm h
  | y :: r, x, i, h => by
    unfold idx at h
    split at h
    · rename_i e; apply so1 h; simp [e]
    · cases q : idx r x with
      | none => rw [q] at h; exact nosm h
      | some j => rw [q] at h; apply so1 h; simpa using idx_get q
section
variable {kindOf : Str → Option NameKind}
theorem bindL_other {x : Str} : ∀ {ns : List Str} {rs : List Value} {m : Str → Option Value}, x ∉ ns → bindL kindOf (ns.zip rs) m x = m x
  | [], _, _, _ => rfl
  | n :: ns, [], _, _ => rfl
  | n :: ns, r :: rs, m, h => by
    simp only [List.mem_cons, not_or] at h
    rw [List.zip_cons_cons, bindL, bindL_other h.2]
    split
    · exact if_neg h.1
    · rfl
theorem bindC_other {x : Str} : ∀ {ns : List Str} {rs : List Value} {m : Str → Option Value}, x ∉ ns → bindC kindOf (ns.zip rs) m x = m x
  | [], _, _, _ => rfl
  | n :: ns, [], _, _ => rfl
  | n :: ns, r :: rs, m, h => by
    simp only [List.mem_cons, not_or] at h
    rw [List.zip_cons_cons, bindC, bindC_other h.2]
    split
    · rfl
    · exact if_neg h.1
theorem bindL_get {x : Str} {r : Value} : ∀ {ns : List Str} {rs : List Value} {m : Str → Option Value} {i : Nat}, ns.Nodup → ns[i]? = some x → rs[i]? = some r → kindOf x = some .local → bindL kindOf (ns.zip rs) m x = some r
  | [], _, _, _, _, h, _, _ => by simp at h
  | n :: ns, [], _, _, _, _, h, _ => by simp at h
  | n :: ns, r' :: rs, m, 0, hn, h1, h2, hk => by
    simp at h1 h2
    subst h1; subst h2
    rw [List.zip_cons_cons, bindL, bindL_other (List.nodup_cons.mp hn).1, if_pos hk, if_pos rfl]
  | n :: ns, r' :: rs, m, i + 1, hn, h1, h2, hk => by
    rw [List.zip_cons_cons, bindL]
    exact bindL_get (List.nodup_cons.mp hn).2 (by simpa using h1) (by simpa using h2) hk
theorem bindC_get {x : Str} {r : Value} : ∀ {ns : List Str} {rs : List Value} {m : Str → Option Value} {i : Nat}, ns.Nodup → ns[i]? = some x → rs[i]? = some r → kindOf x = some .cell → bindC kindOf (ns.zip rs) m x = some r
  | [], _, _, _, _, h, _, _ => by simp at h
  | n :: ns, [], _, _, _, _, h, _ => by simp at h
  | n :: ns, r' :: rs, m, 0, hn, h1, h2, hk => by
    simp at h1 h2
    subst h1; subst h2
    rw [List.zip_cons_cons, bindC, bindC_other (List.nodup_cons.mp hn).1, if_neg (by rw [hk]; decide), if_pos rfl]
  | n :: ns, r' :: rs, m, i + 1, hn, h1, h2, hk => by
    rw [List.zip_cons_cons, bindC]
    exact bindC_get (List.nodup_cons.mp hn).2 (by simpa using h1) (by simpa using h2) hk
end
noncomputable def SimF (X : Ctx) (d : Nat) (name : Str) (m : List V → H → Option (V × H)) : Prop :=
  ∃ a o fd, nsIn X.K mainGlobals name = some (some (.ref a)) ∧ X.h₀.get? a = some o ∧ o.data = .func fd ∧
    ∀ (A : Around) (s : Shared) (β : List Addr) (σ : H) (args : List V) (rargs : List Value) (v : V) (σ' : H), Adm d A → SRel X β σ s.heap → VRels s.heap β args rargs →
      m args σ = some (v, σ') → wpAny (MM X) A (call (.ref a) rargs []) (EPost X s β v σ') NoE s
@[irreducible] noncomputable def rBd (k n : Nat) (body : Sx) (args : List V) (σ : H) : Option (V × H) :=
  if args.length = k then match body (args.map some ++ List.replicate n none) σ with
    | some (.ret v, _, σ') => some (v, σ')
    | some (.next, _, σ') => some (.none, σ')
    | none => none
  else none
section
variable {X : Ctx}
theorem frame_start {s s₁ : Shared} {β : List Addr} {σ : H} {fd : FuncData} {a : Addr} {nm : List Str} {k : Nat} {args : List V} {rargs : List Value} {n : Nat} (S : SRel X β σ s.heap) (vr : VRels s.heap β args rargs)
    (x : InCallC s (callEnvC fd s.heap.objs.size a).locals (bindL (callEnvC fd s.heap.objs.size a).kindOf ((nm.take k).zip rargs) fun _ => none) (callEnvC fd s.heap.objs.size a).cells
      (bindC (callEnvC fd s.heap.objs.size a).kindOf ((nm.take k).zip rargs) fun _ => none) s₁)
    (hlen : args.length = k) (hnd : (nm.take k).Nodup) (hcn : ((cellsFrom 0 fd.scope.names []).map (·.1)).Nodup) (hnf : ∀ y ∈ nm.take k, fd.scope.names.lookup y ≠ some .free) :
    FRel X nm (callEnvC fd s.heap.objs.size a) (args.map some ++ List.replicate n none) β s₁.heap := by
  have hg : ∀ p ∈ fa (callEnvC fd s.heap.objs.size a), s.heap.objs.size ≤ p := fun p hp => by
    cases hp with
    | head => exact Nat.le_refl _
    | tail _ hp =>
      obtain ⟨q, hq, rfl⟩ := List.mem_map.mp hp
      exact Nat.le_of_lt (x.above q.1 q.2 hq)
  have g : Grow [] β s.heap β s₁.heap := Grow.ext x.toInCall.keep
  have hcells : ∀ p ∈ (callEnvC fd s.heap.objs.size a).cells, (callEnvC fd s.heap.objs.size a).cells.lookup p.1 = some p.2 := fun p hp =>
    lookup_of_mem_nodup (cellsFrom_names fd.scope.names 0 (s.heap.objs.size + 1) [] [] rfl ▸ hcn) hp
  have hget : ∀ {i : Nat} {v : V}, (args.map some ++ List.replicate n none)[i]? = some (some v) → args[i]? = some v ∧ i < k := fun {i v} e => by
    by_cases hi : i < args.length
    · rw [List.getElem?_append_left (by simpa using hi), List.getElem?_map] at e
      rw [List.getElem?_eq_getElem hi] at e ⊢
      simp at e
      exact ⟨by rw [e], by lia⟩
    · rw [List.getElem?_append_right (by simpa using hi)] at e
      rw [List.getElem?_replicate] at e
      split at e <;> simp at e
  refine ⟨fun p hp m => ?_, fun p hp => ?_, ⟨_, x.toInCall.ns, fun i y v e1 e2 e3 => ?_⟩, fun p hp => ?_, fun y e => ?_, fun i y v e1 e2 e3 => ?_, fun y z c h1 h2 => ?_, fun p hp => ?_⟩
  · obtain ⟨o, e, _⟩ := S.alive m
    exact absurd (Heap.lt_size e) (Nat.not_lt.mpr (hg p hp))
  · cases e : X.h₀.get? p with
    | none => rfl
    | some o => exact absurd (Heap.lt_size (S.base _ _ e)) (Nat.not_lt.mpr (hg p hp))
  · obtain ⟨h1, h2⟩ := hget e3
    obtain ⟨rv, h3, h4⟩ := vr.get h1
    refine ⟨rv, bindL_get hnd (i := i) ?_ h3 e2, h4.mono g⟩
    rw [List.getElem?_take, if_pos h2]
    exact idx_get e1
  · exact ⟨_, x.cell p.1 p.2 (hcells p hp)⟩
  · exact Option.isSome_iff_exists.mp (cellsFrom_some fd.scope.names (s.heap.objs.size + 1) [] (.inl e))
  · obtain ⟨h1, h2⟩ := hget e3
    obtain ⟨rv, h3, h4⟩ := vr.get h1
    have hy : (nm.take k)[i]? = some y := by rw [List.getElem?_take, if_pos h2]; exact idx_get e1
    have hk : (callEnvC fd s.heap.objs.size a).kindOf y = some .cell := e2.resolve_right fun q => hnf y (List.mem_of_getElem? hy) q
    obtain ⟨c, hc⟩ := Option.isSome_iff_exists.mp (cellsFrom_some fd.scope.names (s.heap.objs.size + 1) [] (.inl hk))
    have := x.cell y c hc
    rw [bindC_get hnd hy h3 hk] at this
    exact ⟨c, rv, hc, this, h4.mono g⟩
  · exact name_of_addr x.apart (mem_of_lookup h1) (mem_of_lookup h2)
  · exact Nat.ne_of_gt (x.above p.1 p.2 hp)
theorem simF_intro (ok : X.Ok) {d : Nat} {name nme qual : Str} {params : Arguments} {body : List Stmt} {scope : Scope} {kV doc pm cdv ct oc : Value} {an od : Option Addr} {osl : Array (Option Value)} {f : Addr} {nm : List Str} {k n : Nat} {m : Sx}
    (hg : nsIn X.K mainGlobals name = some (some (.ref f)))
    (ho : X.K.lookup f = some ⟨oc, od, .func (fnOf nme qual params body scope .none kV doc pm an cdv ct), osl⟩) (hcd : codeIn X.K cdv qual = true)
    (hb : SimSs X d nm scope body m)
    (hbind : ∀ rargs : List Value, rargs.length = k → bindArgs (fnOf nme qual params body scope .none kV doc pm an cdv ct) ⟨rargs, []⟩ = pure ((nm.take k).zip rargs))
    (hk : scope.kind = .function) (hnd : (nm.take k).Nodup) (hcn : ((cellsFrom 0 scope.names []).map (·.1)).Nodup)
    (hkind : ∀ y ∈ nm.take k, scope.names.lookup y = some .local ∨ scope.names.lookup y = some .cell)
    (hco : scope.isCoroutine = false) (hgen : scope.isGenerator = false) : SimF X (d + 1) name (rBd k n m) := by
  refine ⟨f, _, _, hg, ok.kin _ _ ho, rfl, fun A s β σ args rargs v σ' ad S vr e => ?_⟩
  unfold rBd at e
  split at e
  · rename_i hlen
    refine wpAny_call (codeAny_call_cells (binds := (nm.take k).zip rargs) (ad.deep) (S.base _ _ (ok.kin _ _ ho)) rfl (ok.top.nolimit.keeps S.base) (codeRec_of (fun a o q => S.base _ _ (ok.kin a o q)) hcd) rfl
      (hbind rargs (by rw [← vr.length, hlen])) rfl (fun y hy => ?_) (fun s₁ x => ?_) hco hgen hk)
    · have hy' := List.of_mem_zip hy
      rcases hkind y.1 hy'.1 with q | q
      · exact .inl q
      · exact .inr ⟨q, cellsFrom_some scope.names _ [] (.inl q)⟩
    · have g : Grow [] β s.heap β s₁.heap := Grow.ext x.toInCall.keep
      obtain ⟨h₁, tk, hs₁⟩ := x.toInCall.same
      have rs : Rest s s₁ := by rw [hs₁]; exact ⟨rfl, rfl⟩
      have S₁ := S.ext x.toInCall.keep
      have F₁ := frame_start (n := n) S vr x hlen hnd hcn fun y hy q => by rcases hkind y hy with h | h <;> (rw [h] at q; cases q)
      have ad' : Adm d (A.deeper (callEnvC (fnOf nme qual params body scope .none kV doc pm an cdv ct) s.heap.objs.size f)) :=
        ⟨ad.handled, ad.guards, by have := ad.depth; show A.depth + 1 + d ≤ 900; lia, by have := ad.units; show A.units + 3 + 4 * d ≤ 9000; lia⟩
      have en : EnvOk X scope (callEnvC (fnOf nme qual params body scope .none kV doc pm an cdv ct) s.heap.objs.size f) := ⟨rfl, hk, rfl, rfl⟩
      have fresh : ∀ p ∈ fa (callEnvC (fnOf nme qual params body scope .none kV doc pm an cdv ct) s.heap.objs.size f), s.heap.get? p = none := fun p hp => by
        have : s.heap.objs.size ≤ p := by
          cases hp with
          | head => exact Nat.le_refl _
          | tail _ hp =>
            obtain ⟨q, hq, rfl⟩ := List.mem_map.mp hp
            exact Nat.le_of_lt (x.above q.1 q.2 hq)
        cases e : s.heap.get? p with
        | none => rfl
        | some o => exact absurd (Heap.lt_size e) (Nat.not_lt.mpr this)
      have fin : ∀ {β' : List Addr} {s₂ : Shared}, Grow (fa (callEnvC (fnOf nme qual params body scope .none kV doc pm an cdv ct) s.heap.objs.size f)) β s₁.heap β' s₂.heap → Grow [] β s.heap β' s₂.heap :=
        fun G => (g.nil.trans G).drop fun p hp => .inr (fresh p hp)
      split at e
      · rename_i w ρ₁ σ₁ eb
        apply so2 e
        refine wpAny_mono (hb.run _ _ s₁ β _ σ _ _ _ ad' en S₁ F₁ eb) (fun rf s₂ p => ?_) fun _ _ x => x.elim
        obtain ⟨β', S₂, F₂, G₂, fr, r₂⟩ := p
        cases fr with
        | ret ur => exact ⟨β', S₂, fin G₂, ur, rs.trans r₂⟩
      · rename_i ρ₁ σ₁ eb
        apply so2 e
        refine wpAny_mono (hb.run _ _ s₁ β _ σ _ _ _ ad' en S₁ F₁ eb) (fun rf s₂ p => ?_) fun _ _ x => x.elim
        obtain ⟨β', S₂, F₂, G₂, fr, r₂⟩ := p
        cases fr
        exact ⟨β', S₂, fin G₂, .none, rs.trans r₂⟩
      · exact nosm e
  · exact nosm e
theorem sEc (ok : X.Ok) {d d' : Nat} {nm : List Str} {sc : Scope} {name : Str} {a : Expr} {as : List Expr} {p pos} {ms : List Ex} {m} (hf : SimF X d' name m) (hd : d' ≤ d) (hL : SimL X d nm sc (a :: as) (eL ms))
    (hk : sc.names.lookup name = some .globalImplicit) (hdb : (name == ("__debug__" : Str)) = false) (hst : ∀ x p, a ≠ .Starred x p) : SimE X d nm sc (.Call (.Name name p) (a :: as) [] pos) (eN m ms) :=
  .mk fun A env s β ρ σ v σ' ad en S F e => by
    obtain ⟨f, o, fd, hg, hof, hfd, hrun⟩ := hf
    unfold eN at e
    split at e
    · rename_i vs σ₁ es
      rw [show eval (.Call (.Name name p) (a :: as) [] pos) env = (do callWith pos (← eval (.Name name p) env) [] (backTo pos (starEach (a :: as) env)) (backToKw pos (keywordEach [] env))) from rfl]
      refine wpAny_bind (Calls.Name_function_global en.fn (by rw [en.kindOf]; exact hk) (Calls.loadGlobal_global (mg := X.mg) (by rw [en.globals]; exact ok.top.g.keeps S.base) (mg_of ok.kin ok.top.g hg) ?_) hdb)
      have hst' : starEach (a :: as) env = (false, eval a env) :: starEach as env := by cases a <;> first | rfl | exact absurd rfl (hst _ _)
      have key := hL.run A env s β ρ σ vs σ₁ pos ad en S F es
      rw [hst'] at key ⊢
      refine Calls.callWith_function (o := o) (fd := fd) (Calls.evalArgs_plain (wpAny_mono key (fun rvs s₁ q => ?_) fun _ _ x => x))
      obtain ⟨β₁, S₁, g, vr, r⟩ := q
      refine ⟨⟨S₁.base _ _ hof, hfd⟩, ?_⟩
      exact wpAny_mono (hrun A s₁ β₁ σ₁ vs rvs v σ' (ad.le hd) S₁ vr e) (fun _ _ p => p.after g r) fun _ _ x => x
    · exact nosm e
end
end
section
section
variable {X : Ctx} {d : Nat} {nm : List Str} {sc : Scope}
inductive Fd where
  | rows | names | temps | trys | lives
noncomputable def Fd.str : Fd → Str
  | .rows => Str.ofString "rows"
  | .names => Str.ofString "names"
  | .temps => Str.ofString "temps"
  | .trys => Str.ofString "trys"
  | .lives => Str.ofString "lives"
noncomputable def Fd.pick (f : Fd) (r nn t y l : V) : V := Fd.casesOn (motive := fun _ => V) f r nn t y l
noncomputable def oK {α : Type} (o : Option MO) (f : Nat → Option α) : Option α := Option.casesOn (motive := fun _ => Option α) o none fun o => MO.casesOn (motive := fun _ => Option α) o (fun _ => none) (fun _ => none) (fun _ => none) f (fun _ _ _ _ _ => none)
noncomputable def oA {α : Type} (o : Option MO) (f : V → V → V → V → V → Option α) : Option α := Option.casesOn (motive := fun _ => Option α) o none fun o => MO.casesOn (motive := fun _ => Option α) o (fun _ => none) (fun _ => none) (fun _ => none) (fun _ => none) f
theorem oK_e {α : Type} {r : α} {o : Option MO} {f : Nat → Option α} {P : Prop} (e : oK o f = some r) (k : ∀ vs, o = some (.inst vs) → f vs = some r → P) : P := by
  rcases o with _ | o
  · exact nosm e
  · induction o using MO.casesOn <;> first | exact nosm e | exact k _ rfl e
theorem oA_e {α : Type} {r : α} {o : Option MO} {f : V → V → V → V → V → Option α} {P : Prop} (e : oA o f = some r) (k : ∀ a b c y l, o = some (.attrs a b c y l) → f a b c y l = some r → P) : P := by
  rcases o with _ | o
  · exact nosm e
  · induction o using MO.casesOn <;> first | exact nosm e | exact k _ _ _ _ _ rfl e
noncomputable def vAttr (f : Fd) (v : V) (σ : H) : Option (V × H) := v.onR fun n => oK σ[n]? fun k => oA σ[k]? fun r nn t y l => some (f.pick r nn t y l, σ)
theorem VRel.handed {h β v r} (x : VRel h β v r) : handedIn r = true := by cases x <;> rfl
theorem attr_ok (ok : X.Ok) (f : Fd) : VOp1 X d (fun r => getAttr r f.str true) (vAttr f) := fun A s β σ v r w σ' ad S vr e => by
  unfold vAttr at e
  revert vr; apply V.onR_e e; intro n e vr
  · apply oK_e e; intro k hn e
    · apply oA_e e; intro a b c y l hk e
      · apply so2 e
        apply vr.a; intro _ hna
        rename_i ax
        obtain ⟨dx, hdx, hx⟩ := S.obj _ _ _ hn hna
        obtain ⟨es, m, r', n', t', y', l', e0, e1, e2, e3, e4, e5, v1, v2, v3, v4, v5⟩ := S.obj _ _ _ hk hdx
        have I : InstAt s.heap ax (instObj X.C dx) X.C (some (dictOf es m)) := ⟨hx, rfl, rfl, e0⟩
        have go : ∀ {x : Str} {rv : Value} {u : V}, findIn X.K (.ref X.C) x = some none → getL x es = some (some rv) → VRel s.heap β u rv → wpAny (MM X) A (getAttr (.ref ax) x true) (EPost X s β u σ) NoE s := fun ha hl vu =>
          get_value (fun a o q => S.base _ _ (ok.kin a o q)) I ok.ga (findObj_own ok.hd ha rfl hl) vu.handed ⟨β, S, Grow.refl, vu, rfl, rfl⟩
        clear e
        induction f using Fd.casesOn with
        | rows => exact go ok.at1 e1 v1
        | names => exact go ok.at2 e2 v2
        | temps => exact go ok.at3 e3 v3
        | trys => exact go ok.at4 e4 v4
        | lives => exact go ok.at5 e5 v5
theorem sEa (ok : X.Ok) (f : Fd) {x : Str} {p pos} {a : Str} {m : Ex} (h : SimE X d nm sc (.Name x p) m) (ha : a = f.str) : SimE X d nm sc (.Attribute (.Name x p) a pos) (e1 (vAttr f) m) := .mk fun A env s β ρ σ v σ' ad en S F e => by
  subst ha
  exact Attribute_name (bind1 (t := fun r => getAttr r f.str true) h ad en S F e fun va ra β₁ σ₁ s₁ S₁ F₁ v1 g r e' =>
    wpAny_mono (attr_ok ok f A s₁ β₁ σ₁ va ra v σ' ad S₁ v1 e') (fun _ _ p => p.after g r) fun _ _ x => x)
noncomputable def ret1 (σ : H) (v : V) : Option (V × H) := some (v, σ)
noncomputable def vIdx (o i : V) (σ : H) : Option (V × H) := o.onRTS
  (fun n => i.onIS (fun k => oLI σ[n]? (fun vs => if 0 ≤ k ∧ k < vs.length ∧ vs.length ≤ 100000 then vs[k.toNat]?.bind (ret1 σ) else none) fun kvs => (look kvs k).bind (ret1 σ)) fun x => oS σ[n]? fun kvs => (look kvs x).bind (ret1 σ))
  (fun vs => i.onI fun k => if 0 ≤ k ∧ k < vs.length ∧ vs.length ≤ 100000 then vs[k.toNat]?.bind (ret1 σ) else none)
  fun l => i.onI fun k => if 0 ≤ k ∧ k < l.length ∧ l.length ≤ 100000 then l[k.toNat]?.bind fun c => some (.str [c], σ) else none
theorem sub_ok {value slice : Expr} (hs : ∀ ro ri : Value, subscripted slice false ro ri = operate [ro, ri] (getItem ro ri)) : VOp2 X d (subscriptTail value slice) vIdx := fun A s β σ o i ro ri w σ' ad S vo vi e => by
  unfold vIdx at e
  revert vo; apply V.onRTS_e e
  · intro n e vo
    apply vo.a; intro a hn
    revert vi; apply V.onIS_e e
    · intro k e vi
      apply vi.i; intro t
      apply oLI_e e
      · intro vs hvs e
        apply ife e; intro hb e
        · apply obe e; intro v hv e
          apply so2 e
          obtain ⟨ws, kk, hl, hr⟩ := S.obj n _ a hvs hn
          obtain ⟨rv, h1, h2⟩ := hr.get hv
          exact tail_any (isList_of hl).typeIs slot_list_getitem.lookup (wpAny_getItem_list (isList_of hl) hb.1 (by lia) (by simpa using h1) ⟨β, S, Grow.refl, h2, Rest.refl⟩) (hs _ _)
      · intro kvs hkvs e
        apply obe e; intro v hv e
        apply so2 e
        obtain ⟨rks, hd, hr⟩ := S.obj n _ a hkvs hn
        have hk := hr.look k
        rw [hv] at hk
        obtain ⟨rv, h1, h2⟩ := hk
        exact tail_any hd.dictOf.typeIs slot_dict_getitem.lookup (wpAny_getItem_of (intKind_is _ _ k t) hd.dictOf.mapOf h1 ⟨β, S, Grow.refl, h2, rfl, rfl⟩) (hs _ _)
    · intro x e vi
      obtain ⟨x, t, rfl, rfl⟩ := vi.inv
      apply oS_e e; intro kvs hkvs e
      apply obe e; intro v hv e
      apply so2 e
      obtain ⟨rks, hd, hr⟩ := S.obj n _ a hkvs hn
      have hk := hr.look x
      rw [hv] at hk
      obtain ⟨rv, h1, h2⟩ := hk
      exact tail_any hd.dictOf.typeIs slot_dict_getitem.lookup (wpAny_getItem_of (strKind_is _ _ x t) hd.dictOf.mapOf h1 ⟨β, S, Grow.refl, h2, rfl, rfl⟩) (hs _ _)
  · intro vs e vo
    revert vi; apply V.onI_e e; intro k e vi
    apply vi.i; intro t
    apply ife e; intro hb e
    apply obe e; intro v hv e
    apply so2 e
    obtain ⟨a, ws, rfl, ht, hr⟩ := vo.list_inv
    obtain ⟨rv, h1, h2⟩ := hr.get hv
    have hlen := hr.length
    refine tail_any (T := "tuple") ht.typeIs slot_tuple_getitem.lookup (getItem_tuple (j := k.toNat) ht (by lia) (by lia) ?_ (by simpa using h1) ⟨β, S, Grow.refl, h2, Rest.refl⟩) (hs _ _)
    unfold seqIndex?
    simp only [List.size_toArray]
    rw [← hlen]
    have q1 : ¬ (k < 0) := by lia
    simp only [q1, if_false]
    rw [if_pos (by simp [hb.1, hb.2.1])]
  · intro l e vo
    revert vi; apply V.onI_e e; intro k e vi
    obtain ⟨x, u, rfl, rfl⟩ := vo.inv
    apply vi.i; intro t
    apply ife e; intro hb e
    apply obe e; intro c hc e
    apply so2 e
    have hlen : x.cps.toList.length = x.length := by simp [Str.length]
    rw [hlen] at hb
    refine tail_any (T := "str") (typeIs_str _ _ _) F.slot_str_getitem.lookup (SB.getItem ?_ (charAt_isSome (by lia) (by lia)) ⟨β, S, Grow.refl, ?_, rfl, rfl⟩) (hs _ _)
    · unfold fitsSsize
      have h1 : ¬ (k < -(2 ^ 63 : Int)) := by lia
      have h2 : ¬ (k ≥ 2 ^ 63) := by lia
      simp only [h1, h2, decide_false, Bool.or_self, Bool.not_false]
    · have : (Txt.item x k).cps.toList = [c] := by
        have q1 : ¬ (k < 0) := by lia
        unfold Txt.item Txt.charAt seqIndex?
        simp only [q1, if_false]
        rw [if_pos (by simp [hb.1, hb.2.1])]
        rw [Array.getElem?_toList] at hc
        simp [hc]
      rw [← this]
      exact .str _ _
theorem sEu {o i : Expr} {pos} {mo mi : Ex} (hs : ∀ ro ri : Value, subscripted i false ro ri = operate [ro, ri] (getItem ro ri)) (ho : SimE X d nm sc o mo) (hi : SimE X d nm sc i mi) : SimE X d nm sc (.Subscript o i pos) (e2 vIdx mo mi) :=
  .mk fun A env s β ρ σ v σ' ad en S F e => Subscript_ (bind2 (t := subscriptTail o i) ho hi ad en S F e fun va ra vb rb β₁ σ₁ s₁ S₁ F₁ v1 v2 g r e' =>
    wpAny_mono (sub_ok hs A s₁ β₁ σ₁ va vb ra rb v σ' ad S₁ v1 v2 e') (fun _ _ p => p.after g r) fun _ _ x => x)
theorem newList_ok (ok : X.Ok) : VOpN X d (fun rs => newList rs) vList := fun A s β σ vs rs w σ' ad S vr e => by
  unfold vList at e
  split at e
  · rename_i hb
    apply so2 e
    have h : EPost X s β (.ref σ.length) (σ ++ [.list vs]) (.ref s.heap.objs.size) { s with heap := s.heap.push { cls := .type "list", data := .seq rs.toArray } } :=
      ⟨β ++ [s.heap.objs.size], S.new' ok rfl fun h' e' g' => ⟨rs, _, e', vr.mono g'⟩, Grow.pushNew _, .ref (by rw [← S.len]; simp), rfl, rfl⟩
    exact wpAny_newObj_type h (by show rs.toArray.size ≤ sizeLine; rw [List.size_toArray, ← vr.length, sizeLine_eq]; lia)
  · exact nosm e
theorem newTuple_ok : VOpN X d (fun rs => newTuple rs) vTup := fun A s β σ vs rs w σ' ad S vr e => by
  unfold vTup at e
  split at e
  · rename_i hb
    apply so2 e
    have h : EPost X s β (.tup vs) σ (.ref s.heap.objs.size) { s with heap := s.heap.push { cls := .type "tuple", data := .seq rs.toArray } } :=
      ⟨β, S.push _, Grow.push _, .tup ⟨_, Heap.get?_push_size _ rfl, rfl, _, rfl⟩ (vr.mono (S := []) (Grow.push _)), rfl, rfl⟩
    exact wpAny_newObj_type h (by show rs.toArray.size ≤ sizeLine; rw [List.size_toArray, ← vr.length, sizeLine_eq]; lia)
  · exact nosm e
theorem bindN {A env s β ρ σ v σ'} {f : List V → H → Option (V × H)} {ms : List Ex} {as : List Expr} {t : List Value → Sem Value} {pos : Pos} (hL : SimL X d nm sc as (eL ms)) (ht : VOpN X d t f) (ad : Adm d A) (en : EnvOk X sc env) (S : SRel X β σ s.heap) (F : FRel X nm env ρ β s.heap)
    (e : eN f ms ρ σ = some (v, σ')) : wpAny (MM X) A (spliced (backTo pos (starEach as env))) (fun rs s₁ => wpAny (MM X) A (t rs) (EPost X s β v σ') NoE s₁) NoE s := by
  unfold eN at e
  split at e
  · rename_i vs σ₁ es
    refine wpAny_mono (hL.run A env s β ρ σ vs σ₁ pos ad en S F es) (fun rvs s₁ q => ?_) fun _ _ x => x
    obtain ⟨β₁, S₁, g, vr, r⟩ := q
    exact wpAny_mono (ht A s₁ β₁ σ₁ vs rvs v σ' ad S₁ vr e) (fun _ _ p => p.after g r) fun _ _ x => x
  · exact nosm e
theorem sEl (ok : X.Ok) {es : List Expr} {pos} {ms : List Ex} (hL : SimL X d nm sc es (eL ms)) : SimE X d nm sc (.List es pos) (eN vList ms) := .mk fun A env s β ρ σ v σ' ad en S F e =>
  List_ (bindN hL (newList_ok ok) ad en S F e)
theorem sEt {es : List Expr} {k pos} {ms : List Ex} (hL : SimL X d nm sc es (eL ms)) : SimE X d nm sc (.Tuple es k pos) (eN vTup ms) := .mk fun A env s β ρ σ v σ' ad en S F e =>
  Tuple_ (bindN hL newTuple_ok ad en S F e)
end
end
section
section
variable {X : Ctx} {d : Nat} {nm : List Str} {sc : Scope}
noncomputable def NotStar (a : Expr) : Prop := ∀ x p, a ≠ .Starred x p
theorem starEach_cons {env : Env} {a : Expr} {as : List Expr} (h : NotStar a) : starEach (a :: as) env = (false, eval a env) :: starEach as env := by
  cases a <;> first | rfl | exact absurd rfl (h _ _)
noncomputable def NotStars : List Expr → Prop
  | [] => True
  | a :: r => NotStar a ∧ NotStars r
theorem starEach_plain (env : Env) (pos : Pos) : ∀ {as : List Expr}, NotStars as → (backTo pos (starEach as env)).any (·.1) = false
  | [], _ => rfl
  | a :: r, h => by
    rw [starEach_cons h.1]
    show (false || (backTo pos (starEach r env)).any (·.1)) = false
    rw [starEach_plain env pos h.2]; rfl
theorem starEach_all (env : Env) (pos : Pos) : ∀ {as : List Expr}, NotStars as → (backTo pos (starEach as env)).all (fun x => !x.1) = true
  | [], _ => rfl
  | a :: r, h => by
    rw [starEach_cons h.1]
    show (true && (backTo pos (starEach r env)).all (fun x => !x.1)) = true
    rw [starEach_all env pos h.2]; rfl
theorem args_ok {A env s β ρ σ vs σ₁} {pos : Pos} {f : Value} {as : List Expr} {ms : List Ex} {Q : Args → Shared → Prop} (hL : SimL X d nm sc as (eL ms)) (hnil : as = [] → ms = []) (hst : NotStars as) (ad : Adm d A) (en : EnvOk X sc env) (S : SRel X β σ s.heap) (F : FRel X nm env ρ β s.heap)
    (e : eL ms ρ σ = some (vs, σ₁)) (h : ∀ rs s₁, LPost X s β vs σ₁ rs s₁ → Q ⟨rs, []⟩ s₁) : wpAny (MM X) A (evalArgs f true (backTo pos (starEach as env)) []) Q NoE s := by
  induction as using List.casesOn with
  | nil =>
    rw [hnil rfl] at e
    cases e
    exact PyProof.Rows.evalArgs_none (h [] s ⟨β, S, Grow.refl, .nil, Rest.refl⟩)
  | cons a as =>
    have key := hL.run A env s β ρ σ vs σ₁ pos ad en S F e
    rw [starEach_cons hst.1] at key ⊢
    exact Calls.evalArgs_plain (wpAny_mono key (fun rvs s₁ q => h rvs s₁ q) fun _ _ x => x)
theorem simE_bi (ok : X.Ok) {name : Str} {fv : Value} {a : Expr} {as : List Expr} {p pos} {ms : List Ex} {f} (hm : name ∈ biNames) (hv : bootBuiltins name = some fv) (hn : name ≠ Str.ofString "__name__") (hf : (∃ id, fv = .builtin id) ∨ ∃ T, fv = .type T)
    (hx : VOpN X d (fun rs => call fv rs []) f) (hL : SimL X d nm sc (a :: as) (eL ms)) (hk : sc.names.lookup name = some .globalImplicit) (hdb : (name == ("__debug__" : Str)) = false) (hst : NotStars (a :: as)) :
    SimE X d nm sc (.Call (.Name name p) (a :: as) [] pos) (eN f ms) := .mk fun A env s β ρ σ v σ' ad en S F e => by
  unfold eN at e
  split at e
  · rename_i vs σ₁ es
    rw [show eval (.Call (.Name name p) (a :: as) [] pos) env = (do callWith pos (← eval (.Name name p) env) [] (backTo pos (starEach (a :: as) env)) (backToKw pos (keywordEach [] env))) from rfl]
    refine wpAny_bind (Calls.Name_function_global en.fn (by rw [en.kindOf]; exact hk) (Calls.loadGlobal_builtin (mg := X.mg) (mb := X.mb) (by rw [en.globals]; exact ok.top.g.keeps S.base) (mg_none_of ok.kin ok.top.g (ok.nob name hm))
      (by rw [en.builtins]; exact ok.top.b.keeps S.base) ((ok.top.builtins name hn).trans hv) ?_) hdb)
    have fin : wpAny (MM X) A (evalArgs fv true (backTo pos (starEach (a :: as) env)) []) (fun x s₁ => wpAny (MM X) A (call fv ([] ++ x.pos) x.kw) (EPost X s β v σ') NoE s₁) NoE s :=
      args_ok hL (fun q => nomatch q) hst ad en S F es fun rs s₁ q => by
        obtain ⟨β₁, S₁, g, vr, r⟩ := q
        exact wpAny_mono (hx A s₁ β₁ σ₁ vs rs v σ' ad S₁ vr e) (fun _ _ p => p.after g r) fun _ _ x => x
    rcases hf with ⟨id, rfl⟩ | ⟨T, rfl⟩
    · exact Calls.callWith_builtin (starEach_plain env pos hst) fin
    · exact PySem.callWith_type (starEach_plain env pos hst) fin
  · exact nosm e
noncomputable def MO.ty (o : MO) : Option String := MO.casesOn (motive := fun _ => Option String) o (fun _ => some "list") (fun _ => some "dict") (fun _ => some "dict") (fun _ => none) (fun _ _ _ _ _ => none)
noncomputable def tyOf (o : V) (σ : H) : Option String := o.onR fun n => σ[n]?.bind MO.ty
theorem tyOf_ok {s : Shared} {β : List Addr} {σ : H} {o : V} {ro : Value} {T : String} (S : SRel X β σ s.heap) (vo : VRel s.heap β o ro) (e : tyOf o σ = some T) : s.TypeIs ro T ∧ ∀ a, ro = .ref a → ∃ ob, s.heap.get? a = some ob ∧ ob.dict = none := by
  unfold tyOf at e
  revert vo; apply V.onR_e e; intro n e vo
  apply vo.a; intro _ hn
  apply obe e; intro o hvs e
  have r := S.obj _ _ _ hvs hn
  clear hvs
  induction o using MO.casesOn <;> (first | exact nosm e | apply so1 e)
  · obtain ⟨ws, k, hl, _⟩ := r
    exact ⟨⟨_, hl, rfl⟩, fun a q => by cases q; exact ⟨_, hl, rfl⟩⟩
  · obtain ⟨rks, ⟨o, es, ho, hc, _⟩, _⟩ := r
    exact ⟨⟨_, ho, hc.1⟩, fun a q => by cases q; exact ⟨_, ho, hc.2.1⟩⟩
  · obtain ⟨rks, ⟨o, es, ho, hc, _⟩, _⟩ := r
    exact ⟨⟨_, ho, hc.1⟩, fun a q => by cases q; exact ⟨_, ho, hc.2.1⟩⟩
@[irreducible] noncomputable def eM (T : String) (f : V → List V → H → Option (V × H)) (o : Ex) (as : List Ex) : Ex := fun ρ σ => match o ρ σ with
  | some (vo, σ₁) => if tyOf vo σ₁ = some T then match eL as ρ σ₁ with
      | some (vs, σ₂) => f vo vs σ₂
      | none => none
    else none
  | none => none
noncomputable def VMeth (X : Ctx) (d : Nat) (id : String) (f : V → List V → H → Option (V × H)) : Prop :=
  ∀ (A : Around) (s : Shared) (β : List Addr) (σ : H) (o : V) (a : List V) (ro : Value) (ra : List Value) (v : V) (σ' : H), Adm d A → SRel X β σ s.heap → VRel s.heap β o ro → VRels s.heap β a ra →
    f o a σ = some (v, σ') → wpAny (MM X) A (call (.builtin id) (ro :: ra)) (EPost X s β v σ') NoE s
theorem simE_meth {T id : String} {name : Str} {o : Expr} {as : List Expr} {apos pos : Pos} {f} {mo : Ex} {ms : List Ex} (pa : PlainAttrs T) (slot : Slot T name id) (hty : typeOf (.builtin id) = pure (.type "method_descriptor")) (hx : VMeth X d id f)
    (ho : SimE X d nm sc o mo) (hL : SimL X d nm sc as (eL ms)) (hnil : as = [] → ms = []) (hst : NotStars as) (hbase : ∀ env, attributeBase o name env (eval o env) = eval o env) (hline : (apos.endLine == pos.line) = true) (hlen : as.length < 30) :
    SimE X d nm sc (.Call (.Attribute o name apos) as [] pos) (eM T f mo ms) := .mk fun A env s β ρ σ v σ' ad en S F e => by
  unfold eM at e
  split at e
  · rename_i vo σ₁ eo
    split at e
    · rename_i ht
      split at e
      · rename_i vs σ₂ es
        refine wpAny_Call_method_late (hbase env) ?_ hline rfl (wpAny_mono (ho.run A env s β ρ σ vo σ₁ ad en S F eo) (fun ro s₁ q => ?_) fun _ _ x => x)
        · rw [starEach_all env pos hst]
          have hk0 : keywordEach [] env = [] := rfl
          simp [backToKw, hk0, hlen]
        · obtain ⟨β₁, S₁, g, vr, r⟩ := q
          obtain ⟨h1, h2⟩ := tyOf_ok S₁ vr ht
          refine ⟨T, id, pa, slot, hty, h1, h2, Calls.callWith_builtin (starEach_plain env pos hst) (args_ok hL hnil hst ad en S₁ (F.mono g) es fun rs s₂ q => ?_)⟩
          obtain ⟨β₂, S₂, g₂, vrs, r₂⟩ := q
          exact wpAny_mono (hx A s₂ β₂ σ₂ vo vs ro rs v σ' ad S₂ (vr.mono g₂) vrs e) (fun _ _ p => p.after (g.trans g₂) (r.trans r₂)) fun _ _ x => x
      · exact nosm e
    · exact nosm e
  · exact nosm e
end
end
section
section
variable {X : Ctx} {d : Nat} {nm : List Str} {sc : Scope}
theorem EPost.same {s β v σ rv} {k : Tok} (S : SRel X β σ s.heap) (vr : VRel s.heap β v rv) : EPost X s β v σ rv { s with toks := k } := ⟨β, S, Grow.refl, vr, rfl, rfl⟩
theorem EPost.new (ok : X.Ok) {s β σ} {mo : MO} {o : Obj} (S : SRel X β σ s.heap) (hi : o.isFreed = false)
    (h : ∀ h', h'.get? s.heap.objs.size = some o → Grow [] β s.heap (β ++ [s.heap.objs.size]) h' → ORel X h' (β ++ [s.heap.objs.size]) mo s.heap.objs.size) {k : Tok} :
    EPost X s β (.ref σ.length) (σ ++ [mo]) (.ref s.heap.objs.size) { s with heap := s.heap.push o, toks := k } := by
  refine ⟨β ++ [s.heap.objs.size], S.new' ok hi h, Grow.pushNew _, .ref (by rw [← S.len]; simp), rfl, rfl⟩
noncomputable def V.onIRS {α : Type} (v : V) (f : Int → Option α) (g : Nat → Option α) (h : List Nat → Option α) : Option α := V.casesOn (motive_1 := fun _ => Option α) v Option.none (fun _ => Option.none) f h (fun _ => Option.none) g (fun _ _ _ => Option.none) (fun _ => Option.none) Option.none
noncomputable def V.onS {α : Type} (v : V) (h : List Nat → Option α) : Option α := V.casesOn (motive_1 := fun _ => Option α) v Option.none (fun _ => Option.none) (fun _ => Option.none) h (fun _ => Option.none) (fun _ => Option.none) (fun _ _ _ => Option.none) (fun _ => Option.none) Option.none
theorem V.onIRS_e {α : Type} {r : α} {v : V} {f : Int → Option α} {g : Nat → Option α} {h : List Nat → Option α} {P : V → Prop} (e : v.onIRS f g h = some r) (k : ∀ i, f i = some r → P (.int i)) (k2 : ∀ i, g i = some r → P (.ref i)) (k3 : ∀ i, h i = some r → P (.str i)) : P v := by
  induction v using V.casesOn <;> first | exact nosm e | exact k _ e | exact k2 _ e | exact k3 _ e
theorem V.onS_e {α : Type} {r : α} {v : V} {h : List Nat → Option α} {P : V → Prop} (e : v.onS h = some r) (k3 : ∀ i, h i = some r → P (.str i)) : P v := by
  induction v using V.casesOn <;> first | exact nosm e | exact k3 _ e
noncomputable def vAdd (x y : V) (σ : H) : Option (V × H) := x.onIRS (fun a => y.onI fun b => some (.int (a + b), σ))
  (fun n => y.onR fun m => oL σ[n]? fun vs => oL σ[m]? fun ws => if vs.length + ws.length ≤ 100000 then some (.ref σ.length, σ ++ [.list (vs ++ ws)]) else none)
  fun a => y.onS fun b => if a.length + b.length ≤ 100000 then some (.str (a ++ b), σ) else none
theorem add_ok (ok : X.Ok) : VOp2 X d (binaryOp .Add) vAdd := fun A s β σ a b ra rb v σ' ad S va vb e => by
  unfold vAdd at e
  revert va vb; apply V.onIRS_e e
  · intro i e; apply V.onI_e e; intro j e va vb
    (apply va.i; intro _); (apply vb.i; intro _); apply so2 e
    exact P.add_int (.same S (.int _ _))
  rotate_left
  · intro i e; apply V.onS_e e; intro j e va vb
    obtain ⟨x, t, rfl, rfl⟩ := va.inv
    obtain ⟨y, u, rfl, rfl⟩ := vb.inv
    apply ife e; intro hb e; apply so2 e
    refine SB.add (fun t' k => ?_) (by rw [sizeLine_eq]; simp [Str.length] at hb ⊢; lia)
    have : (x ++ y : Str).cps.toList = x.cps.toList ++ y.cps.toList := by show (x.cps ++ y.cps).toList = _; simp
    rw [← this]
    exact .same S (.str _ _)
  · intro n e; apply V.onR_e e; intro m e va vb
    apply oL_e e; intro vs hvs e
    · apply oL_e e; intro ws hws e
      · apply ife e; intro hb e; apply so2 e
        apply va.a; intro _ hn
        apply vb.a; intro _ hm
        rename_i a b
        obtain ⟨xs, k, h1, r1⟩ := S.obj _ _ _ hvs hn
        obtain ⟨ys, k', h2, r2⟩ := S.obj _ _ _ hws hm
        refine concat_meets ⟨_, h1, rfl⟩ ⟨_, h2, rfl⟩ noFill_list_add seq_list_add PySem.F.slot_list_add PySem.F.entry_list_add (PySem.F.args_list_add_2 _ _)
          (list_addW a b xs.toArray ys.toArray k k' none none #[] #[] (by rw [sizeLine_eq]; simp [← r1.length, ← r2.length]; lia)) ⟨h1, h2, ?_⟩
        refine EPost.new ok (mo := .list (vs ++ ws)) S rfl fun h' e' g => ⟨xs ++ ys, 0, by rw [e']; simp [W.listOf], (r1.mono g).append (r2.mono g)⟩
noncomputable def vAddI (x y : V) (σ : H) : Option (V × H) := x.onI fun a => y.onI fun b => some (.int (a + b), σ)
theorem addI_ok : VOp2 X d (inplaceOp .Add) vAddI := fun A s β σ a b ra rb v σ' ad S va vb e => by
  unfold vAddI at e
  revert va vb; apply V.onI_e e; intro i e; apply V.onI_e e; intro j e va vb
  (apply va.i; intro _); (apply vb.i; intro _); apply so2 e
  exact P.iadd_int (.same S (.int _ _))
noncomputable def vSub (x y : V) (σ : H) : Option (V × H) := x.onI fun a => y.onI fun b => some (.int (a - b), σ)
theorem sub_int_ok : VOp2 X d (binaryOp .Sub) vSub := fun A s β σ a b ra rb v σ' ad S va vb e => by
  unfold vSub at e
  revert va vb; apply V.onI_e e; intro i e; apply V.onI_e e; intro j e va vb
  (apply va.i; intro _); (apply vb.i; intro _); apply so2 e
  exact P.sub_int (.same S (.int _ _))
noncomputable def vMod (x y : V) (σ : H) : Option (V × H) := x.onI fun a => y.onI fun b => if b ≠ 0 then some (.int (a.fmod b), σ) else none
theorem mod_ok : VOp2 X d (binaryOp .Mod) vMod := fun A s β σ a b ra rb v σ' ad S va vb e => by
  unfold vMod at e
  revert va vb; apply V.onI_e e; intro i e; apply V.onI_e e; intro j e va vb
  (apply va.i; intro _); (apply vb.i; intro _)
  apply ife e; intro hb e; apply so2 e
  exact mod_int' hb (.same S (.int _ _))
noncomputable def vPow (x y : V) (σ : H) : Option (V × H) := x.onI fun a => y.onI fun b => if a = 3 ∧ 0 ≤ b ∧ b ≤ 1000 then some (.int (3 ^ b.toNat), σ) else none
theorem pow_ok : VOp2 X d (binaryOp .Pow) vPow := fun A s β σ a b ra rb v σ' ad S va vb e => by
  unfold vPow at e
  revert va vb; apply V.onI_e e; intro a' e; apply V.onI_e e; intro b' e va vb
  · (apply va.i; intro _); (apply vb.i; intro _)
    apply ife e; intro hb e; apply so2 e
    obtain ⟨rfl, h0, h1⟩ := hb
    by_cases hz : b' = 0
    · subst hz
      exact AutoIntOps.pow_0 (by simp) (by decide) (.same S (.int _ _))
    · refine AutoIntOps.pow_4 h0 (by simpa using hz) (by decide) (by decide) ?_ (.same S (.int _ _))
      have : Builtin.Int.intBits 3 = 2 := by decide
      rw [this]
      simp [Builtin.Int.intTooBig, bitsLine]
      lia
noncomputable def vNeg (x : V) (σ : H) : Option (V × H) := x.onI fun a => some (.int (-a), σ)
theorem neg_ok : VOp1 X d (unaryOp .USub) vNeg := fun A s β σ a ra v σ' ad S va e => by
  unfold vNeg at e
  revert va; apply V.onI_e e; intro a e va
  (apply va.i; intro _); apply so2 e
  exact P.neg_int (.same S (.int _ _))
theorem VRels.rep {h β} {v : V} {r : Value} (x : VRel h β v r) : ∀ n, VRels h β (List.replicate n v) (List.replicate n r)
  | 0 => .nil
  | n + 1 => .cons x (VRels.rep x n)
noncomputable def vMul (x y : V) (σ : H) : Option (V × H) := x.onR fun n => y.onI fun k => oL σ[n]? fun vs => l1 vs fun v => if 0 ≤ k ∧ k ≤ 1000 then some (.ref σ.length, σ ++ [.list (List.replicate k.toNat v)]) else none
theorem mul_ok (ok : X.Ok) : VOp2 X d (binaryOp .Mult) vMul := fun A s β σ a b ra rb v σ' ad S va vb e => by
  unfold vMul at e
  revert va vb; apply V.onR_e e; intro n e; apply V.onI_e e; intro k e va vb
  · apply oL_e e; intro vs hv e
    · apply va.a; intro a hn
      apply vb.i; intro u
      obtain ⟨xs, kk, h1, r1⟩ := S.obj _ _ _ hv hn
      clear hv
      revert r1; apply l1_e e; intro v e r1
      apply ife e; intro hk e; apply so2 e
      revert h1; apply r1.c1; intro rv q0 h1
      have hs1 : [rv].toArray.size = 1 := rfl
      refine wpAny_binaryOp_repeat_ref (T := "list") (U := "int") (by decide) ⟨_, h1, rfl⟩ (fun s' => typeIs_int s' k u) noFill_list_mul F.fills_int_mul F.slot_int_rmul repeat_list F.slot_int_index.lookup
        (call_meets F.slot_int_rmul (typeIs_int s k u) F.entry_int_rmul (F.args_int_rmul_2 _ _) (int___rmul___int_list k u a [rv].toArray kk)
          ⟨h1, rfl, ⟨_, h1, rfl⟩, call_meets F.slot_list_mul ⟨_, h1, rfl⟩ F.entry_list_mul (F.args_list_mul_2 _ _)
            (AutoListH.list___mul___list_int_3 a [rv].toArray kk k u (by simp [Builtin.List.listFitsIndex]; lia) (by simp only [hs1]; lia) (by simp only [Builtin.List.listTooLong, sizeLine, hs1]; simp; lia))
            ⟨h1, ?_⟩⟩)
      refine EPost.new ok (mo := .list (List.replicate k.toNat v)) S rfl fun h' e' g => ⟨List.replicate k.toNat rv, 0, ?_, (VRels.rep q0 _).mono g⟩
      rw [e']
      simp only [show ([rv].toArray.isEmpty) = false from rfl, Bool.false_eq_true, if_false, listMul_foldl]
      simp [W.listOf, lm_rep_flat_one]
noncomputable def strV (l : List Nat) : Str := ⟨l.toArray⟩
noncomputable def toDs (f : V → Option PyData) : List V → Option (List PyData)
  | [] => some []
  | v :: r => match f v with
    | some d => match toDs f r with
      | some ds => some (d :: ds)
      | none => none
    | none => none
noncomputable def toD : Nat → H → V → Option PyData
  | 0, _, _ => none
  | f + 1, σ, v => match v with
    | .none => some .none
    | .bool b => some (.bool b)
    | .int i => some (.int i)
    | .str l => some (.str (strV l))
    | .tup vs => match toDs (toD f σ) vs with
      | some ds => some (.tuple ds)
      | none => none
    | .ref n => match σ[n]? with
      | some (.list vs) => match toDs (toD f σ) vs with
        | some ds => some (.list ds)
        | none => none
      | _ => none
    | _ => none
theorem reads_toDs {β : List Addr} {h : Heap} {f : V → Option PyData} (hf : ∀ v r d, VRel h β v r → f v = some d → ∃ as, Reads h r d as)  {vs rs} (x : VRels h β vs rs) : ∀ {ds}, toDs f vs = some ds → ∃ as, ReadsAll h rs ds as := by
    refine x.ind (P := fun vs rs => ∀ {ds}, toDs f vs = some ds → ∃ as, ReadsAll h rs ds as) (fun {_} e => by apply so1 e; exact ⟨_, .nil⟩) fun {_ _ _ _} a t ih ds e => ?_
    unfold toDs at e
    split at e
    · rename_i d hd
      split at e
      · rename_i ds hds
        apply so1 e
        obtain ⟨as, q⟩ := hf _ _ _ a hd
        obtain ⟨bs, q'⟩ := ih hds
        exact ⟨_, .cons q q'⟩
      · exact nosm e
    · exact nosm e
theorem reads_toD {β σ h} (S : SRel X β σ h) : ∀ (f : Nat) (v : V) (r : Value) (d : PyData), VRel h β v r → toD f σ v = some d → ∃ as, Reads h r d as
  | 0, _, _, _, _, e => by exact nosm e
  | f + 1, v, r, d, vr, e => by
    cases vr with
    | none => apply so1 e; exact ⟨_, .none⟩
    | bool => apply so1 e; exact ⟨_, .bool _⟩
    | int => apply so1 e; exact ⟨_, .int _ _⟩
    | str x t =>
      apply so1 e
      have : strV x.cps.toList = x := rfl
      rw [this]
      exact ⟨_, .str _ _⟩
    | tup ht hv =>
      rename_i vs a ws
      unfold toD at e
      simp only at e
      split at e
      · rename_i ds hds
        apply so1 e
        obtain ⟨o, ho, hc, n, hd⟩ := ht
        obtain ⟨as, q⟩ := reads_toDs (reads_toD S f) hv hds
        exact ⟨_, .tuple ho hc hd (by simpa using q)⟩
      · exact nosm e
    | ref hn =>
      rename_i n a
      unfold toD at e
      simp only at e
      split at e
      · rename_i vs hvs
        split at e
        · rename_i ds hds
          apply so1 e
          obtain ⟨ws, k, hl, hr⟩ := S.obj _ _ _ hvs hn
          obtain ⟨as, q⟩ := reads_toDs (reads_toD S f) hr hds
          exact ⟨_, .list hl rfl rfl (by simpa using q)⟩
        · exact nosm e
      · exact nosm e
    | range _ => exact nosm e
    | vals _ _ => exact nosm e
    | opq _ => exact nosm e
theorem depth_toDs {f : V → Option PyData} {n : Nat} (hf : ∀ v d, f v = some d → d.depth ≤ n) : ∀ {vs ds}, toDs f vs = some ds → PyData.depthAll ds ≤ n
  | [], _, e => by apply so1 e; simp [PyData.depthAll]
  | v :: r, _, e => by
    unfold toDs at e
    split at e
    · rename_i d hd
      split at e
      · rename_i ds hds
        apply so1 e
        have := depth_toDs hf hds
        have := hf _ _ hd
        simp only [PyData.depthAll]
        lia
      · exact nosm e
    · exact nosm e
theorem depth_toD {σ} : ∀ (f : Nat) (v : V) (d : PyData), toD f σ v = some d → d.depth ≤ f
  | 0, _, _, e => by exact nosm e
  | f + 1, v, d, e => by
    unfold toD at e
    induction v using V.casesOn with
    | none => apply so1 e; simp [PyData.depth]
    | bool => apply so1 e; simp [PyData.depth]
    | int => apply so1 e; simp [PyData.depth]
    | str => apply so1 e; simp [PyData.depth]
    | tup vs =>
      simp only at e
      split at e
      · rename_i ds hds
        apply so1 e
        have := depth_toDs (depth_toD f) hds
        simp only [PyData.depth]; lia
      · exact nosm e
    | ref n =>
      simp only at e
      split at e
      · split at e
        · rename_i ds hds
          apply so1 e
          have := depth_toDs (depth_toD f) hds
          simp only [PyData.depth]; lia
        · exact nosm e
      · exact nosm e
    | range => exact nosm e
    | vals => exact nosm e
    | opq => exact nosm e
noncomputable def eqB (σ : H) (a b : V) : Option Bool := match toD 16 σ a with
  | some da => match toD 16 σ b with
    | some db => if da.canLay0 = true ∧ db.canLay0 = true then some (PyData.eqv da db) else none
    | none => none
  | none => none
theorem eqB_inv {β σ h a b ra rb r} (S : SRel X β σ h) (va : VRel h β a ra) (vb : VRel h β b rb) (e : eqB σ a b = some r) : ∃ da db as bs, toD 16 σ a = some da ∧ toD 16 σ b = some db ∧ Reads h ra da as ∧ Reads h rb db bs ∧ da.canLay0 = true ∧ db.canLay0 = true ∧ da.depth ≤ 16 ∧ r = PyData.eqv da db := by
  unfold eqB at e
  split at e
  · rename_i da hda
    split at e
    · rename_i db hdb
      split at e
      · rename_i hc
        apply so1 e
        obtain ⟨as, q⟩ := reads_toD S _ _ _ _ va hda
        obtain ⟨bs, q'⟩ := reads_toD S _ _ _ _ vb hdb
        exact ⟨da, db, as, bs, hda, hdb, q, q', hc.1, hc.2, depth_toD _ _ _ hda, rfl⟩
      · exact nosm e
    · exact nosm e
  · exact nosm e
theorem Adm.room64 {A} (h : Adm d A) : A.units + 64 < cLine := by have := h.units; unfold cLine; lia
noncomputable def vEq (a b : V) (σ : H) : Option (V × H) := match eqB σ a b with
  | some r => some (.bool r, σ)
  | none => none
noncomputable def vNe (a b : V) (σ : H) : Option (V × H) := match eqB σ a b with
  | some r => some (.bool !r, σ)
  | none => none
theorem eq_ok : VOp2 X d (compareOp .Eq) vEq := fun A s β σ a b ra rb v σ' ad S va vb e => by
  unfold vEq at e
  split at e <;> (first | exact nosm e | apply so2 e)
  rename_i r hr
  obtain ⟨da, db, as, bs, _, _, q1, q2, h1, h2, h3, rfl⟩ := eqB_inv S va vb hr
  have := ad.room64
  exact SeqAt.compareEq_reads q1 q2 h1 h2 (by have := Nat.min_le_left da.depth db.depth; lia) ⟨β, S, Grow.refl, .bool _, Rest.refl⟩
theorem ne_ok : VOp2 X d (compareOp .NotEq) vNe := fun A s β σ a b ra rb v σ' ad S va vb e => by
  unfold vNe at e
  split at e <;> (first | exact nosm e | apply so2 e)
  rename_i r hr
  obtain ⟨da, db, as, bs, _, _, q1, q2, h1, h2, h3, rfl⟩ := eqB_inv S va vb hr
  have := ad.room64
  exact SeqAt.compareNe_reads q1 q2 h1 h2 (by have := Nat.min_le_left da.depth db.depth; lia) ⟨β, S, Grow.refl, .bool _, Rest.refl⟩
noncomputable def vLt (x y : V) (σ : H) : Option (V × H) := x.onI fun a => y.onI fun b => some (.bool (decide (a < b)), σ)
noncomputable def vLe (x y : V) (σ : H) : Option (V × H) := x.onI fun a => y.onI fun b => some (.bool (decide (a ≤ b)), σ)
noncomputable def vGt (x y : V) (σ : H) : Option (V × H) := x.onI fun a => y.onI fun b => some (.bool (decide (a > b)), σ)
noncomputable def vGe (x y : V) (σ : H) : Option (V × H) := x.onI fun a => y.onI fun b => some (.bool (decide (a ≥ b)), σ)
theorem lt_ok : VOp2 X d (compareOp .Lt) vLt := fun A s β σ a b ra rb v σ' ad S va vb e => by
  unfold vLt at e
  revert va vb; apply V.onI_e e; intro i e; apply V.onI_e e; intro j e va vb
  (apply va.i; intro _); (apply vb.i; intro _); apply so2 e
  exact P.lt_int ⟨β, S, Grow.refl, .bool _, Rest.refl⟩
theorem le_ok : VOp2 X d (compareOp .LtE) vLe := fun A s β σ a b ra rb v σ' ad S va vb e => by
  unfold vLe at e
  revert va vb; apply V.onI_e e; intro i e; apply V.onI_e e; intro j e va vb
  (apply va.i; intro _); (apply vb.i; intro _); apply so2 e
  exact P.le_int ⟨β, S, Grow.refl, .bool _, Rest.refl⟩
theorem gt_ok : VOp2 X d (compareOp .Gt) vGt := fun A s β σ a b ra rb v σ' ad S va vb e => by
  unfold vGt at e
  revert va vb; apply V.onI_e e; intro i e; apply V.onI_e e; intro j e va vb
  (apply va.i; intro _); (apply vb.i; intro _); apply so2 e
  exact P.gt_int ⟨β, S, Grow.refl, .bool _, Rest.refl⟩
theorem ge_ok : VOp2 X d (compareOp .GtE) vGe := fun A s β σ a b ra rb v σ' ad S va vb e => by
  unfold vGe at e
  revert va vb; apply V.onI_e e; intro i e; apply V.onI_e e; intro j e va vb
  (apply va.i; intro _); (apply vb.i; intro _); apply so2 e
  exact P.ge_int ⟨β, S, Grow.refl, .bool _, Rest.refl⟩
noncomputable def isNone : V → Bool
  | .none => true
  | _ => false
noncomputable def vIs : V → V → H → Option (V × H)
  | a, .none, σ => some (.bool (isNone a), σ)
  | _, _, _ => none
noncomputable def vIsNot : V → V → H → Option (V × H)
  | a, .none, σ => some (.bool !(isNone a), σ)
  | _, _, _ => none
theorem isNone_rel {h β a ra} (va : VRel h β a ra) : (ra == Value.none) = isNone a := by cases va <;> rfl
theorem is_ok : VOp2 X d (compareOp .Is) vIs := fun A s β σ a b ra rb v σ' ad S va vb e => by
  unfold vIs at e
  split at e
  · apply vb.n; apply so2 e
    exact is_none (by rw [isNone_rel va]; exact ⟨β, S, Grow.refl, .bool _, Rest.refl⟩)
  · exact nosm e
theorem isNot_ok : VOp2 X d (compareOp .IsNot) vIsNot := fun A s β σ a b ra rb v σ' ad S va vb e => by
  unfold vIsNot at e
  split at e
  · apply vb.n; apply so2 e
    exact isNot_none (by rw [isNone_rel va]; exact ⟨β, S, Grow.refl, .bool _, Rest.refl⟩)
  · exact nosm e
end
end
section
section
variable {X : Ctx} {d : Nat} {nm : List Str} {sc : Scope}
structure StoredL (X : Ctx) (nm : List Str) (env : Env) (s : Shared) (β : List Addr) (ρ' : R) (σ : H) (u : Unit) (s' : Shared) : Prop where
  a : SRel X β σ s'.heap
  b : FRel X nm env ρ' β s'.heap
  c : Grow [env.locals] β s.heap β s'.heap
  d : Rest s s'
theorem store_localL {x : Str} {i : Nat} {A : Around} {env : Env} {s : Shared} {β : List Addr} {ρ : R} {σ : H} {v : V} {rv : Value} (hi : idx nm x = some i) (hk : env.kindOf x = some .local) (hf : env.scope.kind = .function)
    (S : SRel X β σ s.heap) (F : FRel X nm env ρ β s.heap) (vr : VRel s.heap β v rv) : wpAny (MM X) A (storeName env x rv) (StoredL X nm env s β (ρ.set i (some v)) σ) NoE s := by
  obtain ⟨m, hm, hl⟩ := F.loc
  refine wpAny_storeName_local hk hm (fun h' hn' hs' => ?_) (by rw [hf]; rfl)
  have hlive : ∃ o, h'.get? env.locals = some o := let ⟨o, _, _, ho, _⟩ := hn'; ⟨o, ho⟩
  have nI : ∀ o, s.heap.get? env.locals = some o → ¬ Imm o := fun o e => by obtain ⟨o', e', q⟩ := F.live _ (.head _); rw [e] at e'; cases e'; exact q
  have g : Grow [env.locals] β s.heap β h' := Grow.change hs' (.inr (.head _)) nI hlive
  refine ⟨S.other hs' (F.apart _ (.head _)) (F.base _ (.head _)) nI hlive, ?_, g, rfl, rfl⟩
  refine ⟨F.apart, F.base, ⟨_, hn', fun j y w e1 e2 e3 => ?_⟩, fun p hp => ?_, F.has, fun j y w e1 e2 e3 => ?_, F.inj, F.neq⟩
  · rcases set_get e3 with ⟨rfl, rfl⟩ | ⟨hj, e3⟩
    · have : y = x := idx_inj e1 hi
      exact ⟨rv, by rw [if_pos this], vr.mono g⟩
    · obtain ⟨r, h1, h2⟩ := hl j y w e1 e2 e3
      have : y ≠ x := fun q => hj (by subst q; rw [hi] at e1; apply so1 e1; rfl)
      exact ⟨r, by rw [if_neg this]; exact h1, h2.mono g⟩
  · obtain ⟨u, b⟩ := F.cells p hp
    exact ⟨u, b.sameBut hs' (F.neq p hp)⟩
  · rcases set_get e3 with ⟨rfl, rfl⟩ | ⟨hj, e3⟩
    · have : y = x := idx_inj e1 hi
      subst this
      rw [hk] at e2
      rcases e2 with e2 | e2 <;> cases e2
    · obtain ⟨c, r, h1, h2, h3⟩ := F.cellv j y w e1 e2 e3
      exact ⟨c, r, h1, h2.sameBut hs' (F.neq (y, c) (mem_of_lookup h1)), h3.mono g⟩
noncomputable def LTgs (nm : List Str) (sc : Scope) : List Expr → List Nat → Prop
  | [], [] => True
  | .Name x _ :: es, i :: is => (idx nm x = some i ∧ sc.names.lookup x = some .local) ∧ LTgs nm sc es is
  | _, _ => False
noncomputable def LTg (nm : List Str) (sc : Scope) : Expr → Tg → Prop
  | .Name x _, .one i => idx nm x = some i ∧ sc.names.lookup x = some .local
  | .Tuple es _ _, .many is => LTgs nm sc es is
  | _, _ => False
theorem LTgs.ok : ∀ {es : List Expr} {is : List Nat}, LTgs nm sc es is → TgsOk nm sc es is
  | [], [], _ => trivial
  | [], _ :: _, h => h.elim
  | e :: es, [], h => by cases e <;> exact h.elim
  | e :: es, i :: is, h => by
    cases e with
    | Name x p => exact ⟨⟨h.1.1, .inl h.1.2⟩, LTgs.ok (es := es) (is := is) (by have h' : _ ∧ LTgs nm sc es is := h; exact h'.2)⟩
    | _ => exact h.elim
theorem assignAllL_ok {A : Around} {env : Env} (en : EnvOk X sc env) : ∀ {es : List Expr} {is : List Nat} {vs : List V} {ws : List Value} {s : Shared} {β : List Addr} {ρ ρ' : R} {σ : H}, LTgs nm sc es is → setAll is vs ρ = some ρ' →
    SRel X β σ s.heap → FRel X nm env ρ β s.heap → VRels s.heap β vs ws → wpAny (MM X) A (assignInOrder ((assignEach es env).map (·.2)) ws) (StoredL X nm env s β ρ' σ) NoE s
  | [], [], vs, ws, s, β, ρ, ρ', σ, _, e, S, F, v => by
    induction vs using List.casesOn with
    | nil => apply so1 e; apply v.z; exact wpAny_pure ⟨S, F, Grow.refl, Rest.refl⟩
    | cons => exact nosm e
  | e₀ :: es, is, vs, ws, s, β, ρ, ρ', σ, hT, e, S, F, v => by
    cases e₀ with
    | Name x p =>
      induction is using List.casesOn with
      | nil => exact hT.elim
      | cons i is =>
        induction vs using List.casesOn with
        | nil => exact nosm e
        | cons v' vs =>
          cases v with
          | cons v1 v2 =>
            rename_i r rs
            have hT' : (idx nm x = some i ∧ sc.names.lookup x = some .local) ∧ LTgs nm sc es is := hT
            have e' : setAll is vs (ρ.set i (some v')) = some ρ' := e
            show wpAny _ A (do holding rs (assign (.Name x p) env r); assignInOrder ((assignEach es env).map (·.2)) rs) _ _ s
            refine wpAny_bind (wpAny_holding (assign_Name (wpAny_mono (store_localL hT'.1.1 (by rw [en.kindOf]; exact hT'.1.2) en.fn S F v1) (fun _ s₁ q => ?_) fun _ _ x => x)))
            obtain ⟨S₁, F₁, g₁, r₁⟩ := q
            refine wpAny_mono (assignAllL_ok en hT'.2 e' S₁ F₁ (v2.mono g₁)) (fun _ s₂ q => ?_) fun _ _ x => x
            exact ⟨q.1, q.2, g₁.trans q.3, r₁.trans q.4⟩
    | _ => exact hT.elim
  | [], _ :: _, _, _, _, _, _, _, _, hT, _, _, _, _ => hT.elim
theorem targetL_ok {A : Around} {env : Env} {t : Expr} {g : Tg} {v : V} {rv : Value} {s : Shared} {β : List Addr} {ρ ρ' : R} {σ : H} (ad : Adm d A) (en : EnvOk X sc env) (hT : LTg nm sc t g) (e : g.bind v ρ = some ρ')
    (S : SRel X β σ s.heap) (F : FRel X nm env ρ β s.heap) (vr : VRel s.heap β v rv) : wpAny (MM X) A (assign t env rv) (StoredL X nm env s β ρ' σ) NoE s := by
  cases t with
  | Name x p =>
    cases g with
    | one i =>
      apply so1 e
      have hT' : idx nm x = some i ∧ sc.names.lookup x = some .local := hT
      exact assign_Name (store_localL hT'.1 (by rw [en.kindOf]; exact hT'.2) en.fn S F vr)
    | many => exact hT.elim
  | Tuple es k p =>
    cases g with
    | one => exact hT.elim
    | many is =>
      induction v using V.casesOn with
      | tup vs =>
        obtain ⟨a, ws, rfl, ht, hv⟩ := vr.list_inv
        have hT' : LTgs nm sc es is := hT
        have e' : setAll is vs ρ = some ρ' := e
        have hl := setAll_len e'
        refine wpAny_assign_Tuple ad.handled ht (by rw [assignEach_len, tgs_len hT'.ok, hl, hv.length]; simp) (assignEach_plain env hT'.ok) fun h' hs' => ?_
        have hk := ExtBut_size hs'
        refine wpAny_mono (assignAllL_ok (s := { s with heap := h' }) en hT' e' (S.ext hk) (F.mono (Grow.ext hk)) (hv.mono (Grow.ext (S := []) hk))) (fun _ s₂ q => ?_) fun _ _ x => x
        exact ⟨q.1, q.2, (Grow.ext hk).trans q.3, ⟨q.4.gens, q.4.os⟩⟩
      | _ => simp [Tg.bind] at e
  | _ => exact hT.elim
noncomputable def closGo (cells : List (Str × Addr)) : List (Str × NameKind) → List (Str × Addr) → List (Str × Addr)
  | [], cs => cs
  | (n, k) :: r, cs => if k == .free then closGo cells r ((n, (cells.lookup n).getD 0) :: cs) else closGo cells r cs
theorem closFor_go {env : Env} : ∀ (ns : List (Str × NameKind)) (cs : List (Str × Addr)), (∀ x ∈ ns, x.2 = .free → (env.cells.lookup x.1).isSome = true) →
    (forIn ns cs fun (x : Str × NameKind) (cs : List (Str × Addr)) => if x.2 == .free then (do let a ← cellOf env x.1; pure (ForInStep.yield ((x.1, a) :: cs))) else pure (ForInStep.yield cs) : Sem _) = pure (closGo env.cells ns cs)
  | [], cs, _ => rfl
  | (n, k) :: r, cs, h => by
    have hr := fun cs => closFor_go r cs fun x hx => h x (.tail _ hx)
    rw [List.forIn_cons]
    unfold closGo
    by_cases hk : k = .free
    · subst hk
      have := h (n, .free) (.head _) rfl
      obtain ⟨a, ha⟩ := Option.isSome_iff_exists.mp this
      simp only [beq_self_eq_true, if_true, cellOf, ha, Option.getD_some]
      exact hr _
    · have hb : (k == NameKind.free) = false := by simpa using hk
      simp only [hb, Bool.false_eq_true, if_false]
      exact hr _
theorem closureFor_ok {scope : Scope} {env : Env} (h : ∀ x ∈ scope.names, x.2 = .free → (env.cells.lookup x.1).isSome = true) : closureFor scope env = pure (closGo env.cells scope.names []) := by
  have := congrArg (fun m : Sem (List (Str × Addr)) => m >>= fun s => pure s) (closFor_go (env := env) scope.names [] h)
  exact this
theorem closGo_mem {cells : List (Str × Addr)} : ∀ {ns : List (Str × NameKind)} {cs : List (Str × Addr)} {p : Str × Addr}, (∀ x ∈ ns, x.2 = .free → (cells.lookup x.1).isSome = true) → p ∈ closGo cells ns cs → p ∈ cs ∨ cells.lookup p.1 = some p.2
  | [], cs, p, _, h => .inl h
  | (n, k) :: r, cs, p, hs, h => by
    have hr : ∀ x ∈ r, x.2 = .free → (cells.lookup x.1).isSome = true := fun x hx => hs x (.tail _ hx)
    unfold closGo at h
    split at h
    · rename_i hk
      rcases closGo_mem hr h with h | h
      · cases h with
        | head =>
          obtain ⟨a, ha⟩ := Option.isSome_iff_exists.mp (hs (n, k) (.head _) (by simpa using hk))
          right; rw [ha]; rfl
        | tail _ h => exact .inl h
      · exact .inr h
    · exact closGo_mem hr h
theorem lookup_of_all {cells : List (Str × Addr)} {x : Str} : ∀ {cs : List (Str × Addr)}, (∀ p ∈ cs, cells.lookup p.1 = some p.2) → x ∈ cs.map (·.1) → cs.lookup x = cells.lookup x
  | [], _, h => by simp at h
  | (y, a) :: r, hs, h => by
    rw [List.lookup_cons]
    by_cases q : x = y
    · subst q
      simp [hs (x, a) (.head _)]
    · have : (x == y) = false := by simpa using q
      simp only [this]
      refine lookup_of_all (fun p hp => hs p (.tail _ hp)) ?_
      simp only [List.map_cons, List.mem_cons] at h
      exact h.resolve_left q
theorem closGo_has {cells : List (Str × Addr)} {x : Str} : ∀ {ns : List (Str × NameKind)} {cs : List (Str × Addr)}, (x, NameKind.free) ∈ ns ∨ x ∈ cs.map (·.1) → x ∈ (closGo cells ns cs).map (·.1)
  | [], cs, h => by rcases h with h | h; cases h; exact h
  | (n, k) :: r, cs, h => by
    unfold closGo
    split
    · refine closGo_has ?_
      rcases h with h | h
      · cases h with
        | head => right; simp
        | tail _ h => exact .inl h
      · right; simp only [List.map_cons, List.mem_cons]; exact .inr h
    · rename_i hk
      refine closGo_has ?_
      rcases h with h | h
      · cases h with
        | head => exact absurd rfl hk
        | tail _ h => exact .inl h
      · exact .inr h
theorem lookup_some_mem {x : Str} {a : Addr} : ∀ {cs : List (Str × Addr)}, cs.lookup x = some a → x ∈ cs.map (·.1)
  | [], h => by simp at h
  | (y, b) :: r, h => by
    rw [List.lookup_cons] at h
    by_cases q : x = y
    · simp [q]
    · have : (x == y) = false := by simpa using q
      simp only [this] at h
      simp only [List.map_cons, List.mem_cons]
      exact .inr (lookup_some_mem h)
noncomputable def relS (scope sc : Scope) : Scope :=
  { scope with names := scope.names.map fun (n, k) => if (k == .free && sc.kind == .function && sc.names.lookup n == some .cell) then (n, .cell) else (n, k) }
theorem relabel_eq {env : Env} (en : EnvOk X sc env) (scope : Scope) : relabel scope env = relS scope sc := by
  rw [← en.scope]; rfl
noncomputable def compGo (v : V) (kd : Kd) (n : Nat) (t : Tg) (ts : List Tx) (elt : Ex) : Nat → List V → R → H → Option (List V × H)
  | 0, acc, _, σ => match itemsOf v σ with
    | some (k, items) => if k = kd ∧ items.length = n then some (acc, σ) else none
    | none => none
  | r + 1, acc, ρ, σ => match itemsOf v σ with
    | some (k, items) => if k = kd ∧ items.length = n then match items[n - (r + 1)]? with
        | some y => match t.bind y ρ with
          | some ρ₁ => match tAnd ts ρ₁ σ with
            | some (true, σ₁) => match elt ρ₁ σ₁ with
              | some (u, σ₂) => compGo v kd n t ts elt r (acc ++ [u]) ρ₁ σ₂
              | none => none
            | some (false, σ₁) => compGo v kd n t ts elt r acc ρ₁ σ₁
            | none => none
          | none => none
        | none => none
      else none
    | none => none
@[irreducible] noncomputable def eComp (k : Nat) (caps : List Nat) (t : Tg) (src : Ex) (ts : List Tx) (elt : Ex) : Ex := fun ρ σ => match src ρ σ with
  | some (v, σ₁) => match itemsOf v σ₁ with
    | some (kd, items) => if items.length ≤ 100000 then match compGo v kd items.length t ts elt items.length [] (List.replicate k none ++ caps.map fun i => (ρ[i]?).join) σ₁ with
        | some (acc, σ₂) => some (.ref σ₂.length, σ₂ ++ [.list acc])
        | none => none
      else none
    | none => none
  | none => none
theorem tests_false {A : Around} {env : Env} {s : Shared} {Q : Bool → Shared → Prop} {E : Value → Shared → Prop} (h : Q false s) : ∀ (cs : List Expr),
    wpAny (MM X) A (forIn cs false fun c r => if r = true then do let ok ← isTrue c env (eval c env); pure (ForInStep.yield ok) else pure (ForInStep.yield r)) Q E s
  | [] => wpAny_pure h
  | c :: cs => by
    rw [List.forIn_cons]
    simp only [Bool.false_eq_true, if_false]
    exact wpAny_bind (wpAny_pure (tests_false h cs))
theorem tests_ok {es : List Expr} {ms : List Tx} (h : SimTs X d nm sc es ms) : ∀ (A : Around) (env : Env) (s : Shared) (β : List Addr) (ρ : R) (σ : H) (v : Bool) (σ' : H), Adm d A → EnvOk X sc env → SRel X β σ s.heap → FRel X nm env ρ β s.heap →
    tAnd ms ρ σ = some (v, σ') → wpAny (MM X) A (forIn es true fun c r => if r = true then do let ok ← isTrue c env (eval c env); pure (ForInStep.yield ok) else pure (ForInStep.yield r)) (BPost X s β v σ') NoE s := by
  induction h with
  | nil => intro A env s β ρ σ v σ' ad en S F e; apply so2 e; exact wpAny_pure ⟨rfl, β, S, Grow.refl, Rest.refl⟩
  | cons h1 _ ih =>
    intro A env s β ρ σ v σ' ad en S F e
    rw [tAnd] at e
    rw [List.forIn_cons]
    simp only [if_true]
    split at e
    · rename_i σ₁ et
      refine wpAny_bind (wpAny_bind (wpAny_mono (h1.run A env s β ρ σ _ _ ad en S F et) (fun rb s₁ p => ?_) fun _ _ x => x))
      obtain ⟨rfl, β₁, S₁, g, r⟩ := p
      exact wpAny_pure (wpAny_mono (ih A env s₁ β₁ ρ σ₁ v σ' ad en S₁ (F.mono g) e) (fun _ _ p => p.after g r) fun _ _ x => x)
    · rename_i σ₁ et
      apply so2 e
      refine wpAny_bind (wpAny_bind (wpAny_mono (h1.run A env s β ρ σ _ _ ad en S F et) (fun rb s₁ p => ?_) fun _ _ x => x))
      obtain ⟨rfl, β₁, S₁, g, r⟩ := p
      exact wpAny_pure (tests_false ⟨rfl, β₁, S₁, g, r⟩ _)
    · exact nosm e
theorem compLoop_any {A : Around} {R : Result → Shared → Prop} {s : Shared} {elt target iter : Expr} {ifs : List Expr} {scope : Scope} {pos : Pos} {it acc : Value} {env : Env} (I : Nat → Shared → Prop)
    (turn : ∀ n s, I n s → wpAny (MM X) A (pyNext it) (fun r s₁ => match r with
      | none => R (.ok .next) s₁
      | some v => wpAny (MM X) A (letOwnedTupleGo target it v) (fun _ s₁' => wpAny (MM X) A (assign target env v) (fun _ s₂ =>
          wpAny (MM X) A (forIn ifs true fun c r => if r = true then do let ok ← isTrue c env (eval c env); pure (ForInStep.yield ok) else pure (ForInStep.yield r)) (fun ok s₃ =>
            if ok = true then wpAny (MM X) A (eval elt env) (fun x s₄ =>
              wpAny (MM X) A (call (.builtin "list.append") [acc, x]) (fun _ s₅ => ∃ m, m < n ∧ I m s₅) NoE s₄) NoE s₃
            else ∃ m, m < n ∧ I m s₃) NoE s₂) NoE s₁') NoE s₁) NoE s)
    (n : Nat) (h : I n s) :
    codeAny (MM X) A (.compLoop (.ListComp elt [⟨target, iter, ifs, 0⟩] scope pos) 0 it acc env) R s := by
  refine codeAny_loop rfl I (fun n s hI => ?_) n h
  show wpAny _ A ((compTurn (.ListComp elt [⟨target, iter, ifs, 0⟩] scope pos) 0 it acc env).onRaise (fun x => do noteFrame x env; theTreesLotGoes x)) _ _ s
  refine wpAny_noted ?_
  rw [compTurn_list]
  refine wpAny_bind (wpAny_standAt (wpAny_bind (wpAny_mono (turn n s hI) (fun r s₁ h₁ => ?_) fun _ _ h' => h'.elim)))
  induction r using Option.casesOn with
  | none => exact wpAny_pure h₁
  | some v =>
    refine wpAny_bind (wpAny_mono h₁ (fun _ s₁' h₁' => ?_) fun _ _ h' => h'.elim)
    refine wpAny_bind (wpAny_mono h₁' (fun _ s₂ h₂ => wpAny_bind (wpAny_mono h₂ (fun ok s₃ h₃ => ?_) fun _ _ h' => h'.elim)) fun _ _ h' => h'.elim)
    induction ok using Bool.casesOn with
    | false => exact wpAny_pure ⟨rfl, h₃⟩
    | true =>
      exact wpAny_bind (wpAny_bind (wpAny_mono h₃ (fun x s₄ h₄ => wpAny_bind (wpAny_mono h₄ (fun _ s₅ h₅ => wpAny_pure (wpAny_pure ⟨rfl, h₅⟩)) fun _ _ h' => h'.elim)) fun _ _ h' => h'.elim))
theorem ItAt.self {A : Around} {s : Shared} {β i it v kd n} (x : ItAt X β s.heap i it v kd n) {Q : Value → Shared → Prop} {E : Value → Shared → Prop} (h : Q (.ref it) s) : wpAny (MM X) A (pyIter (.ref it)) Q E s := by
  cases x with
  | list _ e => exact wpAny_pyIter_listiter e h
  | dict _ e => exact wpAny_pyIter_keyiter e h
  | vals _ e => exact wpAny_pyIter_valiter e h
  | tup e _ _ _ => exact wpAny_pyIter_tupleiter e h
  | range e => exact wpAny_pyIter_rangeiter e h
end
end
section
section
variable {X : Ctx} {d : Nat} {nm : List Str} {sc : Scope}
structure CTurn (X : Ctx) (nm : List Str) (env : Env) (s₀ : Shared) (β₀ : List Addr) (it D : Addr) (i : Nat) (v : V) (kd : Kd) (n : Nat) (β : List Addr) (acc : List V) (ρ : R) (σ : H) (s : Shared) : Prop where
  S : SRel X β σ s.heap
  F : FRel X nm env ρ β s.heap
  G : Grow [] β₀ s₀.heap β s.heap
  rs : Rest s₀ s
  ia : ItAt X β s.heap i it v kd n
  ib : it ∉ β
  ifr : s₀.heap.get? it = none
  dl : ∃ ws k, s.heap.get? D = some (listOf ws k) ∧ VRels s.heap β acc ws.toList
  db : D ∉ β
  dfr : s₀.heap.get? D = none
  cfr : s₀.heap.get? env.locals = none
  ne : D ≠ it
theorem CTurn.itC {env s₀ β₀ it D i v kd n β acc ρ σ s} (T : CTurn X nm env s₀ β₀ it D i v kd n β acc ρ σ s) : it ∉ fa env := fun m => by
  obtain ⟨o, fs, e, hd, hc⟩ := T.ia.obj
  cases m with
  | head =>
    obtain ⟨m, ⟨o', _, _, e', hd', _⟩, _⟩ := T.F.loc
    rw [e] at e'; cases e'
    rw [hd] at hd'; cases hd'
  | tail _ m =>
    obtain ⟨p, hp, q⟩ := List.mem_map.mp m
    obtain ⟨u, o', e', hd'⟩ := T.F.cells p hp
    rw [q, e] at e'; cases e'
    rw [hd] at hd'; cases hd'
theorem CTurn.DC {env s₀ β₀ it D i v kd n β acc ρ σ s} (T : CTurn X nm env s₀ β₀ it D i v kd n β acc ρ σ s) : D ∉ fa env := fun m => by
  obtain ⟨ws, k, e, _⟩ := T.dl
  cases m with
  | head =>
    obtain ⟨m, ⟨o', _, _, e', hd', _⟩, _⟩ := T.F.loc
    rw [e] at e'; cases e'
    cases hd'
  | tail _ m =>
    obtain ⟨p, hp, q⟩ := List.mem_map.mp m
    obtain ⟨u, o', e', hd'⟩ := T.F.cells p hp
    rw [q, e] at e'; cases e'
    cases hd'
theorem CTurn.itB {env s₀ β₀ it D i v kd n β acc ρ σ s σ'} (T : CTurn X nm env s₀ β₀ it D i v kd n β acc ρ σ s) (S₀ : SRel X β₀ σ' s₀.heap) : X.h₀.get? it = none := by
  cases e : X.h₀.get? it with
  | none => rfl
  | some o => have := S₀.base it o e; rw [T.ifr] at this; exact nosm this
theorem CTurn.DB {env s₀ β₀ it D i v kd n β acc ρ σ s σ'} (T : CTurn X nm env s₀ β₀ it D i v kd n β acc ρ σ s) (S₀ : SRel X β₀ σ' s₀.heap) : X.h₀.get? D = none := by
  cases e : X.h₀.get? D with
  | none => rfl
  | some o => have := S₀.base D o e; rw [T.dfr] at this; exact nosm this
theorem compGo_z {v kd n t ts elt acc ρ σ a σ'} {P : Prop} (e : compGo v kd n t ts elt 0 acc ρ σ = some (a, σ')) (k : ∀ items, itemsOf v σ = some (kd, items) → items.length = n → acc = a → σ = σ' → P) : P := by
  unfold compGo at e
  split at e
  · split at e
    · rename_i ei hk
      obtain ⟨rfl, hl⟩ := hk
      cases e; exact k _ ei hl rfl rfl
    · exact nosm e
  · exact nosm e
theorem compGo_s {v kd n t ts elt r acc ρ σ x} {P : Prop} (e : compGo v kd n t ts elt (r + 1) acc ρ σ = some x) (k : ∀ items y ρ₁, itemsOf v σ = some (kd, items) → items.length = n → items[n - (r + 1)]? = some y → t.bind y ρ = some ρ₁ →
    (∀ {P : Prop}, (∀ σ₁ u σ₂, tAnd ts ρ₁ σ = some (true, σ₁) → elt ρ₁ σ₁ = some (u, σ₂) → compGo v kd n t ts elt r (acc ++ [u]) ρ₁ σ₂ = some x → P) → (∀ σ₁, tAnd ts ρ₁ σ = some (false, σ₁) → compGo v kd n t ts elt r acc ρ₁ σ₁ = some x → P) → P) → P) : P := by
  unfold compGo at e
  split at e
  · split at e
    · rename_i ei hk
      obtain ⟨rfl, hl⟩ := hk
      split at e
      · split at e
        · refine k _ _ _ ei hl ‹_› ‹_› fun {P} k1 k2 => ?_
          split at e
          · split at e
            · exact k1 _ _ _ ‹_› ‹_› e
            · exact nosm e
          · exact k2 _ ‹_› e
          · exact nosm e
        · exact nosm e
      · exact nosm e
    · exact nosm e
  · exact nosm e
theorem comp_loop {A : Around} {env : Env} {t iter elt : Expr} {ifs : List Expr} {pos : Pos} {scope : Scope} {g : Tg} {mts : List Tx} {me : Ex} {RP : Result → Shared → Prop} {s₀ : Shared} {β₀ : List Addr} {σ₀ : H} {it D : Addr} {v : V} {kd : Kd} {n : Nat}
    {β : List Addr} {ρ : R} {σ : H} {s : Shared} {acc' : List V} {σ' : H} (ad : Adm d A) (en : EnvOk X sc env) (S₀ : SRel X β₀ σ₀ s₀.heap) (hT : LTg nm sc t g) (hts : SimTs X d nm sc ifs mts) (hel : SimE X d nm sc elt me) (hn : n ≤ 100000)
    (T₀ : CTurn X nm env s₀ β₀ it D 0 v kd n β [] ρ σ s) (e₀ : compGo v kd n g mts me n [] ρ σ = some (acc', σ'))
    (hR : ∀ s' β', SRel X β' σ' s'.heap → Grow [] β₀ s₀.heap β' s'.heap → Rest s₀ s' → D ∉ β' → (∃ ws k, s'.heap.get? D = some (listOf ws k) ∧ VRels s'.heap β' acc' ws.toList) → (∃ m, s'.heap.Ns env.locals m) → env.locals ∉ β' → D ≠ env.locals → RP (.ok .next) s') :
    codeAny (MM X) A (.compLoop (.ListComp elt [⟨t, iter, ifs, 0⟩] scope pos) 0 (.ref it) (.ref D) env) RP s := by
  obtain ⟨I, i1, i2⟩ : ∃ I : Nat → Shared → Prop, (∀ {r s'}, (r ≤ n ∧ ∃ β' acc ρ₁ σ₂, acc.length + r ≤ n ∧ CTurn X nm env s₀ β₀ it D (n - r) v kd n β' acc ρ₁ σ₂ s' ∧ compGo v kd n g mts me r acc ρ₁ σ₂ = some (acc', σ')) → I r s') ∧ ∀ {r s'}, I r s' → r ≤ n ∧ ∃ β' acc ρ₁ σ₂, acc.length + r ≤ n ∧ CTurn X nm env s₀ β₀ it D (n - r) v kd n β' acc ρ₁ σ₂ s' ∧ compGo v kd n g mts me r acc ρ₁ σ₂ = some (acc', σ') := ⟨_, id, id⟩
  refine compLoop_any I (fun r s' hI => ?_) n (i1 ⟨Nat.le_refl _, β, [], ρ, σ, by simp, by rw [Nat.sub_self]; exact T₀, e₀⟩)
  have hI := i2 hI
  obtain ⟨hr, β', acc, ρ₁, σ₂, hacc, T, e⟩ := hI
  have nI := T.ia.notImm
  have hitf : ∀ a ∈ [it], a ∉ fa env := fun a m => by rw [List.mem_singleton] at m; subst m; exact T.itC
  have DL : D ≠ env.locals := fun q => T.DC (q ▸ .head _)
  induction r using Nat.casesOn with
  | zero =>
    apply compGo_z e; intro items ei hl q1 q2
    have T' := T.ia
    rw [Nat.sub_zero, ← hl] at T'
    refine wpAny_mono (next_end T' ei T.S ad.handled) (fun r s₃ p => ?_) fun _ _ x => x.elim
    obtain ⟨rfl, hx, rs⟩ := p
    have F₃ := T.F.monoK (Keep.but (β := β') hx nI) hitf
    obtain ⟨ws, k', e1, e2⟩ := T.dl
    obtain ⟨m, hm, _⟩ := F₃.loc
    exact hR s₃ β' (q2 ▸ T.S.but hx T.ib (T.itB S₀) nI) (T.G.but hx T.ifr) (T.rs.trans rs) T.db ⟨ws, k', hx D _ T.ne e1, q1 ▸ VRels.monoK (Keep.but (β := β') hx nI) e2⟩ ⟨m, hm⟩ (T.F.apart _ (.head _)) DL
  | succ r =>
    apply compGo_s e; intro items y ρ₂ ei hl hy eb hh
    have T' := T.ia
    rw [← hl] at T' hy
    refine wpAny_mono (next_item T' ei hy T.S T.ib) (fun r' s₃ p => ?_) fun _ _ x => x.elim
    obtain ⟨rv, rfl, vr', hit', hs', rs⟩ := p
    have S₃ := T.S.but hs'.extBut T.ib (T.itB S₀) nI
    have F₃ := T.F.monoK (Keep.but (β := β') hs'.extBut nI) hitf
    have G₃ : Grow [] β₀ s₀.heap β' s₃.heap := T.G.but hs'.extBut T.ifr
    obtain ⟨ws, k', e1, e2⟩ := T.dl
    have d₃ : s₃.heap.get? D = some (listOf ws k') := hs'.extBut D _ T.ne e1
    have v₃ : VRels s₃.heap β' acc ws.toList := VRels.monoK (Keep.but (β := β') hs'.extBut nI) e2
    refine letGo_ok hit' ?_
    refine wpAny_mono (targetL_ok ad en hT eb S₃ F₃ vr') (fun _ s₄ p => ?_) fun _ _ x => x.elim
    obtain ⟨S₄, F₄, G₄, r₄⟩ := p
    have hitL : it ∉ [env.locals] := fun m => by rw [List.mem_singleton] at m; exact T.itC (m ▸ .head _)
    have it₄ := hit'.mono G₄ T.ib hitL
    have d₄ : s₄.heap.get? D = some (listOf ws k') := G₄.keep D _ d₃ (.inl ⟨T.db, fun m => by rw [List.mem_singleton] at m; exact DL m⟩)
    have v₄ := v₃.mono G₄
    have G₄' : Grow [] β₀ s₀.heap β' s₄.heap := (G₃.nil.trans G₄).drop fun a m => by rw [List.mem_singleton] at m; subst m; exact .inr T.cfr
    apply hh
    · intro σ₃ u σ₄ et eu e
      refine wpAny_mono (tests_ok hts A env s₄ β' ρ₂ σ₂ _ _ ad en S₄ F₄ et) (fun b s₅ p => ?_) fun _ _ x => x.elim
      obtain ⟨rfl, β₅, S₅, G₅, r₅⟩ := p
      simp only [if_true]
      have F₅ := F₄.mono G₅
      refine wpAny_mono (hel.run A env s₅ β₅ ρ₂ σ₃ _ _ ad en S₅ F₅ eu) (fun ru s₆ p => ?_) fun _ _ x => x.elim
      obtain ⟨β₆, S₆, G₆, vu, r₆⟩ := p
      have F₆ := F₅.mono G₆
      have d₅ := G₅.keep D _ d₄ (.inl ⟨T.db, fun m => nomatch m⟩)
      have db₅ := G₅.notin d₄ T.db
      have d₆ := G₆.keep D _ d₅ (.inl ⟨db₅, fun m => nomatch m⟩)
      have db₆ := G₆.notin d₅ db₅
      obtain ⟨oi, fs, ei', _⟩ := it₄.obj
      have it₅ := it₄.mono G₅ T.ib (fun m => nomatch m)
      have ib₅ := G₅.notin ei' T.ib
      obtain ⟨oi', fs', ei'', _⟩ := it₅.obj
      have it₆ := it₅.mono G₆ ib₅ (fun m => nomatch m)
      have ib₆ := G₆.notin ei'' ib₅
      have v₆ := (v₄.mono G₅).mono G₆
      have hsz : ws.size = acc.length := by have := v₆.length; simp at this; lia
      refine append_at d₆ (fun h' hs₇ hd₇ => ?_) (by rw [hsz, sizeLine_eq]; lia)
      have nD : ∀ o, s₆.heap.get? D = some o → ¬ Imm o := fun o q => by rw [d₆] at q; apply so1 q; simp [Imm]
      have g₇ : Grow [D] β₆ s₆.heap β₆ h' := Grow.change hs₇ (.inr (.head _)) nD ⟨_, hd₇⟩
      have hDf : D ∉ fa env := T.DC
      refine ⟨r, Nat.lt_succ_self _, i1 ⟨Nat.le_of_succ_le hr, β₆, acc ++ [u], ρ₂, σ₄, by rw [List.length_append, List.length_singleton, Nat.add_assoc, Nat.add_comm 1]; exact hacc, ⟨?_, ?_, ?_, ?_, ?_, ib₆, T.ifr, ?_, db₆, T.dfr, T.cfr, T.ne⟩, e⟩⟩
      · exact S₆.other hs₇ db₆ (T.DB S₀) nD ⟨_, hd₇⟩
      · exact F₆.monoK g₇.toKeep fun a m => by rw [List.mem_singleton] at m; subst m; exact hDf
      · exact (((G₄'.trans G₅).trans G₆).nil.trans g₇).drop fun a m => by rw [List.mem_singleton] at m; subst m; exact .inr T.dfr
      · exact ⟨(((T.rs.trans rs).trans r₄).trans (r₅.trans r₆)).gens, (((T.rs.trans rs).trans r₄).trans (r₅.trans r₆)).os⟩
      · rw [stepn (rfl : n = n) hr]
        rw [hl] at it₆
        exact it₆.mono g₇ ib₆ fun m => by rw [List.mem_singleton] at m; exact T.ne m.symm
      · exact ⟨_, _, hd₇, by simpa using (v₆.mono g₇).snoc (vu.mono g₇)⟩
    · intro σ₃ et e
      refine wpAny_mono (tests_ok hts A env s₄ β' ρ₂ σ₂ _ _ ad en S₄ F₄ et) (fun b s₅ p => ?_) fun _ _ x => x.elim
      obtain ⟨rfl, β₅, S₅, G₅, r₅⟩ := p
      simp only [Bool.false_eq_true, if_false]
      have d₅ := G₅.keep D _ d₄ (.inl ⟨T.db, fun m => nomatch m⟩)
      obtain ⟨oi, fs, ei', _⟩ := it₄.obj
      refine ⟨r, Nat.lt_succ_self _, i1 ⟨Nat.le_of_succ_le hr, β₅, acc, ρ₂, σ₃, Nat.le_of_succ_le hacc, ⟨S₅, F₄.mono G₅, G₄'.trans G₅, ((T.rs.trans rs).trans r₄).trans r₅, ?_, G₅.notin ei' T.ib, T.ifr, ⟨_, _, d₅, v₄.mono G₅⟩, G₅.notin d₄ T.db, T.dfr, T.cfr, T.ne⟩, e⟩⟩
      rw [stepn (rfl : n = n) hr]
      have := it₄.mono G₅ T.ib (fun m => nomatch m)
      rw [hl] at this
      exact this
end
end
section
theorem mv_ext {h : Heap} {β β' : List Addr} (g : ∃ t, β' = β ++ t) : Mv h β h β' where
  t := id
  f := fun e => by obtain ⟨t, rfl⟩ := g; rw [List.getElem?_append_left (List.getElem?_eq_some_iff.mp e).1]; exact e
  g := id
  w := id
theorem VRel.ext {h : Heap} {β β' : List Addr} (g : ∃ t, β' = β ++ t) {v : V} {r : Value} (x : VRel h β v r) : VRel h β' v r := x.map (mv_ext g)
theorem VRels.ext {h : Heap} {β β' : List Addr} (g : ∃ t, β' = β ++ t) {v : List V} {r : List Value} (x : VRels h β v r) : VRels h β' v r := x.map (mv_ext g)
theorem KVI.ext {h : Heap} {β β' : List Addr} (g : ∃ t, β' = β ++ t) {a b} (x : KVI h β a b) : KVI h β' a b := x.map (mv_ext g)
theorem KVS.ext {h : Heap} {β β' : List Addr} (g : ∃ t, β' = β ++ t) {a b} (x : KVS h β a b) : KVS h β' a b := x.map (mv_ext g)
theorem ORel.ext {X : Ctx} {h : Heap} {β β' : List Addr} (g : ∃ t, β' = β ++ t) {mo : MO} {a : Addr} (r : ORel X h β mo a) : ORel X h β' mo a := by
  cases mo with
  | list vs => obtain ⟨ws, k, e1, e2⟩ := r; exact ⟨ws, k, e1, VRels.ext g e2⟩
  | dictI kvs => obtain ⟨rks, e1, e2⟩ := r; exact ⟨rks, e1, e2.ext g⟩
  | dictS kvs => obtain ⟨rks, e1, e2⟩ := r; exact ⟨rks, e1, e2.ext g⟩
  | inst k =>
    obtain ⟨dx, e1, e2⟩ := r
    refine ⟨dx, ?_, e2⟩
    obtain ⟨t, rfl⟩ := g
    rw [List.getElem?_append_left (List.getElem?_eq_some_iff.mp e1).1]; exact e1
  | attrs =>
    obtain ⟨es, k, r', n', t', y', l', e0, e1, e2, e3, e4, e5, v1, v2, v3, v4, v5⟩ := r
    exact ⟨es, k, r', n', t', y', l', e0, e1, e2, e3, e4, e5, VRel.ext g v1, VRel.ext g v2, VRel.ext g v3, VRel.ext g v4, VRel.ext g v5⟩
theorem SRel.adopt {X β σ h} (s : SRel X β σ h) {D : Addr} {mo : MO} (hd : D ∉ β) (hb : X.h₀.get? D = none) (hg : mainGlobals < D) (hr : ORel X h β mo D) : SRel X (β ++ [D]) (σ ++ [mo]) h where
  base := s.base
  len := by simp [s.len]
  nodup := by
    rw [List.nodup_append]
    refine ⟨s.nodup, by simp, ?_⟩
    intro a ha b hb
    simp at hb; subst hb
    rintro rfl
    exact hd ha
  new := fun a ha => by
    rcases List.mem_append.mp ha with ha | ha
    · exact s.new a ha
    · simp at ha; subst ha; exact hb
  big := fun a ha => by
    rcases List.mem_append.mp ha with ha | ha
    · exact s.big a ha
    · simp at ha; subst ha; exact hg
  obj := fun n o' a e1 e2 => by
    by_cases hn : n < σ.length
    · rw [List.getElem?_append_left hn] at e1
      rw [List.getElem?_append_left (by rw [s.len]; exact hn)] at e2
      exact (s.obj n o' a e1 e2).ext ⟨_, rfl⟩
    · have : n = σ.length := by
        have := (List.getElem?_eq_some_iff.mp e1).1
        simp at this; lia
      subst this
      rw [List.getElem?_append_right (Nat.le_refl _)] at e1
      rw [List.getElem?_append_right (by rw [s.len]; exact Nat.le_refl _)] at e2
      simp [s.len] at e1 e2
      subst e1; subst e2
      exact hr.ext ⟨_, rfl⟩
theorem Grow.adopt {S β h β' h'} (g : Grow S β h β' h') {D : Addr} (hd : h.get? D = none) : Grow S β h (β' ++ [D]) h' := by
  obtain ⟨t, rfl, ft⟩ := g.pre
  exact Grow.mk' ⟨t ++ [D], by simp, fun a ha => by
    rcases List.mem_append.mp ha with ha | ha
    · exact ft a ha
    · simp at ha; subst ha; exact hd⟩ g.keep g.alive
section
variable {X : Ctx} {d : Nat} {nm : List Str} {sc : Scope}
structure CapOk (nm nmI : List Str) (sc scope : Scope) (k : Nat) (caps : List Nat) : Prop where
  cap : ∀ x j, idx nmI x = some j → k ≤ j → ∃ i, caps[j - k]? = some i ∧ idx nm x = some i ∧ sc.names.lookup x = some .cell ∧ (relS scope sc).names.lookup x = some .cell ∧ (x, NameKind.free) ∈ scope.names
  cell : ∀ y ∈ scope.names, y.2 ≠ .cell
  free : ∀ y ∈ scope.names, y.2 = .free → sc.names.lookup y.1 = some .cell
  kind : scope.kind = .function
  names : ∀ x ∈ scope.names, x.2 = .local → scope.names.lookup x.1 = some .local
theorem relS_cell {scope : Scope} (hcell : ∀ y ∈ scope.names, y.2 ≠ .cell) {x : Str} (h : (relS scope sc).names.lookup x = some .cell) : (x, NameKind.free) ∈ scope.names := by
  have := mem_of_lookup h
  unfold relS at this
  simp only [List.mem_map] at this
  obtain ⟨⟨n, k⟩, hm, he⟩ := this
  split at he
  · rename_i hc
    simp at he
    obtain ⟨rfl, -⟩ := he
    simp at hc
    rw [← hc.1.1]; exact hm
  · simp at he
    obtain ⟨rfl, rfl⟩ := he
    exact absurd rfl (hcell _ hm)
theorem comp_frame {nmI : List Str} {scope : Scope} {k : Nat} {caps : List Nat} {env : Env} {s₁ : Shared} {h : Heap} {β : List Addr} {ρ : R} {σ : H} {C : Addr} {m : Str → Option Value} (co : CapOk nm nmI sc scope k caps) (en : EnvOk X sc env) (S : SRel X β σ s₁.heap) (F : FRel X nm env ρ β s₁.heap)
    (hC : s₁.heap.get? C = none) (g : Grow [] β s₁.heap β h) (hn : h.Ns C m) :
    FRel X nmI (compEnvC scope (closGo env.cells scope.names []) C env) (List.replicate k none ++ caps.map fun i => (ρ[i]?).join) β h ∧ (∀ x ∈ scope.names, x.2 = .free → (env.cells.lookup x.1).isSome = true) := by
  have hfree : ∀ x ∈ scope.names, x.2 = .free → (env.cells.lookup x.1).isSome = true := fun x hx hk => by
    obtain ⟨c, hc⟩ := F.has x.1 (by rw [en.kindOf]; exact co.free x hx hk)
    rw [hc]; rfl
  have hcl : ∀ p ∈ closGo env.cells scope.names [], env.cells.lookup p.1 = some p.2 := fun p hp => (closGo_mem hfree hp).resolve_left (fun q => nomatch q)
  have hlk : ∀ x, (x, NameKind.free) ∈ scope.names → (closGo env.cells scope.names []).lookup x = env.cells.lookup x := fun x hx => lookup_of_all hcl (closGo_has (.inl hx))
  have hlk' : ∀ x c, (closGo env.cells scope.names []).lookup x = some c → env.cells.lookup x = some c := fun x c h => by
    rw [← lookup_of_all hcl (lookup_some_mem h)]; exact h
  have F' := F.mono g
  have hkI : ∀ x, (compEnvC scope (closGo env.cells scope.names []) C env).kindOf x = (relS scope sc).names.lookup x := fun x => by
    rw [← relabel_eq en]; rfl
  have hρ : ∀ {j : Nat} {v : V}, (List.replicate k none ++ caps.map fun i => (ρ[i]?).join)[j]? = some (some v) → k ≤ j ∧ ∀ i, caps[j - k]? = some i → ρ[i]? = some (some v) := fun {j v} e => by
    by_cases hj : j < k
    · rw [List.getElem?_append_left (by simpa using hj), List.getElem?_replicate] at e
      split at e <;> simp at e
    · refine ⟨by lia, fun i hi => ?_⟩
      rw [List.getElem?_append_right (by simpa using hj)] at e
      simp only [List.length_replicate, List.getElem?_map, hi, Option.map_some, Option.some.injEq] at e
      cases q : ρ[i]? with
      | none => rw [q] at e; exact nosm e
      | some o => rw [q] at e; simp at e; rw [e]
  refine ⟨⟨fun a ha => ?_, fun a ha => ?_, ⟨m, hn, fun i x v e1 e2 e3 => ?_⟩, fun p hp => ?_, fun x hx => ?_, fun i x v e1 e2 e3 => ?_, fun x y c h1 h2 => ?_, fun p hp => ?_⟩, hfree⟩
  · cases ha with
    | head => intro q; obtain ⟨o, e, _⟩ := S.alive (show C ∈ β from q); rw [hC] at e; exact nosm e
    | tail _ ha =>
      obtain ⟨p, hp, rfl⟩ := List.mem_map.mp ha
      exact F'.apart _ (mem_fa_cell (hcl p hp))
  · cases ha with
    | head =>
      show X.h₀.get? C = none
      cases e : X.h₀.get? C with
      | none => rfl
      | some o => have := S.base _ _ e; rw [hC] at this; exact nosm this
    | tail _ ha =>
      obtain ⟨p, hp, rfl⟩ := List.mem_map.mp ha
      exact F'.base _ (mem_fa_cell (hcl p hp))
  · obtain ⟨h1, h2⟩ := hρ e3
    obtain ⟨i', h3, _, _, h4, _⟩ := co.cap x i e1 h1
    rw [hkI, h4] at e2; cases e2
  · exact F'.cells _ (mem_of_lookup (hcl p hp))
  · rw [hkI] at hx
    have := relS_cell co.cell hx
    obtain ⟨c, hc⟩ := Option.isSome_iff_exists.mp (hfree _ this rfl)
    exact ⟨c, (hlk x this).trans hc⟩
  · obtain ⟨h1, h2⟩ := hρ e3
    obtain ⟨i', h3, h4, h5, _, h6⟩ := co.cap x i e1 h1
    obtain ⟨c, rv, q1, q2, q3⟩ := F'.cellv i' x v h4 (.inl (by rw [en.kindOf]; exact h5)) (h2 i' h3)
    exact ⟨c, rv, (hlk x h6).trans q1, q2, q3⟩
  · exact F'.inj x y c (hlk' _ _ h1) (hlk' _ _ h2)
  · intro q
    obtain ⟨o, e, _⟩ := F.live _ (mem_fa_cell (hcl p hp))
    have q' : p.2 = C := q
    rw [q', hC] at e; exact nosm e
theorem nat_ne {a b : Nat} (h : ¬ a = b) : (a : Addr) ≠ (b : Addr) := h
noncomputable def CEnd (X : Ctx) (s : Shared) (β : List Addr) (acc : List V) (σ' : H) (D C : Addr) (s' : Shared) : Prop :=
  ∃ β', SRel X β' σ' s'.heap ∧ Grow [] β s.heap β' s'.heap ∧ Rest s s' ∧ D ∉ β' ∧ (∃ ws k, s'.heap.get? D = some (listOf ws k) ∧ VRels s'.heap β' acc ws.toList) ∧ (∃ m, s'.heap.Ns C m) ∧ C ∉ β' ∧ D ≠ C ∧
    s.heap.get? D = none ∧ s.heap.get? C = none ∧ mainGlobals < D
theorem comp_block (ok : X.Ok) {A : Around} {env : Env} {t iter elt : Expr} {ifs : List Expr} {pos : Pos} {scope : Scope} {nmI : List Str} {k : Nat} {caps : List Nat} {g : Tg} {mts : List Tx} {me : Ex} {RP : Value → Addr → Result → Shared → Prop} {s : Shared}
    {β : List Addr} {ρ : R} {σ σ' : H} {v : V} {rv : Value} {kd : Kd} {items acc' : List V} (co : CapOk nm nmI sc scope k caps) (ad : Adm d A) (en : EnvOk X sc env) (S : SRel X β σ s.heap) (F : FRel X nm env ρ β s.heap) (vr : VRel s.heap β v rv)
    (hT : LTg nmI (relS scope sc) t g) (hts : SimTs X d nmI (relS scope sc) ifs mts) (hel : SimE X d nmI (relS scope sc) elt me) (ei : itemsOf v σ = some (kd, items)) (hn : items.length ≤ 100000)
    (e₀ : compGo v kd items.length g mts me items.length [] (List.replicate k none ++ caps.map fun i => (ρ[i]?).join) σ = some (acc', σ'))
    (hR : ∀ D C s', CEnd X s β acc' σ' D C s' → RP (.ref D) C (.ok .next) s') :
    wpAny (MM X) A (pyIter rv) (fun it s₂ => wpAny (MM X) A (newList []) (fun acc s₃ => wpAny (MM X) A (newFunctionEnv scope env.globals (closGo env.cells scope.names []) [] env.qual none .none (some env)) (fun cenv s₄ =>
      codeAny (MM X) A (.compStart (.ListComp elt [⟨t, iter, ifs, 0⟩] scope pos) 0 it acc { cenv with scope := relabel scope env }) (RP acc cenv.locals) s₄) NoE s₃) NoE s₂) NoE s := by
  refine wpAny_mono (iter_ok ei S vr) (fun r s₂ p => ?_) fun _ _ x => x
  obtain ⟨o, rfl, rfl, hit⟩ := p
  refine wpAny_newObj_type (wpAny_newFunctionEnv co.cell (by intro y hy; simp at hy) (fun h₁ hns₁ hsb₁ => ?_) co.kind)
  have fresh : ∀ a, s.heap.objs.size ≤ a → s.heap.get? a = none := fun a ha => by
    cases e : s.heap.get? a with
    | none => rfl
    | some o' => exact absurd (Heap.lt_size e) (Nat.not_lt.mpr ha)
  dsimp only at hit hns₁ hsb₁ ⊢
  have hsz₂ : (s.heap.push o).objs.size = s.heap.objs.size + 1 := Heap.size_push ..
  have hsz₃ : ((s.heap.push o).push { cls := .type "list", dict := none, data := .seq ([] : List Value).toArray }).objs.size = s.heap.objs.size + 2 := by rw [Heap.size_push, hsz₂]
  generalize hH2 : (s.heap.push o).push { cls := .type "list", dict := none, data := .seq ([] : List Value).toArray } = H2 at hns₁ hsb₁ hsz₃ ⊢
  have up : ∀ b ob, s.heap.get? b = some ob → h₁.get? b = some ob := fun b ob e => by
    have hb : Nat.succ b ≤ s.heap.objs.size := Heap.lt_size e
    refine hsb₁.extBut b ob (nat_ne (by lia)) (Heap.get?_push_of_some _ ?_)
    rw [← hH2]; exact Heap.get?_push_of_some _ (Heap.get?_push_of_some _ e)
  have upI : ∀ ob, (s.heap.push o).get? s.heap.objs.size = some ob → h₁.get? s.heap.objs.size = some ob := fun ob e => by
    refine hsb₁.extBut _ ob (nat_ne (by lia)) (Heap.get?_push_of_some _ ?_)
    rw [← hH2]; exact Heap.get?_push_of_some _ e
  have hD : h₁.get? (s.heap.objs.size + 1) = some (listOf #[] 0) := by
    refine hsb₁.extBut _ _ (nat_ne (by lia)) (Heap.get?_push_of_some _ ?_)
    rw [← hH2, ← hsz₂]; exact Heap.get?_push_size _ rfl
  have g₁ : ∀ {S' : List Addr}, Grow S' β s.heap β h₁ := Grow.ext up
  have S₁ := S.ext up
  rw [hsz₃] at hns₁ ⊢
  obtain ⟨FI, hfree⟩ := comp_frame (C := s.heap.objs.size + 2) (h := h₁) co en S F (fresh _ (Nat.le_add_right _ 2)) g₁ hns₁
  have enI : EnvOk X (relS scope sc) (compEnvC scope (closGo env.cells scope.names []) (s.heap.objs.size + 2) env) := ⟨relabel_eq en scope, co.kind, en.globals, en.builtins⟩
  have hitI : ItAt X β h₁ 0 s.heap.objs.size v kd items.length := by
    have hm : s.heap.objs.size ∉ β := fun m => by obtain ⟨o', e', _⟩ := S.alive m; rw [fresh _ (Nat.le_refl _)] at e'; cases e'
    refine hit.mono (S := []) (Grow.mk' ⟨[], by simp, by simp⟩ (fun b ob e q => ?_) fun b ob e => ⟨ob, ?_⟩) hm (fun m => nomatch m)
    all_goals
      have hb : Nat.succ b ≤ (s.heap.push o).objs.size := Heap.lt_size e
      rw [hsz₂] at hb
      refine hsb₁.extBut b ob (nat_ne (by lia)) (Heap.get?_push_of_some _ ?_)
      rw [← hH2]; exact Heap.get?_push_of_some _ e
  have nin : ∀ a, s.heap.objs.size ≤ a → a ∉ β := fun a ha m => by obtain ⟨o', e', _⟩ := S.alive m; rw [fresh _ ha] at e'; cases e'
  have hbig : mainGlobals < s.heap.objs.size := by
    obtain ⟨o', _, _, ho, _⟩ := ok.top.g
    exact Heap.lt_size (S.base _ _ ho)
  have T₀ : CTurn X nmI (compEnvC scope (closGo env.cells scope.names []) (s.heap.objs.size + 2) env) s β s.heap.objs.size (s.heap.objs.size + 1) 0 v kd items.length β [] (List.replicate k none ++ caps.map fun i => (ρ[i]?).join) σ
      { s with heap := h₁, toks := s.toks + ([] : List (Str × Value)).length } :=
    ⟨S₁, FI, g₁, ⟨rfl, rfl⟩, hitI, nin _ (Nat.le_refl _), fresh _ (Nat.le_refl _), ⟨_, _, hD, .nil⟩, nin _ (Nat.le_succ _), fresh _ (Nat.le_succ _), fresh _ (Nat.le_add_right _ 2), nat_ne (by lia)⟩
  have loop := comp_loop (t := t) (iter := iter) (elt := elt) (ifs := ifs) (pos := pos) (scope := scope) (RP := RP (.ref (s.heap.objs.size + 1)) (s.heap.objs.size + 2)) ad enI S hT hts hel hn T₀ e₀ fun s' β' S' G' R' D' L' N' C' ne' =>
    hR _ _ s' ⟨β', S', G', R', D', L', N', C', ne', fresh _ (Nat.le_succ _), fresh _ (Nat.le_add_right _ 2), Nat.lt_succ_of_lt hbig⟩
  have hl' : s.heap.objs.size + 1 = (s.heap.push o).objs.size := hsz₂.symm
  rw [hsz₂]
  exact codeAny_compStart_list loop (T₀.ia.self loop)
theorem CEnd.fin {s s' : Shared} {β : List Addr} {acc : List V} {σ' : H} {D C : Addr} {σ₀ : H} (S₀ : SRel X β σ₀ s.heap) (h : CEnd X s β acc σ' D C s') : ∃ β', SRel X β' (σ' ++ [.list acc]) s'.heap ∧ Grow [] β s.heap β' s'.heap ∧ VRel s'.heap β' (.ref σ'.length) (.ref D) ∧ Rest s s' ∧ C ∉ β' ∧ (∃ m, s'.heap.Ns C m) ∧ s.heap.get? C = none := by
  obtain ⟨β', S', G', R', hD, ⟨ws, k, e1, e2⟩, hN, hC, ne, fD, fC, big⟩ := h
  have bD : X.h₀.get? D = none := by
    cases e : X.h₀.get? D with
    | none => rfl
    | some o => have := S₀.base D o e; rw [fD] at this; exact nosm this
  refine ⟨β' ++ [D], S'.adopt hD bD big ⟨ws.toList, k, by simpa using e1, e2⟩, G'.adopt fD, .ref (by rw [← S'.len]; simp), R', fun m => ?_, hN, fC⟩
  rcases List.mem_append.mp m with m | m
  · exact hC m
  · simp at m; exact ne m.symm
theorem ns_notImm {h : Heap} {C : Addr} {m} (hn : h.Ns C m) : ∀ o, h.get? C = some o → ¬ Imm o := fun o e => by
  obtain ⟨o', _, _, e', hd, _⟩ := hn; rw [e] at e'; cases e'; simp [Imm, hd]
theorem simE_comp (ok : X.Ok) {t iter elt : Expr} {ifs : List Expr} {pos : Pos} {scope : Scope} {nmI : List Str} {k : Nat} {caps : List Nat} {g : Tg} {mts : List Tx} {ms me : Ex} (co : CapOk nm nmI sc scope k caps) (hs : SimE X d nm sc iter ms)
    (hT : LTg nmI (relS scope sc) t g) (hts : SimTs X d nmI (relS scope sc) ifs mts) (hel : SimE X d nmI (relS scope sc) elt me) (hfold : ∀ (env : Env) x, foldedSetIterable iter env x = pure x) :
    SimE X d nm sc (.ListComp elt [⟨t, iter, ifs, 0⟩] scope pos) (eComp k caps g ms mts me) := .mk fun A env s β ρ σ v σ' ad en S F e => by
  unfold eComp at e
  split at e
  · rename_i vs σ₁ es
    split at e
    · rename_i kd items ei
      split at e
      · rename_i hn
        split at e
        · rename_i acc σ₂ ec
          apply so2 e
          have hfree : ∀ x ∈ scope.names, x.2 = .free → (env.cells.lookup x.1).isSome = true := fun x hx hk => by
            obtain ⟨c, hc⟩ := F.has x.1 (by rw [en.kindOf]; exact co.free x hx hk)
            rw [hc]; rfl
          rw [eval_ListComp]
          refine wpAny_comprehension_free (use := none) rfl (hfold env) (closureFor_ok hfree) co.kind co.names (wpAny_mono (hs.run A env s β ρ σ vs σ₁ ad en S F es) (fun rv s₁ p => ?_) fun _ _ x => x)
          obtain ⟨β₁, S₁, g₁, vr, r₁⟩ := p
          refine comp_block ok (RP := fun acc' C => compPost (MM X) A NoE none (EPost X s β (.ref σ₂.length) (σ₂ ++ [.list acc])) acc' C) co ad en S₁ (F.mono g₁) vr hT hts hel ei hn ec fun D C s' hE => ?_
          obtain ⟨β', S', G', vD, R', hC, ⟨m, hN⟩, fC⟩ := hE.fin S₁
          refine ⟨m, hN, fun h' hs' => ?_⟩
          have bC : X.h₀.get? C = none := by
            cases e : X.h₀.get? C with
            | none => rfl
            | some o => have := S₁.base C o e; rw [fC] at this; exact nosm this
          exact ⟨β', S'.but hs'.extBut hC bC (ns_notImm hN), g₁.trans (G'.but hs'.extBut fC), VRel.monoK (Keep.but (β := β') hs'.extBut (ns_notImm hN)) vD, r₁.trans ⟨R'.gens, R'.os⟩⟩
        · exact nosm e
      · exact nosm e
    · exact nosm e
  · exact nosm e
theorem simS_setComp (ok : X.Ok) {x : Str} {i : Nat} {t iter elt : Expr} {ifs : List Expr} {p pos spos : Pos} {scope : Scope} {nmI : List Str} {k : Nat} {caps : List Nat} {g : Tg} {mts : List Tx} {ms me : Ex} (co : CapOk nm nmI sc scope k caps) (hs : SimE X d nm sc iter ms)
    (hT : LTg nmI (relS scope sc) t g) (hts : SimTs X d nmI (relS scope sc) ifs mts) (hel : SimE X d nmI (relS scope sc) elt me) (hfold : ∀ (env : Env) x, foldedSetIterable iter env x = pure x)
    (hi : idx nm x = some i) (hk : sc.names.lookup x = some .local) (hsw : ∀ env : Env, env.scope = sc → swapsWith (.ListComp elt [⟨t, iter, ifs, 0⟩] scope pos) (some (.Name x p)) spos.line env = pure true) :
    SimS X d nm sc (.Assign [.Name x p] (.ListComp elt [⟨t, iter, ifs, 0⟩] scope pos) spos) (sSet i (eComp k caps g ms mts me)) := .mk fun A env s β ρ σ f ρ' σ' ad en S F e => by
  unfold sSet eComp at e
  split at e
  · rename_i v σ₀ e'
    apply so3 e
    split at e'
    · rename_i vs σ₁ es
      split at e'
      · rename_i kd items ei
        split at e'
        · rename_i hn
          split at e'
          · rename_i acc σ₂ ec
            cases e'
            have hfree : ∀ x ∈ scope.names, x.2 = .free → (env.cells.lookup x.1).isSome = true := fun x hx hk => by
              obtain ⟨c, hc⟩ := F.has x.1 (by rw [en.kindOf]; exact co.free x hx hk)
              rw [hc]; rfl
            rw [exec_Assign_Name_used _ _ _ _ (hsw env en.scope)]
            refine wpAny_bind (wpAny_standAt (wpAny_bind ?_))
            show wpAny _ A (do let _ ← comprehension (.ListComp elt [⟨t, iter, ifs, 0⟩] scope pos) scope env _ (newList []) false (eval iter env) (some (assign (.Name x p) env))) _ _ s
            refine wpAny_bind (wpAny_mono (wpAny_comprehension_free (use := some (assign (.Name x p) env)) (Q := fun _ s' => SPost X nm env s β .next (ρ.set i (some (.ref σ₂.length))) (σ₂ ++ [.list acc]) .next s') rfl (hfold env) (closureFor_ok hfree) co.kind co.names
              (wpAny_mono (hs.run A env s β ρ σ vs σ₁ ad en S F es) (fun rv s₁ p => ?_) fun _ _ x => x)) (fun _ s' hq => wpAny_pure (wpAny_pure hq)) fun _ _ e => e)
            obtain ⟨β₁, S₁, g₁, vr, r₁⟩ := p
            refine comp_block ok (RP := fun acc' C => compPost (MM X) A NoE (some (assign (.Name x p) env)) (fun _ s' => SPost X nm env s β .next (ρ.set i (some (.ref σ₂.length))) (σ₂ ++ [.list acc]) .next s') acc' C) co ad en S₁ (F.mono g₁) vr hT hts hel ei hn ec fun D C s' hE => ?_
            obtain ⟨β', S', G', vD, R', hC, ⟨m, hN⟩, fC⟩ := hE.fin S₁
            have bC : X.h₀.get? C = none := by
              cases e : X.h₀.get? C with
              | none => rfl
              | some o => have := S₁.base C o e; rw [fC] at this; exact nosm this
            have F₁ := F.mono g₁
            have hCf : C ∉ fa env := fun m => by obtain ⟨o, e, _⟩ := F₁.live _ m; rw [fC] at e; exact nosm e
            refine assign_Name (wpAny_mono (store_any hi (.inl hk) en S' (F₁.mono G') vD) (fun _ s₃ q => ?_) fun _ _ x => x)
            obtain ⟨S₃, F₃, G₃, R₃⟩ := q
            have N₃ : s₃.heap.Ns C m := ns_at hN fun o e => G₃.keep C o e (.inl ⟨hC, hCf⟩)
            refine ⟨m, N₃, fun h' hs' => ?_⟩
            have nI := ns_notImm N₃
            refine ⟨β', S₃.but hs'.extBut hC bC nI, F₃.monoK (Keep.but (β := β') hs'.extBut nI) (fun a q => by rw [List.mem_singleton] at q; subst q; exact hCf), ?_, .next, (r₁.trans R').trans ⟨R₃.gens, R₃.os⟩⟩
            exact g₁.nil.trans ((G'.nil.trans G₃).but hs'.extBut fC)
          · cases e'
        · cases e'
      · cases e'
    · cases e'
  · exact nosm e
end
end
section
section
variable {X : Ctx} {d : Nat} {nm : List Str} {sc : Scope}
theorem toDs_get {f : V → Option PyData} : ∀ {vs : List V} {ds : List PyData}, toDs f vs = some ds → ∀ {i : Nat} {v : V}, vs[i]? = some v → ∃ d, ds[i]? = some d ∧ f v = some d
  | [], _, _, _, _, h => by simp at h
  | u :: r, ds, e, i, v, h => by
    unfold toDs at e
    split at e
    · rename_i d hd
      split at e
      · rename_i ds' hds
        apply so1 e
        induction i using Nat.casesOn with
        | zero => simp at h; subst h; exact ⟨d, rfl, hd⟩
        | succ i => simp at h; obtain ⟨d', h1, h2⟩ := toDs_get hds h; exact ⟨d', by simpa using h1, h2⟩
      · exact nosm e
    · exact nosm e
theorem toDs_len {f : V → Option PyData} : ∀ {vs : List V} {ds : List PyData}, toDs f vs = some ds → ds.length = vs.length
  | [], _, e => by apply so1 e; rfl
  | u :: r, ds, e => by
    unfold toDs at e
    split at e
    · split at e
      · rename_i ds' hds
        apply so1 e
        simp [toDs_len hds]
      · exact nosm e
    · exact nosm e
theorem canLay_get : ∀ {ds : List PyData} {i : Nat} {d : PyData}, PyData.canLayAll0 ds = true → ds[i]? = some d → d.canLay0 = true
  | [], _, _, _, h => by simp at h
  | x :: r, i, d, hc, h => by
    have hc' : x.canLay0 = true ∧ PyData.canLayAll0 r = true := by simpa [PyData.canLayAll0] using hc
    induction i using Nat.casesOn with
    | zero => simp at h; subst h; exact hc'.1
    | succ i => simp at h; exact canLay_get hc'.2 h
theorem plain_contains_iter : plainId "proto.contains_iter" = true := by decide +kernel
theorem entry_contains_iter : entryFor table "proto.contains_iter" = some Builtin.«proto.contains_iter» := entryFor_of_tree (by kernel_rfl)
theorem contains_iter_is (it x : Value) : Builtin.«proto.contains_iter» ⟨[it, x], []⟩ = (pyNext it >>= fun r => match r with
  | none => (rule "in.by-iteration.exhausted" >>= fun _ => ret (.bool false))
  | some v => (eqBool v x >>= fun b => if b = true then (rule "in.by-iteration.found" >>= fun _ => ret (.bool true)) else again (.builtin "proto.contains_iter" ⟨[it, x], []⟩))) := by rfl
theorem contains_iter_loop {A : Around} (hh : A.handled = none) (hu : A.units + 64 < cLine) {β : List Addr} {σ : H} {it : Addr} {v : V} {kd : Kd} {items : List V} {ds : List PyData} {d' : PyData} {rx : Value} {x : V} (ei : itemsOf v σ = some (kd, items))
    (hds : toDs (toD 15 σ) items = some ds) (hx : toD 16 σ x = some d') (hc : PyData.canLayAll0 ds = true) (hc' : d'.canLay0 = true) (hib : it ∉ β) (hb : X.h₀.get? it = none) : ∀ (k i : Nat) (s : Shared), k + i = items.length → SRel X β σ s.heap → VRel s.heap β x rx →
      ItAt X β s.heap i it v kd items.length →
      codeAny (MM X) A (.builtin "proto.contains_iter" ⟨[.ref it, rx], []⟩) (fun r s' => r = .ok (.ret (.bool ((ds.drop i).any fun y => PyData.eqv y d'))) ∧ Heap.ExtBut it s.heap s'.heap ∧ Rest s s') s := by
  intro k
  induction k with
  | zero =>
    intro i s hk S vx hi
    refine codeAny_builtin entry_contains_iter ?_
    rw [Around.under_plainId plain_contains_iter _, contains_iter_is]
    have : i = items.length := by lia
    subst this
    refine wpAny_bind (wpAny_mono (next_end hi ei S hh) (fun r s₁ p => ?_) fun _ _ x => x.elim)
    obtain ⟨rfl, hx', rs⟩ := p
    refine wpAny_bind (wpAny_rule ?_)
    rw [List.drop_eq_nil_of_le (by rw [toDs_len hds]; exact Nat.le_refl _)]
    exact wpAny_pure ⟨rfl, hx', rs⟩
  | succ k ih =>
    intro i s hk S vx hi
    refine codeAny_builtin entry_contains_iter ?_
    rw [Around.under_plainId plain_contains_iter _, contains_iter_is]
    have hlt : i < items.length := by lia
    have hy : items[i]? = some items[i] := List.getElem?_eq_getElem hlt
    have nI := hi.notImm
    refine wpAny_bind (wpAny_mono (next_item hi ei hy S hib) (fun r s₁ p => ?_) fun _ _ x => x.elim)
    obtain ⟨rv, rfl, vr, hi', hs', rs⟩ := p
    have S₁ := S.but hs'.extBut hib hb nI
    have vx₁ : VRel s₁.heap β x rx := VRel.monoK (Keep.but (β := β) hs'.extBut nI) vx
    obtain ⟨dy, h1, h2⟩ := toDs_get hds hy
    obtain ⟨as, q1⟩ := reads_toD S₁ _ _ _ _ vr h2
    obtain ⟨bs, q2⟩ := reads_toD S₁ _ _ _ _ vx₁ hx
    have hdep := depth_toD _ _ _ hx
    have hcy := canLay_get hc h1
    refine wpAny_bind (SeqAt.eqAt_reads dy d' A.in1 s₁ rv rx _ _ q1 q2 hcy hc' (by show A.units + 1 + _ < _; have := Nat.min_le_right dy.depth d'.depth; lia) X.prog X.w _ _ ?_)
    have hdrop : ds.drop i = dy :: ds.drop (i + 1) := by
      have hl : i < ds.length := by rw [toDs_len hds]; exact hlt
      rw [List.drop_eq_getElem_cons hl]
      rw [List.getElem?_eq_getElem hl] at h1
      apply so1 h1; rfl
    rw [hdrop, List.any_cons]
    cases hb' : PyData.eqv dy d' with
    | true =>
      simp only [if_true]
      exact wpAny_bind (wpAny_rule (wpAny_pure ⟨rfl, hs'.extBut, rs⟩))
    | false =>
      simp only [Bool.false_eq_true, if_false]
      refine wpAny_pure ⟨plainId_quiet plain_contains_iter _, codeAny_mono (ih (i + 1) s₁ (by lia) S₁ vx₁ hi') fun r s' p => ?_⟩
      exact ⟨p.1, fun b o hbi e => p.2.1 b o hbi (hs'.extBut b o hbi e), rs.trans p.2.2⟩
theorem vals_no_contains : typeLookup (.type "dict_values") "__contains__" = pure none := by rw [typeLookup_type, builtinLookup_eq_fast]; kernel_rfl
theorem contains_vals {A : Around} (hh : A.handled = none) (hu : A.units + 64 < cLine) {s : Shared} {β : List Addr} {σ : H} {n : Nat} {kvs : List (Int × V)} {ds : List PyData} {d' : PyData} {rc rx : Value} {x : V} (hk : σ[n]? = some (.dictI kvs))
    (hds : toDs (toD 15 σ) (kvs.map (·.2)) = some ds) (hx : toD 16 σ x = some d') (hc : PyData.canLayAll0 ds = true) (hc' : d'.canLay0 = true) (S : SRel X β σ s.heap) (vx : VRel s.heap β x rx) (vc : VRel s.heap β (.vals n) rc) {Q : Bool → Shared → Prop} {E : Value → Shared → Prop}
    (h : ∀ s', SRel X β σ s'.heap → Grow [] β s.heap β s'.heap → Rest s s' → Q (ds.any fun y => PyData.eqv y d') s') : wpAny (MM X) A (contains rc rx) Q E s := by
  have ei : itemsOf (.vals n) σ = some (.vals, kvs.map (·.2)) := by simp [itemsOf, hk]
  obtain ⟨a, r, rfl, hn, hv⟩ : ∃ a r, rc = .ref r ∧ β[n]? = some a ∧ s.heap.IsValuesView r a := by
    cases vc with
    | vals h1 h2 => exact ⟨_, _, rfl, h1, h2⟩
  have hT : s.TypeIs (.ref r) "dict_values" := hv.typeIs
  unfold contains
  refine wpAny_holding ?_
  refine wpAny_bind (wpAny_specialOf hT vals_no_contains ?_)
  show wpAny _ _ (if ((none : Option Value) == some Value.none) = true then _ else _) _ E s
  rw [if_neg (by decide)]
  refine wpAny_bind (wpAny_callSpecialUnlessNone?_none hT vals_no_contains ?_)
  refine wpAny_bind (wpAny_rule ?_)
  refine wpAny_bind (wpAny_tryCatch (wpAny_mono (iter_ok ei S vc) (fun it s₁ p => ?_) fun _ _ x => x.elim))
  obtain ⟨o, rfl, rfl, hit⟩ := p
  have fr := size_fresh s.heap
  have hib : s.heap.objs.size ∉ β := fun m => by obtain ⟨o', e', _⟩ := S.alive m; rw [fr] at e'; cases e'
  have hb : X.h₀.get? s.heap.objs.size = none := by
    cases e : X.h₀.get? s.heap.objs.size with
    | none => rfl
    | some o => have := S.base _ o e; rw [fr] at this; exact nosm this
  have S₁ := S.push o
  have nI := hit.notImm
  refine wpAny_bind (wpAny_runValue (codeAny_mono (contains_iter_loop hh hu ei hds hx hc hc' hib hb (kvs.map (·.2)).length 0 { s with heap := s.heap.push o } rfl S₁ (vx.mono (S := []) (Grow.push o)) hit) fun r' s' p => ?_))
  obtain ⟨rfl, hx', rs⟩ := p
  exact wpAny_pure (h s' (S₁.but hx' hib hb nI) ((Grow.push o).but hx' fr) ⟨rs.gens, rs.os⟩)
theorem in_vals {A : Around} (hh : A.handled = none) (hu : A.units + 64 < cLine) {s : Shared} {β : List Addr} {σ : H} {n : Nat} {kvs : List (Int × V)} {ds : List PyData} {d' : PyData} {rc rx : Value} {x : V} (hk : σ[n]? = some (.dictI kvs))
    (hds : toDs (toD 15 σ) (kvs.map (·.2)) = some ds) (hx : toD 16 σ x = some d') (hc : PyData.canLayAll0 ds = true) (hc' : d'.canLay0 = true) (S : SRel X β σ s.heap) (vx : VRel s.heap β x rx) (vc : VRel s.heap β (.vals n) rc) :
    wpAny (MM X) A (compareOp .In rx rc) (EPost X s β (.bool (ds.any fun y => PyData.eqv y d')) σ) NoE s ∧ wpAny (MM X) A (compareOp .NotIn rx rc) (EPost X s β (.bool !(ds.any fun y => PyData.eqv y d')) σ) NoE s := by
  constructor
  · show wpAny _ _ (do return Value.bool (← contains rc rx)) _ _ s
    exact wpAny_bind (contains_vals hh hu hk hds hx hc hc' S vx vc fun s' S' g r => wpAny_pure ⟨β, S', g, .bool _, r⟩)
  · show wpAny _ _ (do return Value.bool (!(← contains rc rx))) _ _ s
    exact wpAny_bind (contains_vals hh hu hk hds hx hc hc' S vx vc fun s' S' g r => wpAny_pure ⟨β, S', g, .bool _, r⟩)
end
end
section
section
variable {X : Ctx} {d : Nat} {nm : List Str} {sc : Scope}
noncomputable def vHas (ds : List PyData) (d : PyData) : Option Bool := if PyData.canLayAll0 ds = true ∧ d.canLay0 = true then some (ds.any fun y => PyData.eqv y d) else none
noncomputable def vHasO (x : V) (vs : List V) (σ : H) : Option Bool := (toDs (toD 15 σ) vs).bind fun ds => (toD 16 σ x).bind (vHas ds)
noncomputable def V.onRTV {α : Type} (v : V) (f : Nat → Option α) (g : List V → Option α) (h : Nat → Option α) : Option α := V.casesOn (motive_1 := fun _ => Option α) v Option.none (fun _ => Option.none) (fun _ => Option.none) (fun _ => Option.none) g f (fun _ _ _ => Option.none) h Option.none
theorem V.onRTV_e {α : Type} {r : α} {v : V} {f : Nat → Option α} {g : List V → Option α} {h : Nat → Option α} {P : V → Prop} (e : v.onRTV f g h = some r) (k : ∀ i, f i = some r → P (.ref i)) (k2 : ∀ i, g i = some r → P (.tup i)) (k3 : ∀ i, h i = some r → P (.vals i)) : P v := by
  induction v using V.casesOn <;> first | exact nosm e | exact k _ e | exact k2 _ e | exact k3 _ e
noncomputable def vInB (x c : V) (σ : H) : Option Bool := c.onRTV (fun n => oLI σ[n]? (fun vs => vHasO x vs σ) fun kvs => x.onI fun k => some (look kvs k).isSome)
  (fun vs => vHasO x vs σ) fun n => oI σ[n]? fun kvs => vHasO x (kvs.map (·.2)) σ
theorem vHas_e {x vs σ b} {P : Prop} (e : vHasO x vs σ = some b) (k : ∀ ds d, toDs (toD 15 σ) vs = some ds → toD 16 σ x = some d → PyData.canLayAll0 ds = true → d.canLay0 = true → (ds.any fun y => PyData.eqv y d) = b → P) : P := by
  apply obe e; intro ds h1 e
  apply obe e; intro d h2 e
  apply ife e; intro hc e
  exact k ds d h1 h2 hc.1 hc.2 (Option.some.inj e)
noncomputable def vIn (x c : V) (σ : H) : Option (V × H) := match vInB x c σ with
  | some b => some (.bool b, σ)
  | none => none
noncomputable def vNotIn (x c : V) (σ : H) : Option (V × H) := match vInB x c σ with
  | some b => some (.bool !b, σ)
  | none => none
theorem VRel.ref_inv {h β n r} (x : VRel h β (.ref n) r) : ∃ a, r = .ref a ∧ β[n]? = some a := by
  cases x with
  | ref e => exact ⟨_, rfl, e⟩
theorem inB_ok {A : Around} {s : Shared} {β : List Addr} {σ : H} {x c : V} {rx rc : Value} {b : Bool} (ad : Adm d A) (S : SRel X β σ s.heap) (vx : VRel s.heap β x rx) (vc : VRel s.heap β c rc) (e : vInB x c σ = some b) :
    wpAny (MM X) A (compareOp .In rx rc) (EPost X s β (.bool b) σ) NoE s ∧ wpAny (MM X) A (compareOp .NotIn rx rc) (EPost X s β (.bool !b) σ) NoE s := by
  unfold vInB at e
  revert vc; apply V.onRTV_e e
  · intro n e vc
    apply vc.a; intro a hn
    apply oLI_e e
    · intro vs hvs e
      apply vHas_e e; intro ds d' hds hd' c1 c2 hb
      subst hb
      obtain ⟨ws, k, hl, hr⟩ := S.obj _ _ _ hvs hn
      obtain ⟨as, q⟩ := reads_toDs (reads_toD S _) hr hds
      obtain ⟨bs, q'⟩ := reads_toD S _ _ _ _ vx hd'
      have hdep := depth_toD _ _ _ hd'
      have := ad.room64
      have rc : Reads s.heap (.ref a) (.list ds) (a :: as) := .list hl rfl rfl (by simpa using q)
      have hu : A.units + 1 + min (PyData.depthAll ds) d'.depth < cLine := by have := Nat.min_le_right (PyData.depthAll ds) d'.depth; lia
      exact ⟨SeqAt.in_list_reads rc q' c1 c2 hu ⟨β, S, Grow.refl, .bool _, Rest.refl⟩, SeqAt.notIn_list_reads rc q' c1 c2 hu ⟨β, S, Grow.refl, .bool _, Rest.refl⟩⟩
    · intro kvs hk e
      revert vx; apply V.onI_e e; intro k e vx
      apply so1 e
      apply vx.i; intro t
      obtain ⟨rks, hd, hr⟩ := S.obj _ _ _ hk hn
      have hb := S.big a (List.mem_of_getElem? hn)
      have hsys : (a == sysModules) = false := by
        simp only [beq_eq_false_iff_ne]
        have : sysModules < mainGlobals := by decide
        exact Nat.ne_of_gt (Nat.lt_trans this hb)
      have hl := hr.look k
      have key : (valueAt rks k).isSome = (look kvs k).isSome := by
        cases q : look kvs k with
        | none => rw [q] at hl; rw [hl]; rfl
        | some v => rw [q] at hl; obtain ⟨r, h1, _⟩ := hl; rw [h1]; rfl
      rw [← key]
      exact ⟨wpAny_in_of (intKind_is _ _ k t) hsys hd.dictOf.mapOf ⟨β, S, Grow.refl, .bool _, rfl, rfl⟩,
        wpAny_notIn_of (intKind_is _ _ k t) hsys hd.dictOf.mapOf ⟨β, S, Grow.refl, .bool _, rfl, rfl⟩⟩
  · intro vs e vc
    apply vHas_e e; intro ds d' hds hd' c1 c2 hb
    subst hb
    obtain ⟨a, ws, rfl, ⟨o, ho, hcl, n, hdt⟩, hr⟩ := vc.list_inv
    obtain ⟨as, q⟩ := reads_toDs (reads_toD S _) hr hds
    obtain ⟨bs, q'⟩ := reads_toD S _ _ _ _ vx hd'
    have hdep := depth_toD _ _ _ hd'
    have := ad.room64
    have rc : Reads s.heap (.ref a) (.tuple ds) as := .tuple ho hcl hdt (by simpa using q)
    have hu : A.units + 1 + min (PyData.depthAll ds) d'.depth < cLine := by have := Nat.min_le_right (PyData.depthAll ds) d'.depth; lia
    exact ⟨SeqAt.in_tuple_reads rc q' c1 c2 hu ⟨β, S, Grow.refl, .bool _, Rest.refl⟩, SeqAt.notIn_tuple_reads rc q' c1 c2 hu ⟨β, S, Grow.refl, .bool _, Rest.refl⟩⟩
  · intro n e vc
    apply oI_e e; intro kvs hk e
    apply vHas_e e; intro ds d' hds hd' c1 c2 hb
    subst hb
    exact in_vals ad.handled ad.room64 hk hds hd' c1 c2 S vx vc
theorem in_ok : VOp2 X d (compareOp .In) vIn := fun A s β σ a b ra rb v σ' ad S va vb e => by
  unfold vIn at e
  split at e <;> (first | exact nosm e | apply so2 e)
  rename_i r hr
  exact (inB_ok ad S va vb hr).1
theorem notIn_ok : VOp2 X d (compareOp .NotIn) vNotIn := fun A s β σ a b ra rb v σ' ad S va vb e => by
  unfold vNotIn at e
  split at e <;> (first | exact nosm e | apply so2 e)
  rename_i r hr
  exact (inB_ok ad S va vb hr).2
@[irreducible] noncomputable def eChain (f g : V → V → H → Option (V × H)) (a b c : Ex) : Ex := fun ρ σ => match a ρ σ with
  | some (va, σ₁) => match b ρ σ₁ with
    | some (vb, σ₂) => match f va vb σ₂ with
      | some (.bool true, σ₃) => match c ρ σ₃ with
        | some (vc, σ₄) => g vb vc σ₄
        | none => none
      | some (.bool false, σ₃) => some (.bool false, σ₃)
      | _ => none
    | none => none
  | none => none
theorem wp_truthy_bool {A : Around} {s : Shared} {β : List Addr} {b : Bool} {r : Value} {Q : Bool → Shared → Prop} {E} (vr : VRel s.heap β (.bool b) r) (h : Q b s) : wpAny (MM X) A (truthy r) Q E s := by
  apply vr.b
  exact wpAny_truthy_bool h
theorem simT_chain {l m r : Expr} {op₁ op₂ : CmpOp} {pos} {ml mm mr : Ex} {f g} (ho : VOp2 X d (compareOp op₁) f) (hg : VOp2 X d (compareOp op₂) g) (hl : SimE X d nm sc l ml) (hm : SimE X d nm sc m mm) (hr : SimE X d nm sc r mr)
    (hmk : lastMarks [op₁, op₂] [m, r] = false) : SimT X d nm sc (.Compare l [op₁, op₂] [m, r] pos) (tB (eChain f g ml mm mr)) := .mk fun A env s β ρ σ v σ' ad en S F e => by
  unfold tB at e
  split at e
  · rename_i b σ₀ em
    apply so2 e
    unfold eChain at em
    split at em
    · rename_i va σ₁ e1
      split at em
      · rename_i vb σ₂ e2
        split at em
        · rename_i σ₃ e3
          split at em
          · rename_i vc σ₄ e4
            refine isTrue_chain (hm := hmk) (wpAny_mono (hl.run A env s β ρ σ _ _ ad en S F e1) (fun ra s₁ p => ?_) fun _ _ x => x)
            obtain ⟨β₁, S₁, g₁, v₁, r₁⟩ := p
            refine test_link (wpAny_mono (hm.run A env s₁ β₁ ρ σ₁ _ _ ad en S₁ (F.mono g₁) e2) (fun rb s₂ p => ?_) fun _ _ x => x)
            obtain ⟨β₂, S₂, g₂, v₂, r₂⟩ := p
            refine wpAny_mono (ho A s₂ β₂ σ₂ va vb ra rb _ _ ad S₂ (v₁.mono g₂) v₂ e3) (fun c s₃ p => ?_) fun _ _ x => x
            obtain ⟨β₃, S₃, g₃, v₃, r₃⟩ := p
            refine wp_truthy_bool v₃ ?_
            simp only [if_true]
            refine test_last (wpAny_mono (hr.run A env s₃ β₃ ρ σ₃ _ _ ad en S₃ (((F.mono g₁).mono g₂).mono g₃) e4) (fun rc s₄ p => ?_) fun _ _ x => x)
            obtain ⟨β₄, S₄, g₄, v₄, r₄⟩ := p
            refine wpAny_mono (hg A s₄ β₄ σ₄ vb vc rb rc _ _ ad S₄ ((v₂.mono g₃).mono g₄) v₄ em) (fun c s₅ p => ?_) fun _ _ x => x
            obtain ⟨β₅, S₅, g₅, v₅, r₅⟩ := p
            exact truthy_bool S₅ ((((g₁.trans g₂).trans g₃).trans g₄).trans g₅) ((((r₁.trans r₂).trans r₃).trans r₄).trans r₅) v₅
          · exact nosm em
        · rename_i σ₃ e3
          cases em
          refine isTrue_chain (hm := hmk) (wpAny_mono (hl.run A env s β ρ σ _ _ ad en S F e1) (fun ra s₁ p => ?_) fun _ _ x => x)
          obtain ⟨β₁, S₁, g₁, v₁, r₁⟩ := p
          refine test_link (wpAny_mono (hm.run A env s₁ β₁ ρ σ₁ _ _ ad en S₁ (F.mono g₁) e2) (fun rb s₂ p => ?_) fun _ _ x => x)
          obtain ⟨β₂, S₂, g₂, v₂, r₂⟩ := p
          refine wpAny_mono (ho A s₂ β₂ σ₂ va vb ra rb _ _ ad S₂ (v₁.mono g₂) v₂ e3) (fun c s₃ p => ?_) fun _ _ x => x
          obtain ⟨β₃, S₃, g₃, v₃, r₃⟩ := p
          refine wp_truthy_bool v₃ ?_
          simp only [Bool.false_eq_true, if_false]
          exact ⟨rfl, β₃, S₃, (g₁.trans g₂).trans g₃, (r₁.trans r₂).trans r₃⟩
        · exact nosm em
      · exact nosm em
    · exact nosm em
  · exact nosm e
@[irreducible] noncomputable def eBin (isAnd : Bool) (t : Tx) (b : Ex) : Ex := fun ρ σ => match t ρ σ with
  | some (c, σ₁) => if c = isAnd then b ρ σ₁ else some (.bool c, σ₁)
  | none => none
theorem simE_and {a b : Expr} {pos} {ma mb : Ex} (ha : SimE X d nm sc a ma) (hb : SimE X d nm sc b mb) : SimE X d nm sc (.BoolOp .And [a, b] pos) (eBin true (tB ma) mb) := .mk fun A env s β ρ σ v σ' ad en S F e => by
  unfold eBin at e
  split at e
  · rename_i c σ₁ e1
    unfold tB at e1
    split at e1
    · rename_i c' σ₂ e2
      cases e1
      refine BoolOp_and (wpAny_mono (ha.run A env s β ρ σ _ _ ad en S F e2) (fun rv s₁ p => ?_) fun _ _ x => x)
      obtain ⟨β₁, S₁, g, vr, r⟩ := p
      refine wp_truthy_bool vr ?_
      induction c using Bool.casesOn with
      | true =>
        simp only [if_true] at e ⊢
        exact BoolOp_one (wpAny_mono (hb.run A env s₁ β₁ ρ σ₁ v σ' ad en S₁ (F.mono g) e) (fun _ _ p => p.after g r) fun _ _ x => x)
      | false =>
        simp only [Bool.false_eq_true, if_false] at e ⊢
        apply so2 e
        exact ⟨β₁, S₁, g, vr, r⟩
    · exact nosm e1
  · exact nosm e
theorem simE_or {a b : Expr} {pos} {ma mb : Ex} (ha : SimE X d nm sc a ma) (hb : SimE X d nm sc b mb) : SimE X d nm sc (.BoolOp .Or [a, b] pos) (eBin false (tB ma) mb) := .mk fun A env s β ρ σ v σ' ad en S F e => by
  unfold eBin at e
  split at e
  · rename_i c σ₁ e1
    unfold tB at e1
    split at e1
    · rename_i c' σ₂ e2
      cases e1
      refine BoolOp_or (wpAny_mono (ha.run A env s β ρ σ _ _ ad en S F e2) (fun rv s₁ p => ?_) fun _ _ x => x)
      obtain ⟨β₁, S₁, g, vr, r⟩ := p
      refine wp_truthy_bool vr ?_
      induction c using Bool.casesOn with
      | false =>
        simp only [Bool.false_eq_true, if_false, if_true] at e ⊢
        exact BoolOp_one (wpAny_mono (hb.run A env s₁ β₁ ρ σ₁ v σ' ad en S₁ (F.mono g) e) (fun _ _ p => p.after g r) fun _ _ x => x)
      | true =>
        simp only [Bool.true_eq_false, if_false, if_true] at e ⊢
        apply so2 e
        exact ⟨β₁, S₁, g, vr, r⟩
    · exact nosm e1
  · exact nosm e
theorem simE_and3 {a b c : Expr} {pos} {ma mb mc : Ex} (ha : SimE X d nm sc a ma) (hb : SimE X d nm sc b mb) (hc : SimE X d nm sc c mc) : SimE X d nm sc (.BoolOp .And [a, b, c] pos) (eBin true (tB ma) (eBin true (tB mb) mc)) := .mk fun A env s β ρ σ v σ' ad en S F e => by
  have h2 : SimE X d nm sc (.BoolOp .And [b, c] pos) (eBin true (tB mb) mc) := simE_and hb hc
  generalize eBin true (tB mb) mc = m2 at h2 e
  unfold eBin at e
  split at e
  · rename_i c σ₁ e1
    unfold tB at e1
    split at e1
    · rename_i c' σ₂ e2
      cases e1
      refine BoolOp_and (wpAny_mono (ha.run A env s β ρ σ _ _ ad en S F e2) (fun rv s₁ p => ?_) fun _ _ x => x)
      obtain ⟨β₁, S₁, g, vr, r⟩ := p
      refine wp_truthy_bool vr ?_
      induction c using Bool.casesOn with
      | true =>
        simp only [if_true] at e ⊢
        exact wpAny_mono (h2.run A env s₁ β₁ ρ σ₁ v σ' ad en S₁ (F.mono g) e) (fun _ _ p => p.after g r) fun _ _ x => x
      | false =>
        simp only [Bool.false_eq_true, if_false] at e ⊢
        apply so2 e
        exact ⟨β₁, S₁, g, vr, r⟩
    · exact nosm e1
  · exact nosm e
end
end
section
section
variable {X : Ctx} {d : Nat} {nm : List Str} {sc : Scope}
inductive SimEs (X : Ctx) (d : Nat) (nm : List Str) (sc : Scope) : List Expr → List Ex → Prop
  | nil : SimEs X d nm sc [] []
  | cons {e m es ms} : SimE X d nm sc e m → SimEs X d nm sc es ms → SimEs X d nm sc (e :: es) (m :: ms)
inductive StrKeys : List (Option Expr) → List (List Nat) → Prop
  | nil : StrKeys [] []
  | cons {x : Str} {k p l r rs} : x.cps.toList = l → StrKeys r rs → StrKeys (some (.Constant (.str x) k p) :: r) (l :: rs)
theorem StrKeys.all {ks ls} (h : StrKeys ks ls) : ks.all (·.isSome) = true := by
  induction h with
  | nil => rfl
  | cons _ _ ih => simpa using ih
theorem StrKeys.len {ks ls} (h : StrKeys ks ls) : ks.length = ls.length := by
  induction h with
  | nil => rfl
  | cons _ _ ih => simp [ih]
theorem SimEs.len {es ms} (h : SimEs X d nm sc es ms) : es.length = ms.length := by
  induction h with
  | nil => rfl
  | cons _ _ ih => simp [ih]
inductive PRels (h : Heap) (β : List Addr) : List (List Nat × V) → List (Value × Value) → Prop
  | nil : PRels h β [] []
  | cons {x : Str} {t : Tok} {v : V} {r : Value} {kvs rks} : VRel h β v r → PRels h β kvs rks → PRels h β ((x.cps.toList, v) :: kvs) ((.str x t, r) :: rks)
theorem PRels.monoK {S β h β' h'} (g : Keep S β h β' h') {a b} (x : PRels h β a b) : PRels h' β' a b := by
  induction x with
  | nil => exact .nil
  | cons x _ ih => exact .cons (VRel.monoK g x) ih
noncomputable def putAll {κ : Type} [DecidableEq κ] (acc kvs : List (κ × V)) : List (κ × V) := kvs.foldl (fun a p => put a p.1 p.2) acc
theorem stored_len {K : Type} [DecidableEq K] (l : List (K × Value)) (k : K) (v : Value) : (stored l k v).length ≤ l.length + 1 := stored_length_le l k v
theorem storeAll_at {A : Around} {D : Addr} {β : List Addr} : ∀ {kvs : List (List Nat × V)} {ps : List (Value × Value)} {acc : List (List Nat × V)} {rks : List (Str × Value)} {s : Shared} {Q : PUnit → Shared → Prop}, PRels s.heap β kvs ps → KVS s.heap β acc rks →
    s.heap.DictAt (strKind X.prog X.w) D rks rks.length → rks.length + ps.length ≤ 1000 → (∀ o, s.heap.get? D = some o → ¬ Imm o) →
    (∀ h' rks' tk, KVS h' β (putAll acc kvs) rks' → h'.DictAt (strKind X.prog X.w) D rks' rks'.length → Heap.SameBut D s.heap h' → Q PUnit.unit { s with heap := h', toks := tk }) →
    wpAny (MM X) A (forIn ps PUnit.unit fun (x : Value × Value) (_ : PUnit) => (do dictSet D x.1 x.2; pure (ForInStep.yield PUnit.unit) : Sem (ForInStep PUnit))) Q NoE s
  | _, _, acc, rks, s, Q, .nil, ha, hd, _, _, hQ => by
    rw [List.forIn_nil]
    exact wpAny_pure (hQ s.heap rks s.toks ha hd (Heap.SameBut.refl _ _))
  | _, _, acc, rks, s, Q, .cons (x := x) (t := t) (v := v) (r := r) hv hr, ha, hd, hsz, hI, hQ => by
    rw [List.forIn_cons]
    simp only [List.length_cons] at hsz
    refine wpAny_bind (wpAny_bind (dictSet_at (strKind_is _ _ x t) hd (by rw [sizeLine_eq]; lia) fun h₁ hd₁ hs₁ => wpAny_pure ?_))
    have hl₁ : ∃ o, h₁.get? D = some o := dict_alive hd₁
    have g : Grow [D] β s.heap β h₁ := Grow.change hs₁ (.inr (.head _)) hI hl₁
    have hn := hd.nodup
    refine storeAll_at (s := { s with heap := h₁, toks := s.toks + 1 }) (hr.monoK g.toKeep) ((ha.mono g).put (hv.mono g) x hn) hd₁ (by have := stored_len rks x r; lia) (fun o e => ?_) fun h' rks' tk h1 h2 h3 => ?_
    · obtain ⟨o', es, ho, _, q, _⟩ := hd₁
      have e' : h₁.get? D = some o := e
      rw [ho] at e'; cases e'; simp [Imm, q]
    · exact hQ h' rks' tk h1 h2 (hs₁.trans h3)
theorem eval_strC {A : Around} {env : Env} {s : Shared} {x : Str} {k p} {Q : Value → Shared → Prop} (h : ∀ t, Q (.str x t) { s with toks := s.toks + 1 }) : wpAny (MM X) A (eval (.Constant (.str x) k p) env) Q NoE s :=
  wpAny_Constant_str (h _)
theorem evalPairs_ok {ks : List (Option Expr)} {ls : List (List Nat)} {es : List Expr} {ms : List Ex} (hk : StrKeys ks ls) (he : SimEs X d nm sc es ms) : ∀ (A : Around) (env : Env) (s : Shared) (β : List Addr) (ρ : R) (σ : H) (vs : List V) (σ' : H) (pos : Pos), ks.length = es.length → Adm d A → EnvOk X sc env → SRel X β σ s.heap → FRel X nm env ρ β s.heap →
    eL ms ρ σ = some (vs, σ') → wpAny (MM X) A (evalPairs (pairTrees ks es env pos)) (fun ps s' => ∃ β', SRel X β' σ' s'.heap ∧ Grow [] β s.heap β' s'.heap ∧ PRels s'.heap β' (ls.zip vs) ps ∧ Rest s s') NoE s := by
  induction hk generalizing es ms with
  | nil =>
    intro A env s β ρ σ vs σ' pos hl ad en S F e
    cases he with
    | nil => apply so2 e; exact evalPairs_nil ⟨β, S, Grow.refl, .nil, Rest.refl⟩
    | cons => simp at hl
  | cons hx hr ih =>
    rename_i x k p l r rs
    intro A env s β ρ σ vs σ' pos hl ad en S F e
    cases he with
    | nil => simp at hl
    | cons h1 h2 =>
      rw [eL] at e
      split at e
      · rename_i v σ₁ e1
        split at e
        · rename_i vs' σ₂ e2
          cases e
          refine pairTrees_cons_walk (wpAny_Constant_str ?_)
          have S₀ : SRel X β σ ({ s with toks := s.toks + 1 } : Shared).heap := S
          refine wpAny_mono (h1.run A env _ β ρ σ v σ₁ ad en S F e1) (fun rv s₁ q => ?_) fun _ _ x => x
          obtain ⟨β₁, S₁, g₁, v₁, r₁⟩ := q
          refine wpAny_mono (ih h2 A env s₁ β₁ ρ σ₁ vs' σ' pos (by simpa using hl) ad en S₁ (F.mono g₁) e2) (fun ps s₂ q => ?_) fun _ _ x => x
          obtain ⟨β₂, S₂, g₂, v₂, r₂⟩ := q
          subst hx
          exact ⟨β₂, S₂, g₁.trans g₂, .cons (v₁.mono g₂) v₂, ⟨(r₁.trans r₂).gens, (r₁.trans r₂).os⟩⟩
        · exact nosm e
      · exact nosm e
theorem longPairs_ok {D : Addr} {ks : List (Option Expr)} {ls : List (List Nat)} {es : List Expr} {ms : List Ex} (hk : StrKeys ks ls) (he : SimEs X d nm sc es ms) : ∀ (A : Around) (env : Env) (s : Shared) (β : List Addr) (ρ : R) (σ : H) (vs : List V) (σ' : H) (pos : Pos) (acc : List (List Nat × V)) (rks : List (Str × Value)), ks.length = es.length → Adm d A → EnvOk X sc env → SRel X β σ s.heap → FRel X nm env ρ β s.heap →
    eL ms ρ σ = some (vs, σ') → D ∉ β → X.h₀.get? D = none → D ∉ fa env → KVS s.heap β acc rks → s.heap.DictAt (strKind X.prog X.w) D rks rks.length → rks.length + ks.length ≤ 1000 →
    wpAny (MM X) A (forIn (pairTrees ks es env pos) PUnit.unit fun (x : Sem Value × Sem Value) (_ : PUnit) => (do let kv ← x.1; let vv ← holding [kv] x.2; holding [kv, vv] (dictSet D kv vv); pure (ForInStep.yield PUnit.unit) : Sem (ForInStep PUnit)))
      (fun _ s' => ∃ β' rks', SRel X β' σ' s'.heap ∧ Grow [D] β s.heap β' s'.heap ∧ KVS s'.heap β' (putAll acc (ls.zip vs)) rks' ∧ s'.heap.DictAt (strKind X.prog X.w) D rks' rks'.length ∧ D ∉ β' ∧ Rest s s') NoE s := by
  induction hk generalizing es ms with
  | nil =>
    intro A env s β ρ σ vs σ' pos acc rks hl ad en S F e hD hb hF ha hd hsz
    cases he with
    | nil => apply so2 e; exact wpAny_pure ⟨β, rks, S, Grow.refl, ha, hd, hD, Rest.refl⟩
    | cons => simp at hl
  | cons hx hr ih =>
    rename_i x k p l r rs
    intro A env s β ρ σ vs σ' pos acc rks hl ad en S F e hD hb hF ha hd hsz
    cases he with
    | nil => simp at hl
    | cons h1 h2 =>
      rename_i e₀ m₀ es' ms'
      rw [eL] at e
      split at e
      · rename_i v σ₁ e1
        split at e
        · rename_i vs' σ₂ e2
          cases e
          rw [show pairTrees (some (.Constant (.str x) k p) :: r) (e₀ :: es') env pos = (eval (.Constant (.str x) k p) env, do let x ← eval e₀ env; standAt pos; pure x) :: pairTrees r es' env pos from rfl, List.forIn_cons]
          refine wpAny_bind (wpAny_bind (wpAny_Constant_str (env := env) (pos := p) (k := k) ?_))
          refine wpAny_bind (wpAny_holding (wpAny_bind (wpAny_mono (h1.run A env _ β ρ σ v σ₁ ad en S F e1) (fun rv s₁ q => ?_) fun _ _ x => x)))
          obtain ⟨β₁, S₁, g₁, v₁, r₁⟩ := q
          refine wpAny_bind (wpAny_standAt (wpAny_pure (wpAny_bind (wpAny_holding ?_))))
          have hdk : s₁.heap.DictAt (strKind X.prog X.w) D rks rks.length := hd.at' fun o e => g₁.keep D o e (.inl ⟨hD, fun m => nomatch m⟩)
          obtain ⟨o₀, ho₀⟩ := dict_alive hd
          have hD₁ : D ∉ β₁ := g₁.notin ho₀ hD
          have ha₁ := ha.mono g₁
          have nI : ∀ o, s₁.heap.get? D = some o → ¬ Imm o := fun o e => by
            obtain ⟨o', es, ho, _, q, _⟩ := hdk
            rw [ho] at e; cases e; simp [Imm, q]
          simp only [List.length_cons] at hsz hl
          refine dictSet_at (strKind_is _ _ x _) hdk (by rw [sizeLine_eq]; lia) fun h₁ hd₁ hs₁ => wpAny_pure ?_
          have hl₁ : ∃ o, h₁.get? D = some o := dict_alive hd₁
          have g : Grow [D] β₁ s₁.heap β₁ h₁ := Grow.change hs₁ (.inr (.head _)) nI hl₁
          have S₂ : SRel X β₁ σ₁ h₁ := S₁.other hs₁ hD₁ hb nI hl₁
          have F₂ : FRel X nm env ρ β₁ h₁ := (F.mono g₁).monoK g.toKeep fun a m => by rw [List.mem_singleton] at m; subst m; exact hF
          refine wpAny_mono (ih h2 A env { s₁ with heap := h₁, toks := s₁.toks + 1 } β₁ ρ σ₁ vs' σ' pos (put acc x.cps.toList v) _ (by lia) ad en S₂ F₂ e2 hD₁ hb hF ((ha₁.mono g).put (v₁.mono g) x hdk.nodup) hd₁ (by have := stored_len rks x rv; lia)) (fun _ s₂ q => ?_) fun _ _ x => x
          obtain ⟨β', rks', q1, q2, q3, q4, q5, q6⟩ := q
          subst hx
          exact ⟨β', rks', q1, (g₁.nil.trans g).trans q2, q3, q4, q5, ⟨(r₁.gens ▸ q6.gens), (r₁.os ▸ q6.os)⟩⟩
        · exact nosm e
      · exact nosm e
noncomputable def vDictS (ls : List (List Nat)) (vs : List V) (σ : H) : Option (V × H) := some (.ref σ.length, σ ++ [.dictS (putAll [] (ls.zip vs))])
theorem simE_dict (ok : X.Ok) {ks : List (Option Expr)} {ls : List (List Nat)} {es : List Expr} {ms : List Ex} {pos} (hk : StrKeys ks ls) (he : SimEs X d nm sc es ms) (hl : ks.length = es.length) (h0 : ks ≠ []) (hlen : ks.length < 17) :
    SimE X d nm sc (.Dict ks es pos) (eN (vDictS ls) ms) := .mk fun A env s β ρ σ v σ' ad en S F e => by
  unfold eN at e
  split at e
  · rename_i vs σ₁ e1
    apply so2 e
    have hpl := pairTrees_length ks es env pos hk.all hl
    rw [arm_eval_Dict, zip_pairTrees ks es env pos hk.all hl, dictDisplay_pairs (pairTrees ks es env pos) (fun q => h0 (by rw [q] at hpl; exact List.length_eq_zero_iff.mp hpl.symm)) (by lia)]
    refine wpAny_bind (wpAny_standAt (wpAny_bind ?_))
    have fr := size_fresh s.heap
    have hD : s.heap.objs.size ∉ β := fun m => by obtain ⟨o', e', _⟩ := S.alive m; rw [fr] at e'; cases e'
    have hb : X.h₀.get? s.heap.objs.size = none := by
      cases e : X.h₀.get? s.heap.objs.size with
      | none => rfl
      | some o => have := S.base _ o e; rw [fr] at this; exact nosm this
    have hbig : mainGlobals < s.heap.objs.size := by
      obtain ⟨o', _, _, ho, _⟩ := ok.top.g
      exact Heap.lt_size (S.base _ _ ho)
    have hF : s.heap.objs.size ∉ fa env := fun m => by obtain ⟨o, e, _⟩ := F.live _ m; rw [fr] at e; exact nosm e
    have hd₀ : (s.heap.push { cls := .type "dict", data := .dict #[] }).DictAt (strKind X.prog X.w) s.heap.objs.size [] 0 :=
      ⟨_, #[], Heap.get?_push_size _ rfl, ⟨rfl, rfl, rfl⟩, rfl, fun _ he => by simp at he, Pairs.nil, List.nodup_nil⟩
    have fin : ∀ (s' : Shared) (β' : List Addr) (rks : List (Str × Value)), SRel X β' σ₁ s'.heap → Grow [] β s.heap β' s'.heap → s.heap.objs.size ∉ β' → KVS s'.heap β' (putAll [] (ls.zip vs)) rks → s'.heap.DictAt (strKind X.prog X.w) s.heap.objs.size rks rks.length → Rest s s' →
        EPost X s β (.ref σ₁.length) (σ₁ ++ [.dictS (putAll [] (ls.zip vs))]) (.ref s.heap.objs.size) s' := fun s' β' rks S' G' hD' k d r =>
      ⟨β' ++ [s.heap.objs.size], S'.adopt hD' hb hbig ⟨rks, d, k⟩, G'.adopt fr, .ref (by rw [← S'.len]; simp), r⟩
    unfold subDict
    refine wpAny_bind (wpAny_alloc ?_)
    refine wpAny_bind (wpAny_holding ?_)
    have S₀ := S.push { cls := .type "dict", data := .dict #[] }
    have g₀ : ∀ {S' : List Addr}, Grow S' β s.heap β (s.heap.push { cls := .type "dict", data := .dict #[] }) := Grow.push _
    have F₀ := F.mono (g₀ (S' := []))
    by_cases hs : (pairTrees ks es env pos).length ≤ 15
    · rw [if_pos hs]
      refine wpAny_bind (wpAny_mono (evalPairs_ok hk he A env { s with heap := s.heap.push { cls := .type "dict", data := .dict #[] } } β ρ σ vs σ₁ pos hl ad en S₀ F₀ e1) (fun ps s₁ q => ?_) fun _ _ x => x)
      obtain ⟨β₁, S₁, g₁, p₁, r₁⟩ := q
      refine wpAny_holding ?_
      have hlp : ∀ {kvs : List (List Nat × V)} {ps : List (Value × Value)} {h : Heap}, PRels h β₁ kvs ps → ps.length = kvs.length := by
        intro kvs ps h q
        induction q with
        | nil => rfl
        | cons _ _ ih => simp [ih]
      have hd₁ : s₁.heap.DictAt (strKind X.prog X.w) s.heap.objs.size [] 0 := hd₀.at' fun o e => g₁.keep _ o e (.inl ⟨hD, fun m => nomatch m⟩)
      have hD₁ : s.heap.objs.size ∉ β₁ := g₁.notin (Heap.get?_push_size _ rfl) hD
      have nI : ∀ o, s₁.heap.get? s.heap.objs.size = some o → ¬ Imm o := fun o e => by
        obtain ⟨o', es, ho, _, q, _⟩ := hd₁
        rw [ho] at e; apply so1 e; simp [Imm, q]
      have hz : ps.length ≤ 16 := by
        rw [hlp p₁, List.length_zip]
        have := hk.len
        have := Nat.min_le_left ls.length vs.length
        lia
      refine wpAny_bind (storeAll_at (acc := []) (rks := []) p₁ .nil hd₁ (by simp; lia) nI fun h' rks' tk k' d' sb => wpAny_pure (wpAny_pure (wpAny_pure ?_)))
      have hl' : ∃ o, h'.get? s.heap.objs.size = some o := dict_alive d'
      exact fin _ β₁ rks' (S₁.other sb hD₁ hb nI hl') (((g₀ (S' := [])).trans g₁).but sb.extBut fr) hD₁ k' d' ⟨r₁.gens, r₁.os⟩
    · rw [if_neg hs]
      refine wpAny_bind (wpAny_rule ?_)
      refine wpAny_bind (wpAny_mono (longPairs_ok (D := s.heap.objs.size) hk he A env { s with heap := s.heap.push { cls := .type "dict", data := .dict #[] } } β ρ σ vs σ₁ pos [] [] hl ad en S₀ F₀ e1 hD hb hF .nil hd₀ (by simp; lia)) (fun _ s₁ q => ?_) fun _ _ x => x)
      obtain ⟨β₁, rks', S₁, G₁, k', d', hD₁, r₁⟩ := q
      refine wpAny_pure (wpAny_pure (wpAny_pure (fin _ β₁ rks' S₁ ?_ hD₁ k' d' ⟨r₁.gens, r₁.os⟩)))
      exact ((g₀ (S' := [s.heap.objs.size])).trans G₁).drop fun a m => by rw [List.mem_singleton] at m; subst m; exact .inr fr
  · exact nosm e
noncomputable def vEmpty (σ : H) : Option (V × H) := some (.ref σ.length, σ ++ [.dictI []])
@[irreducible] noncomputable def eEmpty : Ex := fun _ σ => vEmpty σ
theorem simE_empty (ok : X.Ok) {pos} : SimE X d nm sc (.Dict [] [] pos) eEmpty := .mk fun A env s β ρ σ v σ' ad en S F e => by
  unfold eEmpty at e
  apply so2 e
  refine wpAny_Dict_empty ?_
  refine ⟨β ++ [s.heap.objs.size], S.new' ok rfl fun h' e' g' => ⟨[], ⟨_, #[], e', ⟨rfl, rfl, rfl⟩, rfl, fun _ he => by simp at he, Pairs.nil, List.nodup_nil⟩, .nil⟩, Grow.pushNew _, .ref (by rw [← S.len]; simp), rfl, rfl⟩
end
end
section
section
variable {prog : Program} {w : World} {A : Around} {E : Value → Shared → Prop} {s : Shared}
theorem adjust_upto (b n : Nat) (hb : b ≤ n) : Builtin.Slice.sliceAdjust none (some (b : Int)) 1 (n : Int) = (0, (b : Int)) := by
  unfold Builtin.Slice.sliceAdjust
  have h1 : ¬ ((1 : Int) < 0) := by lia
  have h2 : ¬ ((b : Int) < 0) := by lia
  simp only [h1, h2, if_false]
  congr 1
  lia
theorem places_upto (b : Nat) : Builtin.Slice.slicePlaces 0 (b : Int) 1 = b := by
  unfold Builtin.Slice.slicePlaces
  have h1 : (1 : Int) > 0 := by lia
  simp only [h1, if_true, Int.ediv_one]
  split <;> lia
theorem sliceApplied_upto {sl : Addr} {b n : Nat} {u : Tok} {Q : Int × Int × Nat → Shared → Prop} (hs : s.heap.IsSliceOf sl .none (.int b u) .none) (hb : b ≤ n) (h : Q (0, 1, b) s) :
    wpAny (model prog w) A (Builtin.Slice.sliceApplied (.ref sl) (pure (n : Int))) Q E s := by
  obtain ⟨os, hos, hcs, hds⟩ := id hs
  unfold Builtin.Slice.sliceApplied Builtin.Slice.sliceFields
  refine wpAny_bind (wpAny_bind (wpAny_field hos hds (x := .none) rfl (wpAny_bind (wpAny_field hos hds (x := .int b u) rfl (wpAny_bind (wpAny_field hos hds (x := .none) rfl (wpAny_pure ?_)))))))
  refine wpAny_bind (slicePart_none ?_)
  show wpAny _ _ (if ((1 : Int) == 0) = true then _ else _) _ _ s
  rw [if_neg (by decide)]
  refine wpAny_bind (slicePart_none (wpAny_bind (slicePart_int (wpAny_bind (wpAny_pure ?_)))))
  show wpAny _ _ (match Builtin.Slice.sliceAdjust none (some (b : Int)) 1 (n : Int) with | (lo, hi) => pure (lo, (1 : Int), Builtin.Slice.slicePlaces lo hi 1)) _ _ s
  rw [adjust_upto b n hb]
  show wpAny _ _ (pure ((0 : Int), (1 : Int), Builtin.Slice.slicePlaces 0 (b : Int) 1)) _ _ s
  rw [places_upto b]
  exact wpAny_pure h
theorem pick_upto (xs : Array Value) (b : Nat) : ((List.range b).filterMap fun (k : Nat) => xs[((0 : Int) + (k : Int) * 1).toNat]?).toArray = (xs.toList.take b).toArray := by
  have e : (fun (k : Nat) => xs[((0 : Int) + (k : Int) * 1).toNat]?) = fun k => xs[0 + k]? := by
    funext k
    have : ((0 : Int) + (k : Int) * 1).toNat = 0 + k := by lia
    rw [this]
  rw [e]
  have := pick_run xs 0 b
  rw [List.filterMap_map] at this
  have e2 : ((fun x => xs[x]?) ∘ fun x => 0 + x) = fun k => xs[0 + k]? := rfl
  rw [e2] at this
  rw [this, List.drop_zero]
theorem getItem_tuple_upto {t sl : Addr} {items : Array Value} {b : Nat} {u : Tok} {Q : Value → Shared → Prop} (ht : IsTup s.heap t items) (hs : s.heap.IsSliceOf sl .none (.int b u) .none) (hb : b < items.size)
    (h : Q (.ref s.heap.objs.size) { s with heap := s.heap.push { cls := .type "tuple", data := .seq (items.toList.take b).toArray } })
    (hsz : items.size ≤ sizeLine := by size_fits) : wpAny (model prog w) A (getItem (.ref t) (.ref sl)) Q E s := by
  have hdrop : sizeOk (.seq (items.toList.take b).toArray) := by
    show (items.toList.take b).toArray.size ≤ sizeLine
    rw [List.size_toArray, List.length_take, Array.length_toList]
    lia
  obtain ⟨os, hos, hcs, hds⟩ := id hs
  have hTs : s.TypeIs (.ref sl) "slice" := ⟨os, hos, hcs⟩
  unfold getItem
  try with_reducible refine wpAny_holding ?_
  first | refine wpAny_bind (wpAny_pure ?_) | skip
  refine wpAny_bind (wpAny_sequenceKey ht.typeIs (by decide) ?_)
  refine wpAny_bind (wpAny_callSpecial?_slot (name := Str.ofString "__getitem__") ht.typeIs slot_tuple_getitem
    (wpAny_call_entry slot_tuple_getitem ht.typeIs entry_tuple_getitem ?_ (args_tuple_getitem _ _)))
  show wpAny _ _ (Builtin.Tuple.tupleItemsOf (.ref t) >>= _) _ _ s
  refine wpAny_bind (tupleItemsOf_ ht ?_)
  refine wpAny_bind (wpAny_typeOf hTs ?_)
  rw [if_pos (by decide)]
  refine wpAny_bind (sliceApplied_upto hs (Nat.le_of_lt hb) ?_)
  have hno : ¬ (((0 : Int) == 0 && (1 : Int) == 1 && b == items.size) = true) := by
    have : (b == items.size) = false := by rw [beq_eq_false_iff_ne]; lia
    rw [this]; simp
  show wpAny _ _ (if ((0 : Int) == 0 && (1 : Int) == 1 && b == items.size) = true then _ else _) _ _ s
  rw [if_neg hno, pick_upto items b]
  first
    | exact wpAny_bind (m := Builtin.Tuple.tupleExact _) (wpAny_newObj_type (wpAny_pure ⟨_, rfl, wpAny_pure h⟩) hdrop)
    | exact wpAny_bind (m := Builtin.Tuple.tupleExact _) (wpAny_newObj_type (wpAny_bind (wpAny_pure (wpAny_pure ⟨_, rfl, wpAny_pure h⟩))) hdrop)
    | exact wpAny_bind (wpAny_bind (m := Builtin.Tuple.tupleExact _) (wpAny_newObj_type (wpAny_pure (wpAny_pure ⟨_, rfl, wpAny_pure h⟩)) hdrop))
    | exact wpAny_bind (wpAny_bind (m := Builtin.Tuple.tupleExact _) (wpAny_newObj_type (wpAny_pure ⟨_, rfl, wpAny_pure h⟩) hdrop))
end
section
variable {X : Ctx} {d : Nat} {nm : List Str} {sc : Scope}
noncomputable def V.onTS {α : Type} (v : V) (g : List V → Option α) (h : List Nat → Option α) : Option α := V.casesOn (motive_1 := fun _ => Option α) v Option.none (fun _ => Option.none) (fun _ => Option.none) h g (fun _ => Option.none) (fun _ _ _ => Option.none) (fun _ => Option.none) Option.none
theorem V.onTS_e {α : Type} {r : α} {v : V} {g : List V → Option α} {h : List Nat → Option α} {P : V → Prop} (e : v.onTS g h = some r) (k : ∀ i, g i = some r → P (.tup i)) (k2 : ∀ i, h i = some r → P (.str i)) : P v := by
  induction v using V.casesOn <;> first | exact nosm e | exact k _ e | exact k2 _ e
noncomputable def vTake (b : Nat) (v : V) (σ : H) : Option (V × H) := v.onTS (fun vs => if b < vs.length ∧ vs.length ≤ 1000 then some (.tup (vs.take b), σ) else none) fun l => if b ≤ l.length ∧ l.length ≤ 1000 then some (.str (l.take b), σ) else none
noncomputable def vDrop (b : Nat) (v : V) (σ : H) : Option (V × H) := v.onT fun vs => if 1 ≤ b ∧ b ≤ vs.length ∧ vs.length ≤ 1000 then some (.tup (vs.drop b), σ) else none
noncomputable def vRev (v : V) (σ : H) : Option (V × H) := v.onR fun n => oL σ[n]? fun vs => if vs.length ≤ 1000 then some (.ref σ.length, σ ++ [.list vs.reverse]) else none
theorem EPost.tupNew {s β σ} {ws : List Value} {vs : List V} (S : SRel X β σ s.heap) {o : Obj} (vr : VRels s.heap β vs ws) :
    EPost X s β (.tup vs) σ (.ref (s.heap.push o).objs.size) { s with heap := (s.heap.push o).push { cls := .type "tuple", data := .seq ws.toArray } } :=
  ⟨β, (S.push o).push _, (Grow.push o).trans (Grow.push _), .tup ⟨_, Heap.get?_push_size _ rfl, rfl, _, rfl⟩ ((vr.mono (S := []) (Grow.push o)).mono (S := []) (Grow.push _)), rfl, rfl⟩
theorem take_tail {A : Around} {s : Shared} {β : List Addr} {σ σ' : H} {v u : V} {r : Value} {x : Str} {xp : Pos} {b : Nat} {tk : Tok} {sl : Expr} (S : SRel X β σ s.heap) (vr : VRel s.heap β v r) (e : vTake b v σ = some (u, σ'))
    (hs : ∀ o i : Value, subscripted sl false o i = operate [i, o] (getItem o i)) :
    wpAny (MM X) A (subscriptTail (.Name x xp) sl r (.ref s.heap.objs.size)) (EPost X s β u σ') NoE { s with heap := s.heap.push { cls := .type "slice", data := .fields #[.none, .int b tk, .none] } } := by
  unfold vTake at e
  revert vr; apply V.onTS_e e
  · intro vs e vr
    apply ife e; intro hb e; apply so2 e
    obtain ⟨a, ws, rfl, ht, hv⟩ := vr.list_inv
    have ht' : IsTup (s.heap.push { cls := .type "slice", data := .fields #[.none, .int b tk, .none] }) a ws.toArray := ht.push _
    have hl := hv.length
    refine subscriptTail_ops (s := { s with heap := s.heap.push { cls := .type "slice", data := .fields #[.none, .int b tk, .none] } }) ht'.typeIs slot_tuple_getitem.lookup (getItem_tuple_upto ht' (Heap.IsSliceOf.new ..) (by simp; lia) ?_ (by rw [sizeLine_eq]; simp; lia)) (hs _ _) (fun _ => rfl)
    exact EPost.tupNew S (hv.take b)
  · intro l e vr
    apply ife e; intro hb e; apply so2 e
    obtain ⟨y, t, rfl, rfl⟩ := vr.inv
    have hy : y.length ≤ 1000 ∧ b ≤ y.length := by simpa [Str.length, and_comm] using hb
    obtain ⟨T, id, h1, h2, h3⟩ := SBG.sliceItem_ns (prog := X.prog) (w := X.w) (A := A) (E := NoE) (Fm := fun s' => SRel X β σ s'.heap ∧ Grow [] β s.heap β s'.heap ∧ Rest s s') (s := s) (x := y) (t := t) (j := (b : Int)) (uj := tk) (Q := EPost X s β (.str (y.cps.toList.take b)) σ)
      (fun s' ob k q => ⟨q.1.push ob, q.2.1.trans (Grow.push ob), ⟨q.2.2.gens, q.2.2.os⟩⟩) ⟨S, Grow.refl, Rest.refl⟩ (fun s' t' q => by
        have hc := slice_closes_toL (x := y) (j := (b : Int)) (by lia) (by lia)
        have hc' := eq_of_beq hc
        have : (Txt.slice y none (some (b : Int))).cps.toList = y.cps.toList.take b := by rw [hc']; simp
        rw [← this]
        exact ⟨β, q.1, q.2.1, .str _ _, q.2.2⟩) (by rw [sizeLine_eq]; lia)
    exact subscriptTail_ops h2 h1 h3 (hs _ _) (fun _ => rfl)
theorem simE_take {x : Str} {b : Int} {n : Nat} {k xp cp sp pos} {m : Ex} (h : SimE X d nm sc (.Name x xp) m) (hb : b = (n : Int)) :
    SimE X d nm sc (.Subscript (.Name x xp) (.Slice none (some (.Constant (.int b) k cp)) none sp) pos) (e1 (vTake n) m) := .mk fun A env s β ρ σ v σ' ad en S F e => by
  subst hb
  refine Subscript_ ?_
  unfold e1 at e
  split at e
  · rename_i va σ₁ ea
    refine wpAny_mono (h.run A env s β ρ σ va σ₁ ad en S F ea) (fun ra s₁ p => ?_) fun _ _ x => x
    obtain ⟨β₁, S₁, g, vr, r⟩ := p
    refine wpAny_Slice (wpAny_pure (wpAny_Constant_int (env := env) (k := k) (pos := cp) (wpAny_pure ?_)))
    have S₂ : SRel X β₁ σ₁ ({ s₁ with toks := s₁.toks + 1 } : Shared).heap := S₁
    refine wpAny_mono (take_tail (s := { s₁ with toks := s₁.toks + 1 }) (x := x) (xp := xp) S₂ vr e (fun _ _ => rfl)) (fun _ _ p => ?_) fun _ _ x => x
    obtain ⟨β₃, a1, a2, a3, a4⟩ := p
    exact ⟨β₃, a1, g.trans a2, a3, ⟨a4.gens.trans r.gens, a4.os.trans r.os⟩⟩
  · exact nosm e
theorem simE_drop {x : Str} {b : Int} {n : Nat} {k xp cp sp pos} {m : Ex} (h : SimE X d nm sc (.Name x xp) m) (hb : b = (n : Int)) :
    SimE X d nm sc (.Subscript (.Name x xp) (.Slice (some (.Constant (.int b) k cp)) none none sp) pos) (e1 (vDrop n) m) := .mk fun A env s β ρ σ v σ' ad en S F e => by
  subst hb
  refine Subscript_ ?_
  unfold e1 at e
  split at e
  · rename_i va σ₁ ea
    refine wpAny_mono (h.run A env s β ρ σ va σ₁ ad en S F ea) (fun ra s₁ p => ?_) fun _ _ x => x
    obtain ⟨β₁, S₁, g, vr, r⟩ := p
    refine wpAny_Slice (wpAny_Constant_int (env := env) (k := k) (pos := cp) (wpAny_pure (wpAny_pure ?_)))
    unfold vDrop at e
    revert vr; apply V.onT_e e
    · intro vs e vr
      apply ife e; intro hb e; apply so2 e
      obtain ⟨a, ws, rfl, ht, hv⟩ := vr.list_inv
      have S₂ : SRel X β₁ σ₁ ({ s₁ with toks := s₁.toks + 1 } : Shared).heap := S₁
      have ht' : IsTup (s₁.heap.push { cls := .type "slice", data := .fields #[.int n s₁.toks, .none, .none] }) a ws.toArray := ht.push _
      have hl := hv.length
      refine subscriptTail_ops (s := { s₁ with heap := s₁.heap.push { cls := .type "slice", data := .fields #[.int n s₁.toks, .none, .none] }, toks := s₁.toks + 1 }) ht'.typeIs slot_tuple_getitem.lookup (getItem_tuple_from ht' (Heap.IsSliceOf.new ..) hb.1 (by simp; lia) ?_ (by rw [sizeLine_eq]; simp; lia)) (by rfl) (fun _ => rfl)
      obtain ⟨β₃, a1, a2, a3, a4⟩ := EPost.tupNew (s := { s₁ with toks := s₁.toks + 1 }) (o := { cls := .type "slice", data := .fields #[.int n s₁.toks, .none, .none] }) S₂ (hv.drop n)
      exact ⟨β₃, a1, g.trans a2, a3, ⟨a4.gens.trans r.gens, a4.os.trans r.os⟩⟩
  · exact nosm e
theorem simE_rev (ok : X.Ok) {x : Str} {k xp cp up sp pos} {m : Ex} (h : SimE X d nm sc (.Name x xp) m) :
    SimE X d nm sc (.Subscript (.Name x xp) (.Slice none none (some (.UnaryOp .USub (.Constant (.int 1) k cp) up)) sp) pos) (e1 vRev m) := .mk fun A env s β ρ σ v σ' ad en S F e => by
  refine Subscript_ ?_
  unfold e1 at e
  split at e
  · rename_i va σ₁ ea
    refine wpAny_mono (h.run A env s β ρ σ va σ₁ ad en S F ea) (fun ra s₁ p => ?_) fun _ _ x => x
    obtain ⟨β₁, S₁, g, vr, r⟩ := p
    refine wpAny_Slice (wpAny_pure (wpAny_pure (wpAny_UnaryOp (env := env) (pos := up) (wpAny_Constant_int (env := env) (k := k) (pos := cp) (P.neg_int ?_)))))
    unfold vRev at e
    revert vr; apply V.onR_e e; intro n e vr
    · apply oL_e e; intro vs hvs e
      · apply ife e; intro hb e; apply so2 e
        apply vr.a; intro a hn
        obtain ⟨ws, kk, hl, hr⟩ := S₁.obj _ _ _ hvs hn
        have hlen := hr.length
        have hl' := (isList_of hl).push { cls := .type "slice", data := .fields #[.none, .none, .int (-1) (s₁.toks + 1)] }
        refine subscriptTail_ops (s := { s₁ with heap := s₁.heap.push { cls := .type "slice", data := .fields #[.none, .none, .int (-1) (s₁.toks + 1)] }, toks := s₁.toks + 1 + 1 }) hl'.typeIs list_getitem_lookup
          (wpAny_getItem_list_slice hl' (Heap.IsSliceOf.new ..) .none .none (.int _ _) (by simp) ?_ (by rw [sizeLine_eq]; simp; lia)) (by rfl) (fun _ => rfl)
        rw [krv_pick]
        have S₂ := S₁.push { cls := .type "slice", data := .fields #[.none, .none, .int (-1) (s₁.toks + 1)] }
        have hr₂ := hr.mono (S := []) (Grow.push (S := []) (h := s₁.heap) { cls := .type "slice", data := .fields #[.none, .none, .int (-1) (s₁.toks + 1)] })
        obtain ⟨β₃, a1, a2, a3, a4⟩ := EPost.new ok (s := { s₁ with heap := s₁.heap.push { cls := .type "slice", data := .fields #[.none, .none, .int (-1) (s₁.toks + 1)] }, toks := s₁.toks + 1 + 1 }) (mo := .list vs.reverse)
          (o := { cls := .type "list", data := .seq ws.toArray.toList.reverse.toArray }) S₂ rfl (fun h' e' g' => ⟨ws.reverse, _, by simpa using e', (hr₂.mono g').reverse⟩) (k := s₁.toks + 1 + 1)
        exact ⟨β₃, a1, (g.trans (Grow.push _)).trans a2, a3, ⟨a4.gens.trans r.gens, a4.os.trans r.os⟩⟩
  · exact nosm e
end
end
section
section
variable {X : Ctx} {d : Nat} {nm : List Str} {sc : Scope}
theorem SRel.sys {β σ h} (S : SRel X β σ h) {a : Addr} (m : a ∈ β) : (a == sysModules) = false := by
  simp only [beq_eq_false_iff_ne]
  have : sysModules < mainGlobals := by decide
  exact Nat.ne_of_gt (Nat.lt_trans this (S.big a m))
theorem EPost.made' (ok : X.Ok) {s : Shared} {β σ} (S : SRel X β σ s.heap) {h' : Heap} {D : Addr} (hk : ∀ b o, s.heap.get? b = some o → h'.get? b = some o) {mo : MO} (fr : s.heap.get? D = none) (hbig : mainGlobals < D) (ho : ORel X h' β mo D) {tk : Nat} :
    EPost X s β (.ref σ.length) (σ ++ [mo]) (.ref D) { s with heap := h', toks := tk } := by
  have hb : X.h₀.get? D = none := by
    cases e : X.h₀.get? D with
    | none => rfl
    | some o => have := S.base _ o e; rw [fr] at this; exact nosm this
  have hm : D ∉ β := fun m => by obtain ⟨o', e', _⟩ := S.alive m; rw [fr] at e'; cases e'
  exact ⟨β ++ [D], (S.ext hk).adopt hm hb hbig ho, (Grow.ext hk).adopt fr, .ref (by rw [← S.len]; simp), rfl, rfl⟩
theorem EPost.made (ok : X.Ok) {s : Shared} {β σ} (S : SRel X β σ s.heap) {h' : Heap} {D : Addr} (hk : ∀ b o, s.heap.get? b = some o → h'.get? b = some o) {mo : MO} (hD : s.heap.objs.size ≤ D) (ho : ORel X h' β mo D) {tk : Nat} :
    EPost X s β (.ref σ.length) (σ ++ [mo]) (.ref D) { s with heap := h', toks := tk } := by
  have fr : s.heap.get? D = none := by
    cases e : s.heap.get? D with
    | none => rfl
    | some o => exact absurd (Heap.lt_size e) (Nat.not_lt.mpr hD)
  have hbig : mainGlobals < D := by
    obtain ⟨o', _, _, ho, _⟩ := ok.top.g
    exact Nat.lt_of_lt_of_le (Heap.lt_size (S.base _ _ ho)) hD
  exact .made' ok S hk fr hbig ho
noncomputable def vLen (vs : List V) (σ : H) : Option (V × H) := l1 vs fun v => v.onRS (fun n => oLI σ[n]? (fun vs => if vs.length ≤ 100000 then some (.int vs.length, σ) else none) fun kvs => if kvs.length ≤ 100000 then some (.int kvs.length, σ) else none)
  fun l => if l.length ≤ 100000 then some (.int l.length, σ) else none
theorem len_ok : VOpN X d (fun rs => call (.builtin "len") rs []) vLen := fun A s β σ vs rs w σ' ad S vr e => by
  unfold vLen at e
  revert vr; apply l1_e e; intro v e vr
  apply vr.c1; intro _ v1; clear vr
  revert v1; apply V.onRS_e e
  · intro n e v1
    apply v1.a; intro a hn
    apply oLI_e e
    · intro vs hvs e
      apply ife e; intro hb e; apply so2 e
      obtain ⟨ws, k, hl, hr⟩ := S.obj _ _ _ hvs hn
      have hlen := hr.length
      refine Calls.call_len_list (isList_of hl) (by simp; lia) ?_
      have : (ws.toArray.size : Int) = vs.length := by simp [hlen]
      rw [this]
      exact .same S (.int _ _)
    · intro kvs hk e
      apply ife e; intro hb e; apply so2 e
      obtain ⟨rks, hd, hr⟩ := S.obj _ _ _ hk hn
      have hlen := hr.length
      refine PySem.call_len_dict (S.sys (List.mem_of_getElem? hn)) hd.dictOf (by lia) ?_
      rw [← hlen]
      exact .same S (.int _ _)
  · intro l e v1
    obtain ⟨x, t, rfl, rfl⟩ := v1.inv
    apply ife e; intro hb e; apply so2 e
    have : (x.length : Int) = x.cps.toList.length := by simp [Str.length]
    refine P.len_str (by lia) ?_
    rw [this]
    exact .same S (.int _ _)
noncomputable def vRange (vs : List V) (σ : H) : Option (V × H) := l123 vs (fun x => x.onI fun n => if n ≤ 100000 ∧ -100000 ≤ n then some (.range 0 n 1, σ) else none)
  (fun x y => x.onI fun a => y.onI fun b => some (.range a b 1, σ))
  fun x y z => x.onI fun a => y.onI fun b => z.onI fun c => if c = -1 ∧ (b - a).natAbs ≤ 100000 then some (.range a b c, σ) else none
theorem EPost.rng {s : Shared} {β σ} (S : SRel X β σ s.heap) {a b c : Int} {t u v : Tok} {tk : Nat} : EPost X s β (.range a b c) σ (.ref s.heap.objs.size) { s with heap := s.heap.push { cls := .type "range", data := .fields #[.int a t, .int b u, .int c v] }, toks := tk } :=
  ⟨β, S.push _, Grow.push _, .range (Heap.get?_push_size _ rfl), rfl, rfl⟩
theorem range_ok : VOpN X d (fun rs => call (.type "range") rs []) vRange := fun A s β σ vs rs w σ' ad S vr e => by
  unfold vRange at e
  revert vr; apply l123_e e
  · intro x e; apply V.onI_e e; intro n e vr
    apply ife e; intro _ e; apply so2 e
    apply vr.c1; intro _ v1
    (apply v1.i; intro _)
    exact call_range_1 (.rng S)
  · intro x y e; apply V.onI_e e; intro n e; apply V.onI_e e; intro m e vr
    apply so2 e
    apply vr.c2; intro _ _ v1 v2
    (apply v1.i; intro _)
    (apply v2.i; intro _)
    exact call_range_2 (.rng S)
  · intro x y z e; apply V.onI_e e; intro n e; apply V.onI_e e; intro m e; apply V.onI_e e; intro k e vr
    apply ife e; intro hc e; apply so2 e
    apply vr.c3; intro _ _ _ v1 v2 v3
    (apply v1.i; intro _)
    (apply v2.i; intro _)
    (apply v3.i; intro _)
    obtain ⟨rfl, hz⟩ := hc
    exact call_range_3 (by decide) (.rng S) (Or.inl (PyProof.noPylong_small (by lia)))
noncomputable def vListOf (vs : List V) (σ : H) : Option (V × H) := l1 vs fun v => (itemsOf v σ).bind fun p => if p.2.length ≤ 100000 then some (.ref σ.length, σ ++ [.list p.2]) else none
theorem VRels.of_get {h β} : ∀ {vs : List V} {ws : List Value}, vs.length = ws.length → (∀ (i : Nat) (v : V), vs[i]? = some v → ∀ w : Value, ws[i]? = some w → VRel h β v w) → VRels h β vs ws
  | [], [], _, _ => .nil
  | [], _ :: _, h, _ => by simp at h
  | _ :: _, [], h, _ => by simp at h
  | v :: vs, w :: ws, h, q => .cons (q 0 v rfl w rfl) (VRels.of_get (by simpa using h) fun i v' e w' e' => q (i + 1) v' (by simpa using e) w' (by simpa using e'))
theorem KVI.get {h β} {kvs : List (Int × V)} {rks : List (Int × Value)} (x : KVI h β kvs rks) : ∀ {i : Nat} {p}, kvs[i]? = some p → ∃ r, rks[i]? = some (p.1, r) ∧ VRel h β p.2 r := by
  induction x with
  | nil => intro i p e; exact nosm e
  | cons x _ ih =>
    intro i p e
    induction i using Nat.casesOn with
    | zero => apply so1 e; exact ⟨_, rfl, x⟩
    | succ i => exact ih (i := i) e
theorem intKind_inv {k : Int} {v : Value} (h : (intKind X.prog X.w).is k v = true) : ∃ t, v = .int k t := by
  have h' : v.isInt k = true := h
  unfold Value.isInt at h'
  split at h'
  · rename_i j t
    exact ⟨t, by rw [beq_iff_eq.mp h']⟩
  · cases h'
theorem listOf_ok (ok : X.Ok) : VOpN X d (fun rs => call (.type "list") rs []) vListOf := fun A s β σ vs rs w σ' ad S vr e => by
  unfold vListOf at e
  revert vr; apply l1_e e; intro v e vr
  · apply vr.c1; intro _ v1; clear vr
    apply obe e; intro p ei e
    · apply ife e; intro hb e; apply so2 e
      obtain ⟨kd, items⟩ := p
      cases v1 with
      | ref hn =>
        rename_i n a
        unfold itemsOf at ei
        simp only at ei
        split at ei <;> simp at ei
        · rename_i vs hvs
          obtain ⟨rfl, rfl⟩ := ei
          obtain ⟨ws, k, hl, hr⟩ := S.obj _ _ _ hvs hn
          have hlen := hr.length
          refine call_list_seq a (.inl rfl) hl rfl rfl (fun h' c' hk hD => ?_) (by rw [sizeLine_eq]; simp; lia)
          exact EPost.made ok S hk (Nat.le_refl _) (mo := .list _) ⟨ws, c', hD, hr.mono (S := []) (Grow.ext hk)⟩
        · rename_i kvs hkvs
          obtain ⟨rfl, rfl⟩ := ei
          obtain ⟨rks, hd, hr⟩ := S.obj _ _ _ hkvs hn
          have hlen := hr.length
          simp only [List.length_map] at hb
          refine kdl_call (kdl_dict (knd := intKind X.prog X.w) (kvs := rks) (ep := rks.length) (S.sys (List.mem_of_getElem? hn))) ad.handled hd (by rw [sizeLine_eq]; lia) fun h' tk acc' c' hk hD hacc => ?_
          refine EPost.made ok S hk (Nat.le_refl _) (mo := .list _) ⟨acc'.toList, c', by simpa using hD, VRels.of_get (by simp [hlen, hacc.1]) fun i v e w e' => ?_⟩
          rw [List.getElem?_map] at e
          cases q : kvs[i]? with
          | none => rw [q] at e; simp at e
          | some p =>
            rw [q] at e; simp at e; subst e
            obtain ⟨r, h1, h2⟩ := hr.get q
            obtain ⟨k, x, h3, h4⟩ := hacc.2 i w (by rw [← Array.getElem?_toList]; exact e')
            rw [h1] at h3; cases h3
            obtain ⟨t, rfl⟩ := intKind_inv h4
            exact .int _ _
      | tup ht hv =>
        simp [itemsOf] at ei
        obtain ⟨rfl, rfl⟩ := ei
        obtain ⟨o, ho, hc, n, hd⟩ := ht
        have hlen := hv.length
        refine call_list_seq _ (.inr rfl) ho hc hd (fun h' c' hk hD => ?_) (by rw [sizeLine_eq]; simp; lia)
        exact EPost.made ok S hk (Nat.le_refl _) (mo := .list _) ⟨_, c', hD, hv.mono (S := []) (Grow.ext hk)⟩
      | range hr =>
        rename_i a b c ta tb tc r
        unfold itemsOf at ei
        simp only at ei
        split at ei <;> simp at ei
        rename_i hsm
        obtain ⟨rfl, rfl⟩ := ei
        rw [rItems_len] at hb
        have hn : (0 : Int) ≤ Builtin.Range.rangeSize a b c := by
          unfold Builtin.Range.rangeSize
          split
          · split
            · rename_i h1 h2
              have := Int.ediv_nonneg (a := b - a - 1) (b := c) (by lia) (by lia)
              lia
            · lia
          · split
            · rename_i h1 h2
              have := Int.ediv_nonneg (a := a - b - 1) (b := -c) (by lia) (by lia)
              lia
            · lia
        refine call_list_range (n := (Builtin.Range.rangeSize a b c).toNat) ad.handled hr hsm (by lia) (by lia) fun h' tk acc' c' hk hD hacc => ?_
        refine EPost.made ok S hk (Nat.le_refl _) (mo := .list _) ⟨acc'.toList, c', by simpa using hD, VRels.of_get (by simp [rItems_len, hacc.1]) fun i v e w e' => ?_⟩
        have hi := (List.getElem?_eq_some_iff.mp e).1
        rw [rItems_len] at hi
        rw [rItems_get c _ i a hi] at e
        apply so1 e
        obtain ⟨t, rfl⟩ := hacc.2 i w (by rw [← Array.getElem?_toList]; exact e')
        rw [Int.mul_comm]
        exact .int _ _
      | vals hn hv =>
        rename_i n a r
        unfold itemsOf at ei
        simp only at ei
        split at ei <;> simp at ei
        rename_i kvs hkvs
        obtain ⟨rfl, rfl⟩ := ei
        obtain ⟨rks, hd, hr⟩ := S.obj _ _ _ hkvs hn
        have hlen := hr.length
        simp only [List.length_map] at hb
        refine kdl_call (kdl_values (knd := intKind X.prog X.w) (kvs := rks) (ep := rks.length)) ad.handled ⟨hv, hd⟩ (by rw [sizeLine_eq]; lia) fun h' tk acc' c' hk hD hacc => ?_
        refine EPost.made ok S hk (Nat.le_refl _) (mo := .list _) ⟨acc'.toList, c', by simpa using hD, VRels.of_get (by simp [hlen, hacc.1]) fun i v e w e' => ?_⟩
        rw [List.getElem?_map] at e
        cases q : kvs[i]? with
        | none => rw [q] at e; simp at e
        | some p =>
          rw [q] at e; simp at e; subst e
          obtain ⟨r, h1, h2⟩ := hr.get q
          obtain ⟨k, h3⟩ := hacc.2 i w (by rw [← Array.getElem?_toList]; exact e')
          rw [h1] at h3; apply so2 h3
          exact h2.mono (S := []) (Grow.ext hk)
      | _ => exact nosm ei
noncomputable def vTupleOf (vs : List V) (σ : H) : Option (V × H) := l1 vs fun v => v.onR fun n => oL σ[n]? fun vs => if vs.length ≤ 1000 then some (.tup vs, σ) else none
theorem tupleOf_ok : VOpN X d (fun rs => call (.type "tuple") rs []) vTupleOf := fun A s β σ vs rs w σ' ad S vr e => by
  unfold vTupleOf at e
  revert vr; apply l1_e e; intro v e; apply V.onR_e e; intro n e vr
  · apply vr.c1; intro _ v1
    apply v1.a; intro a hn
    apply oL_e e; intro vs hvs e
    · apply ife e; intro hb e; apply so2 e
      obtain ⟨ws, k, hl, hr⟩ := S.obj _ _ _ hvs hn
      have hlen := hr.length
      refine call_tuple_list (isList_of hl) (fun h' hk => ?_) (by rw [sizeLine_eq]; simp; lia)
      have g : Grow [] β s.heap β h' := Grow.ext hk
      exact ⟨β, (S.ext hk).push _, g.trans (Grow.push _), .tup ⟨_, Heap.get?_push_size _ rfl, rfl, _, rfl⟩ ((hr.mono g).mono (S := []) (Grow.push _)), rfl, rfl⟩
noncomputable def vMax (vs : List V) (σ : H) : Option (V × H) := l2 vs fun x y => x.onI fun a => y.onI fun b => some (.int (if b > a then b else a), σ)
theorem max_ok : VOpN X d (fun rs => call (.builtin "max") rs []) vMax := fun A s β σ vs rs w σ' ad S vr e => by
  unfold vMax at e
  revert vr; apply l2_e e; intro x y e; apply V.onI_e e; intro a e; apply V.onI_e e; intro b e vr
  · apply so2 e
    apply vr.c2; intro _ _ v1 v2
    (apply v1.i; intro _)
    (apply v2.i; intro _)
    refine PySem.max_two_ints ad.handled fun h' tk hk => ?_
    split
    · exact ⟨β, S.ext hk, Grow.ext hk, .int _ _, rfl, rfl⟩
    · exact ⟨β, S.ext hk, Grow.ext hk, .int _ _, rfl, rfl⟩
noncomputable def strOfInt (a : Int) : List Nat := (Str.ofString (toString a)).cps.toList
noncomputable def vStr (vs : List V) (σ : H) : Option (V × H) := l1 vs fun x => x.onI fun a => if a.natAbs < 100000 then some (.str (strOfInt a), σ) else none
theorem str_ok : VOpN X d (fun rs => call (.type "str") rs []) vStr := fun A s β σ vs rs w σ' ad S vr e => by
  unfold vStr at e
  revert vr; apply l1_e e; intro x e; apply V.onI_e e; intro a e vr
  · apply ife e; intro hb e; apply so2 e
    apply vr.c1; intro _ v1
    apply v1.i; intro t
    exact str_of_int_fit (N := 100000) (by split <;> lia) (by decide) fun _ => .same S (.str _ _)
noncomputable def vRepr (vs : List V) (σ : H) : Option (V × H) := l1 vs fun v => v.onR fun n => (toD 15 σ (.ref n)).bind fun dd => if dd.showable = true ∧ dd.canLay0 = true ∧ dd.shown.length ≤ 100000 then some (.str dd.shown.cps.toList, σ) else none
theorem repr_ok : VOpN X d (fun rs => call (.builtin "repr") rs []) vRepr := fun A s β σ vs rs w σ' ad S vr e => by
  unfold vRepr at e
  revert vr; apply l1_e e; intro v e; apply V.onR_e e; intro n e vr
  · apply obe e; intro dd hdd e
    · apply ife e; intro hb e; apply so2 e
      apply vr.c1; intro _ v1
      obtain ⟨as, q⟩ := reads_toD S _ _ _ _ v1 hdd
      have hdep := depth_toD _ _ _ hdd
      have := ad.room64
      obtain ⟨a, rfl, hn⟩ := v1.ref_inv
      refine repr_of_reads' q hb.1 (fun q => by rw [PyData.hasDict_of_canLay _ hb.2.1] at q; cases q) ad.guards (by lia) (fun _ _ e => e) (fun h' u tk hk => ?_) (by rw [sizeLine_eq]; lia)
      exact ⟨β, S.ext hk, Grow.ext hk, .str _ _, rfl, rfl⟩
noncomputable def ins (a : Int) : List Int → List Int
  | [] => [a]
  | b :: r => if a ≤ b then a :: b :: r else b :: ins a r
noncomputable def isort : List Int → List Int
  | [] => []
  | a :: r => ins a (isort r)
theorem ins_perm (a : Int) : ∀ l : List Int, (ins a l).Perm (a :: l)
  | [] => .refl _
  | b :: r => by
    unfold ins
    split
    · exact .refl _
    · exact ((ins_perm a r).cons b).trans (.swap ..)
theorem isort_perm : ∀ l : List Int, (isort l).Perm l
  | [] => .refl _
  | a :: r => (ins_perm a _).trans ((isort_perm r).cons a)
theorem ins_sorted (a : Int) : ∀ l : List Int, l.Pairwise (· ≤ ·) → (ins a l).Pairwise (· ≤ ·)
  | [], _ => by simp [ins]
  | b :: r, h => by
    unfold ins
    split
    · rename_i hab
      refine List.pairwise_cons.mpr ⟨fun x hx => ?_, h⟩
      rcases List.mem_cons.mp hx with rfl | hx
      · exact hab
      · exact Int.le_trans hab ((List.pairwise_cons.mp h).1 x hx)
    · rename_i hab
      refine List.pairwise_cons.mpr ⟨fun x hx => ?_, ins_sorted a r (List.pairwise_cons.mp h).2⟩
      rcases List.mem_cons.mp ((ins_perm a r).mem_iff.mp hx) with rfl | hx
      · lia
      · exact (List.pairwise_cons.mp h).1 x hx
theorem isort_sorted : ∀ l : List Int, (isort l).Pairwise (· ≤ ·)
  | [] => .nil
  | a :: r => ins_sorted a _ (isort_sorted r)
theorem sorted_unique : ∀ {a b : List Int}, a.Perm b → a.Pairwise (· ≤ ·) → b.Pairwise (· ≤ ·) → a = b
  | [], b, p, _, _ => (List.nil_perm.mp p).symm
  | x :: a, [], p, _, _ => absurd p.length_eq (by simp)
  | x :: a, y :: b, p, ha, hb => by
    have h1 : x ≤ y := by
      rcases List.mem_cons.mp (p.mem_iff.mpr (List.mem_cons_self (a := y) (l := b))) with e | e
      · lia
      · exact (List.pairwise_cons.mp ha).1 y e
    have h2 : y ≤ x := by
      rcases List.mem_cons.mp (p.mem_iff.mp (List.mem_cons_self (a := x) (l := a))) with e | e
      · lia
      · exact (List.pairwise_cons.mp hb).1 x e
    have : x = y := by lia
    subst this
    rw [sorted_unique ((List.perm_cons x).mp p) (List.pairwise_cons.mp ha).2 (List.pairwise_cons.mp hb).2]
theorem sorted_isort {a l : List Int} (p : a.Perm l) (h : a.Pairwise (· ≤ ·)) : a = isort l := sorted_unique (p.trans (isort_perm l).symm) h (isort_sorted l)
noncomputable def intsOf : List V → Option (List Int)
  | [] => some []
  | .int i :: r => match intsOf r with
    | some is => some (i :: is)
    | none => none
  | _ :: _ => none
noncomputable def vSorted (vs : List V) (σ : H) : Option (V × H) := l1 vs fun v => v.onR fun n => oLI σ[n]? (fun vs => (intsOf vs).bind fun is => if is.length ≤ 60 then some (.ref σ.length, σ ++ [.list ((isort is).map .int)]) else none)
  fun kvs => if kvs.length ≤ 60 then some (.ref σ.length, σ ++ [.list ((isort (kvs.map (·.1))).map .int)]) else none
theorem intsAre_of {h β} {vs : List V} {ws : List Value} (x : VRels h β vs ws) : ∀ {is : List Int}, intsOf vs = some is → IntsAre ws is := by
  refine x.ind (P := fun vs ws => ∀ {is : List Int}, intsOf vs = some is → IntsAre ws is) (fun {_} e => by apply so1 e; exact .nil) fun {v r vs rs} a _ ih is e => ?_
  induction v using V.casesOn with
  | int i =>
    obtain ⟨tk, rfl⟩ := a.inv
    unfold intsOf at e
    split at e
    · rename_i is' h'
      apply so1 e
      exact .cons _ _ (ih h')
    · exact nosm e
  | _ => exact nosm e
theorem rels_of_ints {h β} {ws : List Value} {is : List Int} (x : IntsAre ws is) : VRels h β (is.map .int) ws := by
  induction x with
  | nil => exact .nil
  | cons _ _ _ ih => exact .cons (.int _ _) ih
theorem sorted_ok (ok : X.Ok) : VOpN X d (fun rs => call (.builtin "sorted") rs []) vSorted := fun A s β σ vs rs w σ' ad S vr e => by
  unfold vSorted at e
  revert vr; apply l1_e e; intro v e; apply V.onR_e e; intro n e vr
  · apply vr.c1; intro _ v1
    apply v1.a; intro a hn
    apply oLI_e e
    · intro vs hvs e
      · apply obe e; intro is his e
        apply ife e; intro hb e; apply so2 e
        obtain ⟨ws, k, hl, hr⟩ := S.obj _ _ _ hvs hn
        have hI := intsAre_of hr his
        have hlen := hI.length
        refine sorted_ints (isList_of hl) hI (by lia) fun out ns' a1 a2 a3 => ?_
        obtain ⟨e, he⟩ := sortedAll_at s.heap ws out
        have := sorted_isort a2 a3
        subst this
        exact EPost.made ok S (fun _ _ => sortedAll_old) (Nat.le_succ _) (mo := .list _) ⟨out.toList, e, by simpa [seqObj, W.listOf] using he, rels_of_ints a1⟩ (tk := s.toks)
    · intro kvs hkvs e
      apply ife e; intro hb e; apply so2 e
      obtain ⟨rks, hd, hr⟩ := S.obj _ _ _ hkvs hn
      have hlen := hr.length
      refine Calls.call_function_entry kind_sorted plain_sorted entry_sorted (args_sorted1 _) ?_
      unfold Builtin.«sorted»
      refine wpAny_bind (m := checkCount "sorted" 1 1 _) (wpAny_pure ?_)
      refine wpAny_bind (kdu_collect (A := A.in1) (kdl_dict (knd := intKind X.prog X.w) (kvs := rks) (ep := rks.length) (S.sys (List.mem_of_getElem? hn))) ad.handled hd (by rw [sizeLine_eq]; lia) fun h' tk acc hk hacc => ?_)
      have hI : IntsAre acc.toList (kvs.map (·.1)) := by
        have key : ∀ {ws : List Value} {is : List Int}, ws.length = is.length → (∀ (i : Nat) (w : Value), ws[i]? = some w → ∀ k, is[i]? = some k → ∃ t, w = .int k t) → IntsAre ws is := by
          intro ws
          induction ws with
          | nil => intro is h _; induction is using List.casesOn with | nil => exact .nil | cons => simp at h
          | cons w ws ih =>
            intro is h q
            induction is using List.casesOn with
            | nil => simp at h
            | cons k is =>
              obtain ⟨t, rfl⟩ := q 0 w rfl k rfl
              exact .cons _ _ (ih (by simpa using h) fun i w' e k' e' => q (i + 1) w' (by simpa using e) k' (by simpa using e'))
        refine key (by simp [hlen, hacc.1]) fun i w e k e' => ?_
        rw [List.getElem?_map] at e'
        cases q : kvs[i]? with
        | none => rw [q] at e'; simp at e'
        | some p =>
          rw [q] at e'; simp at e'; subst e'
          obtain ⟨r, h1, h2⟩ := hr.get q
          obtain ⟨k', x, h3, h4⟩ := hacc.2 i w (by rw [← Array.getElem?_toList]; exact e)
          rw [h1] at h3; cases h3
          exact intKind_inv h4
      have hl : acc.toList.length = rks.length := by rw [Array.length_toList]; exact hacc.1
      refine wpAny_bind (wpAny_newList ?_ (by rw [hl, sizeLine_eq]; lia))
      have hoL : (h'.push (seqObj "list" acc.toList.toArray 0)).get? h'.objs.size = some (seqObj "list" acc.toList.toArray 0) := Heap.get?_push_size _ rfl
      refine wpAny_bind (wpAny_holding (wpAny_call_entry (s := { s with heap := h'.push (seqObj "list" acc.toList.toArray 0), toks := tk }) slot_list_sort ⟨_, hoL, rfl⟩ entry_list_sort (list_sort_tree hoL hI (by lia) fun out ns' a1 a2 a3 => ⟨_, rfl, ?_⟩) (args_list_sort _)))
      have := sorted_isort a2 a3
      subst this
      obtain ⟨e, he⟩ := sortedHeap_at (out := out) hoL
      refine wpAny_pure ⟨_, rfl, ?_⟩
      have hfr : s.heap.get? h'.objs.size = none := by
        cases e : s.heap.get? h'.objs.size with
        | none => rfl
        | some o => have := hk _ _ e; rw [size_fresh] at this; exact nosm this
      have hbig : mainGlobals < h'.objs.size := by
        obtain ⟨o', _, _, ho, _⟩ := ok.top.g
        exact Heap.lt_size (hk _ _ (S.base _ _ ho))
      exact EPost.made' ok S (fun b o e => by
        have hb := Heap.lt_size (hk b o e)
        rw [sortedHeap_old (Nat.ne_of_lt hb) (by rw [size_push']; exact Nat.lt_succ_of_lt hb)]
        exact Heap.get?_push_of_some _ (hk b o e)) hfr hbig (mo := .list _) ⟨out.toList, e, by simpa [seqObj, W.listOf] using he, rels_of_ints a1⟩
end
end
section
noncomputable def isOpt : Option Int → Value → Bool
  | none, .none => true
  | some k, v => v.isInt k
  | _, _ => false
theorem isOpt_none {v : Value} (h : isOpt none v = true) : v = .none := by cases v <;> simp_all [isOpt]
theorem isOpt_some {k : Int} {v : Value} (h : isOpt (some k) v = true) : ∃ t, v = .int k t := by
  have h' : v.isInt k = true := by
    cases v <;> first | exact h | (simp [isOpt, Value.isInt] at h)
  unfold Value.isInt at h'
  split at h'
  · rename_i j t
    exact ⟨t, by rw [beq_iff_eq.mp h']⟩
  · cases h'
theorem isInt_shape' {k : Int} {v : Value} (h : v.isInt k = true) : ∃ t, v = .int k t := by
  unfold Value.isInt at h
  split at h
  · rename_i j t
    exact ⟨t, by rw [beq_iff_eq.mp h]⟩
  · cases h
section
variable {prog : Program} {w : World} {A : Around} {E : Value → Shared → Prop} {s : Shared}
theorem pyHash_none {Q : Int → Shared → Prop} (h : Q 0xFCA86420 { s with toks := s.toks + 1 }) : wpAny (model prog w) A (pyHash .none) Q E s := by
  unfold pyHash
  have hv : [Value.none].any Value.onHeap = false := rfl
  have hT : s.TypeIs .none "NoneType" := rfl
  refine wpAny_bind ?_
  rw [cRoomFor, if_neg (by rw [hv]; exact Bool.false_ne_true)]; refine wpAny_pure ?_
  refine wpAny_bind (wpAny_specialOf hT F.slot_NoneType_hash.lookup ?_)
  show wpAny _ _ (if (some (Value.builtin "NoneType.__hash__") == some Value.none) = true then _ else _) Q E s
  rw [if_neg (by rw [beq_builtin_none]; exact Bool.false_ne_true)]
  refine wpAny_bind (wpAny_specialOf hT F.slot_NoneType_hash.lookup ?_)
  show wpAny _ _ (callSpecialIfBoundUnlessNone? .none "__hash__" _ >>= _) Q E s
  refine wpAny_bind (wpAny_callSpecialIfBoundUnlessNone?_slot hT F.slot_NoneType_hash
    (wpAny_call_entry F.slot_NoneType_hash hT F.entry_NoneType_hash
      (show wpAny _ _ (do ret (← mkInt 0xFCA86420)) _ _ s from wpAny_ret_mkInt ?_) (F.args_NoneType_hash_1 _)))
  show wpAny _ _ (if (decide (-(2 : Int) ^ 63 ≤ 0xFCA86420) && decide ((0xFCA86420 : Int) < 2 ^ 63)) = true then _ else _) Q E _
  rw [if_pos (by decide)]
  exact wpAny_pure h
theorem eqBool_none_int {k : Int} {t : Tok} {Q : Bool → Shared → Prop} (h : Q false s) : wpAny (model prog w) A (eqBool .none (.int k t)) Q E s := by
  unfold eqBool
  refine wpAny_holding ?_
  rw [if_neg (by simp)]
  exact wpAny_bind (EqNone.eq_none_int (wpAny_truthy_bool h))
theorem eqBool_int_none {k : Int} {t : Tok} {Q : Bool → Shared → Prop} (h : Q false s) : wpAny (model prog w) A (eqBool (.int k t) .none) Q E s := by
  unfold eqBool
  refine wpAny_holding ?_
  rw [if_neg (by simp)]
  exact wpAny_bind (EqNone.eq_int_none (wpAny_truthy_bool h))
theorem eqBool_none_none {Q : Bool → Shared → Prop} (h : Q true s) : wpAny (model prog w) A (eqBool .none .none) Q E s := by
  unfold eqBool
  refine wpAny_holding ?_
  rw [if_pos (by rfl)]
  exact wpAny_bind (wpAny_rule (wpAny_pure h))
end
noncomputable def optKind (prog : Program) (w : World) : KeyKind prog w (Option Int) where
  is := isOpt
  hash
    | none => 0xFCA86420
    | some k => (intKind prog w).hash k
  inj := fun v a b ha hb => by
    induction a using Option.casesOn with
    | none =>
      induction b using Option.casesOn with
      | none => rfl
      | some k => rw [isOpt_none ha] at hb; obtain ⟨t, ht⟩ := isOpt_some (k := k) hb; cases ht
    | some j =>
      obtain ⟨t, rfl⟩ := isOpt_some (k := j) ha
      induction b using Option.casesOn with
      | none => exact absurd (isOpt_none hb) (by simp)
      | some k => obtain ⟨u, hu⟩ := isOpt_some (k := k) hb; cases hu; rfl
  byValue := fun k v h => by
    induction k using Option.casesOn with
    | none => rw [isOpt_none h]; rfl
    | some k => obtain ⟨t, rfl⟩ := isOpt_some (k := k) h; rfl
  pyHash := fun {A E s k v Q} hv h => by
    induction k using Option.casesOn with
    | none => rw [isOpt_none hv]; exact pyHash_none h
    | some k => exact (intKind prog w).pyHash (k := k) (by obtain ⟨t, rfl⟩ := isOpt_some hv; simp [intKind, Value.isInt]) h
  eqBool := fun {A E s a b u v Q} hu hv h => by
    induction a using Option.casesOn with
    | none =>
      rw [isOpt_none hu]
      induction b using Option.casesOn with
      | none => rw [isOpt_none hv]; exact eqBool_none_none (by simpa using h)
      | some k => obtain ⟨t, rfl⟩ := isOpt_some (k := k) hv; exact eqBool_none_int (by simpa using h)
    | some j =>
      induction b using Option.casesOn with
      | none => obtain ⟨t, rfl⟩ := isOpt_some (k := j) hu; rw [isOpt_none hv]; exact eqBool_int_none (by simpa using h)
      | some k => exact (intKind prog w).eqBool (a := j) (b := k) (by obtain ⟨t, rfl⟩ := isOpt_some hu; simp [intKind, Value.isInt]) (by obtain ⟨t, rfl⟩ := isOpt_some hv; simp [intKind, Value.isInt]) (by simpa using h)
  «strs» := fun k x t v h => by
    induction k using Option.casesOn with
    | none => exact absurd (isOpt_none h) (by simp)
    | some k => obtain ⟨u, hu⟩ := isOpt_some (k := k) h; cases hu
theorem mapOf_opt {prog : Program} {w : World} {h : Heap} {a : Addr} {f : Int → Option Value} (x : h.MapOf (intKind prog w) a f) : h.MapOf (optKind prog w) a (fun k => match k with | none => none | some k => f k) := by
  obtain ⟨o, es, ep, ho, hc, hd, hk, hf⟩ := x
  refine ⟨o, es, ep, ho, hc, hd, fun e he => ?_, fun k => ?_⟩
  · obtain ⟨k, h1, h2⟩ := hk e he
    exact ⟨some k, h1, h2⟩
  · induction k using Option.casesOn with
    | none =>
      show findBy isOpt es none = none
      unfold findBy
      have : es.find? (fun e => isOpt none e.key) = none := by
        rw [Array.find?_eq_none]
        intro e he
        obtain ⟨k, h1, _⟩ := hk e he
        obtain ⟨t, ht⟩ := isInt_shape' (k := k) h1
        rw [ht]; simp [isOpt]
      simp [this]
    | some k => exact hf k
section
variable {X : Ctx} {d : Nat} {nm : List Str} {sc : Scope}
theorem EPost.turn {s : Shared} {β σ} (S : SRel X β σ s.heap) {n : Nat} {a : Addr} {h' : Heap} {mo : MO} {v : V} {rv : Value} (hn : β[n]? = some a) (hs : Heap.SameBut a s.heap h') (hl : ∃ o, h'.get? a = some o)
    (hr : Grow [] β s.heap β h' → ORel X h' β mo a) (hv : Grow [] β s.heap β h' → VRel h' β v rv) {tk : Nat} : EPost X s β v (σ.set n mo) rv { s with heap := h', toks := tk } :=
  ⟨β, S.set hn hs hr hl, S.setGrow hn hs hl, hv (S.setGrow hn hs hl), rfl, rfl⟩
noncomputable def vAppend (o : V) (as : List V) (σ : H) : Option (V × H) := o.onR fun n => l1 as fun v => oL σ[n]? fun vs => if vs.length ≤ 100000 then some (.none, σ.set n (.list (vs ++ [v]))) else none
theorem append_ok : VMeth X d "list.append" vAppend := fun A s β σ o as ro ra v σ' ad S vo va e => by
  unfold vAppend at e
  revert vo va; apply V.onR_e e; intro n e; apply l1_e e; intro v e vo va
  · apply vo.a; intro a hn
    apply va.c1; intro _ v1
    apply oL_e e; intro vs hvs e
    · apply ife e; intro hb e; apply so2 e
      obtain ⟨ws, k, hl, hr⟩ := S.obj _ _ _ hvs hn
      have hlen := hr.length
      refine append_at hl (fun h' hs hd => ?_) (by rw [sizeLine_eq]; simp; lia)
      exact EPost.turn S hn hs (mo := .list _) ⟨_, hd⟩ (fun g => ⟨ws ++ [_], k + 1, by simpa [W.listOf] using hd, (hr.mono g).snoc (v1.mono g)⟩) fun _ => .none
theorem l0_e {α : Type} {r : α} {vs : List V} {f : Option α} {P : List V → Prop} (e : l0 vs f = some r) (k : f = some r → P []) : P vs := by
  rcases vs with _ | ⟨a, vs⟩
  · exact k e
  · exact nosm e
noncomputable def vPop (o : V) (as : List V) (σ : H) : Option (V × H) := o.onR fun n => l0 as (oL σ[n]? fun vs => vs.getLast?.bind fun v => if vs.length ≤ 100000 then some (v, σ.set n (.list vs.dropLast)) else none)
theorem VRels.split_last {h β} {vs : List V} {v : V} : ∀ {ws : List Value}, VRels h β (vs ++ [v]) ws → ∃ us u, ws = us ++ [u] ∧ VRels h β vs us ∧ VRel h β v u := by
  induction vs with
  | nil =>
    intro ws x
    cases x with
    | cons a b => apply b.z; exact ⟨[], _, rfl, .nil, a⟩
  | cons w vs ih =>
    intro ws x
    cases x with
    | cons a b =>
      obtain ⟨us, u, rfl, h1, h2⟩ := ih b
      exact ⟨_ :: us, u, rfl, .cons a h1, h2⟩
theorem pop_ok : VMeth X d "list.pop" vPop := fun A s β σ o as ro ra v σ' ad S vo va e => by
  unfold vPop at e
  revert vo va; apply V.onR_e e; intro n e; apply l0_e e; intro e vo va
  · obtain ⟨a, rfl, hn⟩ := vo.ref_inv
    apply va.z
    apply oL_e e; intro vs hvs e
    · apply obe e; intro v hu e
      · apply ife e; intro hb e; apply so2 e
        obtain ⟨ws, k, hl, hr⟩ := S.obj _ _ _ hvs hn
        have hvs' : vs = vs.dropLast ++ [v] := by
          obtain ⟨ys, rfl⟩ := List.getLast?_eq_some_iff.mp hu
          simp
        rw [hvs'] at hr
        obtain ⟨us, u, rfl, h1, h2⟩ := hr.split_last
        have hlen := h1.length
        have hz : (us ++ [u]).toArray.size ≤ sizeLine := by
          rw [List.size_toArray, List.length_append, ← hlen, List.length_dropLast, sizeLine_eq]; simp; lia
        have hk : (us ++ [u]).toArray.size - 1 = us.length := by rw [List.size_toArray, List.length_append]; rfl
        have hy : (us ++ [u]).toArray[(us ++ [u]).toArray.size - 1]? = some u := by rw [hk]; simp
        refine call_meets PySem.F.slot_list_pop ⟨_, hl, rfl⟩ PySem.F.entry_list_pop (PySem.F.args_list_pop_1 _) (PySem.MeetsSeq.list_pop_last a _ k u hy hz) ⟨hl, ?_⟩
        have hd := PySem.IsL.update hl fun xs => xs.eraseIdxIfInBounds ((us ++ [u]).toArray.size - 1)
        have he : (us ++ [u]).toArray.eraseIdxIfInBounds ((us ++ [u]).toArray.size - 1) = us.toArray := by rw [hk, kl_erase, List.append_nil]
        rw [he] at hd
        exact EPost.turn S hn (mo := .list _) (Heap.SameBut.update ..) ⟨_, hd⟩ (fun g => ⟨us, _, hd, h1.mono g⟩) (fun g => h2.mono g) (tk := s.toks)
noncomputable def vExtend (o : V) (as : List V) (σ : H) : Option (V × H) := o.onR fun n => l1 as fun v => v.onR fun m => oL σ[n]? fun vs => oL σ[m]? fun us => if n ≠ m ∧ vs.length + us.length ≤ 100000 then some (.none, σ.set n (.list (vs ++ us))) else none
theorem extend_ok : VMeth X d "list.extend" vExtend := fun A s β σ o as ro ra v σ' ad S vo va e => by
  unfold vExtend at e
  revert vo va; apply V.onR_e e; intro n e; apply l1_e e; intro w e; apply V.onR_e e; intro m e vo va
  · apply vo.a; intro a hn
    apply va.c1; intro _ v1
    apply v1.a; intro b hm
    apply oL_e e; intro vs hvs e
    · apply oL_e e; intro us hus e
      · apply ife e; intro hb e; apply so2 e
        obtain ⟨ws, k, hl, hr⟩ := S.obj _ _ _ hvs hn
        obtain ⟨zs, k2, hl2, hr2⟩ := S.obj _ _ _ hus hm
        have h1 := hr.length
        have h2 := hr2.length
        have hsz : ws.toArray.size + zs.toArray.size ≤ sizeLine := by simp; rw [sizeLine_eq]; lia
        refine call_meets PySem.F.slot_list_extend ⟨_, hl, rfl⟩ PySem.F.entry_list_extend (PySem.F.args_list_extend_2 _ _) (AutoSeq1.list_extend_list_list_0 a ws.toArray k b zs.toArray k2 (extend_door hsz) (Nat.le_trans (Nat.le_add_right _ _) hsz)) ⟨hl, hl2, ?_⟩
        have ho' : (s.heap.update a (Obj.mapSeq fun x => x ++ zs.toArray)).get? a = some (listOf (ws ++ zs).toArray (if (ws.toArray ++ zs.toArray).size == ws.toArray.size then k else k + 1)) := by
          rw [Heap.get?_update_self _ hl (by rw [mapSeq_app]; rfl), mapSeq_app]
          simp [W.listOf]
        exact EPost.turn S hn (mo := .list _) (Heap.SameBut.update ..) ⟨_, ho'⟩ (fun g => ⟨ws ++ zs, _, ho', (hr.mono g).append (hr2.mono g)⟩) (fun _ => .none) (tk := s.toks)
noncomputable def vCount (o : V) (as : List V) (σ : H) : Option (V × H) := o.onR fun n => l1 as fun v => v.onI fun k => oL σ[n]? fun vs => (intsOf vs).bind fun is => some (.int (is.count k : Nat), σ)
theorem count_ok : VMeth X d "list.count" vCount := fun A s β σ o as ro ra v σ' ad S vo va e => by
  unfold vCount at e
  revert vo va; apply V.onR_e e; intro n e; apply l1_e e; intro w e; apply V.onI_e e; intro k e vo va
  · apply vo.a; intro a hn
    apply va.c1; intro _ v1
    apply v1.i; intro t
    apply oL_e e; intro vs hvs e
    · apply obe e; intro is his e; apply so2 e
      obtain ⟨ws, kk, hl, hr⟩ := S.obj _ _ _ hvs hn
      exact count_list_ints (isList_of hl) (intsAre_of hr his) (.same S (.int _ _))
noncomputable def V.onIN {α : Type} (v : V) (f : Int → Option α) (g : Option α) : Option α := V.casesOn (motive_1 := fun _ => Option α) v g (fun _ => Option.none) f (fun _ => Option.none) (fun _ => Option.none) (fun _ => Option.none) (fun _ _ _ => Option.none) (fun _ => Option.none) Option.none
theorem V.onIN_e {α : Type} {r : α} {v : V} {f : Int → Option α} {g : Option α} {P : V → Prop} (e : v.onIN f g = some r) (k : ∀ i, f i = some r → P (.int i)) (k2 : g = some r → P .none) : P v := by
  induction v using V.casesOn <;> first | exact nosm e | exact k _ e | exact k2 e
noncomputable def vGet (o : V) (as : List V) (σ : H) : Option (V × H) := o.onR fun n => l2 as fun k dv => oIS σ[n]? (fun kvs => k.onIN (fun i => some ((look kvs i).getD dv, σ)) (some (dv, σ))) fun kvs => k.onS fun x => some ((look kvs x).getD dv, σ)
theorem get_ok : VMeth X d "dict.get" vGet := fun A s β σ o as ro ra v σ' ad S vo va e => by
  unfold vGet at e
  revert vo va; apply V.onR_e e; intro n e; apply l2_e e; intro k dv e vo va
  · apply vo.a; intro a hn
    apply va.c2; intro rk rdv v1 v2; clear va vo
    have hsys := S.sys (List.mem_of_getElem? hn)
    apply oIS_e e
    · intro kvs hk e
      revert v1; apply V.onIN_e e
      · intro i e v1
        apply so2 e
        apply v1.i; intro t
        obtain ⟨rks, hd, hr⟩ := S.obj _ _ _ hk hn
        refine call_meetsIn PySem.F.slot_dict_get hd.dictOf.typeIs PySem.F.entry_dict_get (PySem.F.args_dict_get_3 _ _ _) (meets_dict_get_default (intKind X.prog X.w) a (intKind_is _ _ i t) hsys rdv) ⟨_, hd.dictOf.mapOf, ?_⟩
        have hl := hr.look i
        show EPost X s β _ σ ((valueAt rks i).getD rdv) _
        cases q : look kvs i with
        | none => rw [q] at hl; rw [hl]; exact .same S v2
        | some u => rw [q] at hl; obtain ⟨r, h1, h2⟩ := hl; rw [h1]; exact .same S h2
      · intro e v1
        apply so2 e
        apply v1.n
        obtain ⟨rks, hd, hr⟩ := S.obj _ _ _ hk hn
        exact call_meetsIn PySem.F.slot_dict_get hd.dictOf.typeIs PySem.F.entry_dict_get (PySem.F.args_dict_get_3 _ _ _) (meets_dict_get_default (optKind X.prog X.w) a (k := none) rfl hsys rdv) ⟨_, mapOf_opt hd.dictOf.mapOf, .same S v2⟩
    · intro kvs hk e
      revert v1; apply V.onS_e e
      intro x e v1
      apply so2 e
      obtain ⟨x, t, rfl, rfl⟩ := v1.inv
      obtain ⟨rks, hd, hr⟩ := S.obj _ _ _ hk hn
      refine call_meetsIn PySem.F.slot_dict_get hd.dictOf.typeIs PySem.F.entry_dict_get (PySem.F.args_dict_get_3 _ _ _) (meets_dict_get_default (strKind X.prog X.w) a (strKind_is _ _ x t) hsys rdv) ⟨_, hd.dictOf.mapOf, ?_⟩
      have hl := hr.look x
      show EPost X s β _ σ ((valueAt rks x).getD rdv) _
      cases q : look kvs x.cps.toList with
      | none => rw [q] at hl; rw [hl]; exact .same S v2
      | some u => rw [q] at hl; obtain ⟨r, h1, h2⟩ := hl; rw [h1]; exact .same S h2
noncomputable def vVals (o : V) (as : List V) (σ : H) : Option (V × H) := o.onR fun n => l0 as (oI σ[n]? fun _ => some (.vals n, σ))
theorem vals_ok : VMeth X d "dict.values" vVals := fun A s β σ o as ro ra v σ' ad S vo va e => by
  unfold vVals at e
  revert vo va; apply V.onR_e e; intro n e; apply l0_e e; intro e vo va
  · apply vo.a; intro a hn
    apply va.z
    apply oI_e e; intro kvs hk e
    · apply so2 e
      obtain ⟨rks, hd, hr⟩ := S.obj _ _ _ hk hn
      refine call_meetsIn PySem.F.slot_dict_values hd.dictOf.typeIs PySem.F.entry_dict_values (PySem.F.args_dict_values_1 _) (meets_dict_values (intKind X.prog X.w) a (S.sys (List.mem_of_getElem? hn))) ⟨⟨rks, hd.dictOf⟩, ?_⟩
      exact ⟨β, S.push _, Grow.push _, .vals hn ⟨_, Heap.get?_push_size _ rfl, rfl, rfl⟩, rfl, rfl⟩
end
end
section
theorem list_no_keys : typeLookup (.type "list") "keys" = pure none := am_miss_of_fast (by decide +kernel)
theorem by_keys {prog : Program} {w : World} {A : Around} {E : Value → Shared → Prop} {s : Shared} {a : Addr} {xs : Array Value} {k : Nat} {u : Tok} {Q : Value → Shared → Prop}
    (hx : s.heap.get? a = some (W.listOf xs k)) (hA : A.handled = none)
    (h : ∀ h' tk e, Heap.NewExcOf s.heap h' e "AttributeError" → E (.ref e) { s with heap := h', toks := tk }) :
    wpAny (model prog w) A (getAttrBy (.ref a) (.str "keys" u) false) Q E s := by
  obtain ⟨hp, g, d, tk, os⟩ := s
  have hT : ∀ tk', (⟨hp, g, d, tk', os⟩ : Shared).TypeIs (.ref a) "list" := fun _ => ⟨_, hx, rfl⟩
  have f1 := sub_AttributeError
  have f3 := PySem.F.slot_list_getattribute.lookup
  have f4 := PySem.F.slot_list_getattribute.bind (.ref a)
  have f5 := am_list_getattr_none
  unfold getAttrBy
  repeat (any_goals (first | assumption | exact hT _ | ((with_reducible show wpAny _ _ (call (Value.builtin "list.__getattribute__") _ _) _ _ _); refine call_meets PySem.F.slot_list_getattribute (hT _) am_entry_list_getattribute (PySem.F.args_list_getattribute_2 _ _) (meets_getattribute_miss_list a xs k #[] "keys" _ list_no_keys (by decide) (by decide)) ⟨hx, hA, fun h' tk' e hx' => ?_⟩) | wp_step))
  obtain ⟨t', u', he⟩ := hx'.there
  show wpAny _ _ (getattributeRaised _ _ _ _ _ _ _) _ _ _
  unfold getattributeRaised
  repeat (any_goals (first | assumption | wp_step))
  exact h _ _ _ hx'.of
theorem keys_none {prog : Program} {w : World} {A : Around} {E : Value → Shared → Prop} {s : Shared} {a : Addr} {xs : Array Value} {k : Nat} {Q : Option Value → Shared → Prop}
    (hx : s.heap.get? a = some (W.listOf xs k)) (hA : A.handled = none)
    (h : ∀ h' tk, (∀ b o, s.heap.get? b = some o → h'.get? b = some o) → Q none { s with heap := h', toks := tk }) :
    wpAny (model prog w) A (getAttr? (.ref a) "keys") Q E s := by
  unfold getAttr? getAttrBy?
  refine wpAny_bind ?_
  refine wpAny_mono (Q := fun v s' => ∃ u tk, v = .str "keys" u ∧ s' = { s with toks := tk }) (E := E) ?_ (fun v s' p => ?_) fun _ _ x => x
  · obtain ⟨hp, g, d, tk, os⟩ := s
    repeat (any_goals (first | assumption | wp_step))
    exact ⟨_, _, rfl, rfl⟩
  · obtain ⟨u, tk, rfl, rfl⟩ := p
    refine wpAny_bind (wpAny_attempt (by_keys (s := { s with toks := tk }) hx hA fun h' tk' e q => ?_))
    obtain ⟨hk, _, o, ar, he, hc, _⟩ := q
    refine wpAny_bind (wpAny_isInstance (T := "AttributeError") ⟨_, he, hc⟩ sub_AttributeError ?_)
    simp only [if_true]
    exact wpAny_pure (h h' tk' hk)
section
variable {X : Ctx} {d : Nat} {nm : List Str} {sc : Scope}
noncomputable def pair1 (p : V) (o : Option (List (Int × V))) : Option (List (Int × V)) := p.onT fun vs => l2 vs fun k v => k.onI fun k => o.bind fun l => some ((k, v) :: l)
noncomputable def pairsV (vs : List V) : Option (List (Int × V)) := @List.rec V (fun _ => Option (List (Int × V))) (some []) (fun p _ ih => pair1 p ih) vs
theorem pair1_e {p : V} {o : Option (List (Int × V))} {r : List (Int × V)} {P : V → Prop} (e : pair1 p o = some r) (k : ∀ i v l, o = some l → (i, v) :: l = r → P (.tup [.int i, v])) : P p := by
  unfold pair1 at e
  apply V.onT_e e; intro vs e; apply l2_e e; intro x v e; apply V.onI_e e; intro i e
  apply obe e; intro l hl e
  exact k i v l hl (Option.some.inj e)
theorem pairsV_len : ∀ {vs : List V} {kvs}, pairsV vs = some kvs → kvs.length = vs.length
  | [], _, e => by apply so1 e; rfl
  | v :: r, kvs, e => by
    have e : pair1 v (pairsV r) = some kvs := e
    apply pair1_e (P := fun v => kvs.length = (v :: r).length) e; intro k v' l hl q
    rw [← q]
    exact congrArg Nat.succ (pairsV_len hl)
theorem pairsV_get : ∀ {vs : List V} {kvs}, pairsV vs = some kvs → ∀ {i : Nat} {p : Int × V}, kvs[i]? = some p → vs[i]? = some (.tup [.int p.1, p.2])
  | [], kvs, e, i, p, h => by cases e; simp at h
  | v :: r, kvs, e, i, p, h => by
    have e : pair1 v (pairsV r) = some kvs := e
    apply pair1_e (P := fun v => (v :: r)[i]? = some (.tup [.int p.1, p.2])) e; intro k v' l hl q
    rw [← q] at h
    induction i using Nat.casesOn with
    | zero => simp at h; subst h; rfl
    | succ i => simp at h ⊢; exact pairsV_get hl h
theorem putAll_cons {κ : Type} [DecidableEq κ] (acc : List (κ × V)) (k : κ) (v : V) (r : List (κ × V)) : putAll acc ((k, v) :: r) = putAll (put acc k v) r := rfl
theorem plain_update_loop : plainId "dict.update.loop" = true := by decide +kernel
theorem entry_update_loop : entryFor table "dict.update.loop" = some Builtin.«dict.update.loop» := entryFor_of_tree (by kernel_rfl)
theorem pairItems_tup {A : Around} {s : Shared} {a : Addr} {ws : Array Value} {Q : List Value → Shared → Prop} {E : Value → Shared → Prop} (ht : s.heap.IsTuple a ws) (h : Q ws.toList s) : wpAny (MM X) A (Builtin.Dict.pairItems (.ref a)) Q E s := by
  obtain ⟨o, ho, hc, n, hd⟩ := ht
  unfold Builtin.Dict.pairItems
  refine wpAny_bind (wpAny_typeOf (T := "tuple") ⟨o, ho, hc⟩ ?_)
  rw [if_pos (by decide)]
  unfold seqItems?
  refine wpAny_bind (wpAny_bind (wpAny_load ho ?_))
  rw [hd]
  exact wpAny_pure (wpAny_pure h)
theorem update_loop {A : Around} (hh : A.handled = none) {β : List Addr} {σ : H} {it D : Addr} {n : Nat} {items : List V} {kvs : List (Int × V)} {s₀ : Shared} (ei : itemsOf (.ref n) σ = some (.list, items)) (hp : pairsV items = some kvs) (hlen : items.length ≤ 1000)
    (hib : it ∉ β) (hDb : D ∉ β) (hDi : D ≠ it) (bI : X.h₀.get? it = none) (bD : X.h₀.get? D = none) (fI : s₀.heap.get? it = none) (fD : s₀.heap.get? D = none) : ∀ (k i : Nat) (s : Shared) (acc : List (Int × V)) (rks : List (Int × Value)) (t : Tok), k + i = items.length → SRel X β σ s.heap →
      Grow [] β s₀.heap β s.heap → Rest s₀ s → KVI s.heap β acc rks → s.heap.DictAt (intKind X.prog X.w) D rks rks.length → rks.length ≤ i → ItAt X β s.heap i it (.ref n) .list items.length →
      codeAny (MM X) A (.builtin "dict.update.loop" ⟨[.ref D, .ref it, .int i t, .none], []⟩)
        (fun r s' => r = .ok (.ret .none) ∧ SRel X β σ s'.heap ∧ Grow [] β s₀.heap β s'.heap ∧ (∃ rks', KVI s'.heap β (putAll acc (kvs.drop i)) rks' ∧ s'.heap.DictAt (intKind X.prog X.w) D rks' rks'.length) ∧ Rest s₀ s') s := by
  have hitem : ∀ {i : Nat}, i < items.length → ∃ p, kvs[i]? = some p ∧ items[i]? = some (.tup [.int p.1, p.2]) := fun {i} hi => by
    have hl : i < kvs.length := by rw [pairsV_len hp]; exact hi
    exact ⟨kvs[i], List.getElem?_eq_getElem hl, pairsV_get hp (List.getElem?_eq_getElem hl)⟩
  intro k
  induction k with
  | zero =>
    intro i s acc rks t hk S G R ha hd hr hi
    refine codeAny_builtin entry_update_loop ?_
    rw [Around.under_plainId plain_update_loop _]
    have : i = items.length := by lia
    subst this
    show wpAny _ _ (pyNext (.ref it) >>= _) _ _ s
    refine wpAny_bind (wpAny_mono (next_end hi ei S hh) (fun r s₁ p => ?_) fun _ _ x => x.elim)
    obtain ⟨rfl, hx, rs⟩ := p
    have nI := hi.notImm
    show wpAny _ _ (Builtin.Dict.addKeywords D [] >>= _) _ _ _
    refine wpAny_bind (wpAny_pure (wpAny_pure ?_))
    refine ⟨rfl, S.but hx hib bI nI, G.but hx fI, ⟨rks, ?_, hd.extBut hx hDi⟩, R.trans rs⟩
    rw [List.drop_eq_nil_of_le (by rw [pairsV_len hp]; exact Nat.le_refl _)]
    exact ha.monoK (Keep.but (β := β) hx nI)
  | succ k ih =>
    intro i s acc rks t hk S G R ha hd hr hi
    refine codeAny_builtin entry_update_loop ?_
    rw [Around.under_plainId plain_update_loop _]
    have hlt : i < items.length := by lia
    obtain ⟨⟨key, val⟩, hkv, hy⟩ := hitem hlt
    have nI := hi.notImm
    show wpAny _ _ (pyNext (.ref it) >>= _) _ _ s
    refine wpAny_bind (wpAny_mono (next_item hi ei hy S hib) (fun r s₁ p => ?_) fun _ _ x => x.elim)
    obtain ⟨rv, rfl, vr, hi', hs', rs⟩ := p
    have S₁ := S.but hs'.extBut hib bI nI
    have G₁ := G.but hs'.extBut fI
    have ha₁ := ha.monoK (Keep.but (β := β) hs'.extBut nI)
    have hd₁ := hd.extBut hs'.extBut hDi
    obtain ⟨a, ws, rfl, ht, hv⟩ := vr.list_inv
    cases hv with
    | cons v1 v2 =>
    cases v2 with
    | cons v2 v3 =>
    cases v3
    cases v1 with
    | int _ tk =>
    rename_i rval
    show wpAny _ _ (holding [.ref a] _ >>= _) _ _ _
    refine wpAny_bind (wpAny_holding (wpAny_bind (wpAny_tryCatch (pairItems_tup ht ?_))))
    show wpAny _ _ (holding [.int key tk, rval] (dictSet D (.int key tk) rval)) _ _ _
    have nD : ∀ o, s₁.heap.get? D = some o → ¬ Imm o := fun o e => by
      obtain ⟨o', es, ho, _, q, _⟩ := hd₁
      rw [ho] at e; apply so1 e; simp [Imm, q]
    refine wpAny_holding (dictSet_at (intKind_is _ _ key tk) hd₁ (by rw [sizeLine_eq]; lia) fun h₂ hd₂ hs₂ => ?_)
    have hl₂ : ∃ o, h₂.get? D = some o := dict_alive hd₂
    have g₂ : Grow [D] β s₁.heap β h₂ := Grow.change hs₂ (.inr (.head _)) nD hl₂
    have hDs : it ∉ [D] := fun m => by rw [List.mem_singleton] at m; exact hDi m.symm
    refine wpAny_pure ⟨plainId_quiet plain_update_loop _, codeAny_mono (ih (i + 1) { s₁ with heap := h₂, toks := s₁.toks + 1 } (put acc key val) _ _ (by lia) (S₁.other hs₂ hDb bD nD hl₂) (G₁.but hs₂.extBut fD) ⟨(R.trans rs).gens, (R.trans rs).os⟩
      ((ha₁.mono g₂).put (v2.mono g₂) key hd₁.nodup) hd₂ (by have := stored_len rks key rval; lia) (hi'.mono g₂ hib hDs)) fun r s' p => ?_⟩
    obtain ⟨p1, p2, p3, ⟨rks', p4, p5⟩, p6⟩ := p
    refine ⟨p1, p2, p3, ⟨rks', ?_, p5⟩, p6⟩
    have hl : i < kvs.length := by rw [pairsV_len hp]; exact hlt
    rw [List.drop_eq_getElem_cons hl]
    have hkv' : kvs[i] = (key, val) := by
      rw [List.getElem?_eq_getElem hl] at hkv
      exact Option.some.inj hkv
    rw [hkv']
    exact p4
noncomputable def vDictOf (vs : List V) (σ : H) : Option (V × H) := l1 vs fun v => v.onR fun n => oL σ[n]? fun vs => (pairsV vs).bind fun kvs => if vs.length ≤ 1000 then some (.ref σ.length, σ ++ [.dictI (putAll [] kvs)]) else none
theorem dictOf_ok (ok : X.Ok) : VOpN X d (fun rs => call (.type "dict") rs []) vDictOf := fun A s β σ vs rs w σ' ad S vr e => by
  unfold vDictOf at e
  revert vr; apply l1_e e; intro v e; apply V.onR_e e; intro n e vr
  · apply vr.c1; intro _ v1
    apply v1.a; intro a hn
    apply oL_e e; intro vs hvs e
    · apply obe e; intro kvs hkvs e
      · apply ife e; intro hb e; apply so2 e
        have ei : itemsOf (.ref n) σ = some (.list, vs) := by simp [itemsOf, hvs]
        refine callType_codes (Q₁ := fun obj s₁ => obj = .ref s.heap.objs.size ∧ s₁ = { s with heap := s.heap.push { cls := .type "dict", data := .dict #[] } }) PySem.F.kt_called_dict (PySem.F.kt_typeCall_dict_1 _) PySem.F.entry_dict_init (kt_code_dict_new _ ⟨rfl, rfl⟩) ?_
        rintro obj s₁ ⟨rfl, rfl⟩
        have hnew : (s.heap.push { cls := .type "dict", data := .dict #[] }).DictOf (intKind X.prog X.w) s.heap.objs.size [] := Heap.DictOf.new s.heap
        refine ⟨hnew.typeIs, PySem.F.args_dict_init_2 _ _, ?_⟩
        unfold Builtin.«dict.__init__»
        refine wpAny_bind ?_
        unfold Builtin.Dict.selfAndRest
        refine wpAny_bind (wpAny_notOrdered_dict hnew.typeIs ?_)
        show wpAny _ _ (pure (s.heap.objs.size, [Value.ref a])) _ _ _
        refine wpAny_pure ?_
        show wpAny _ _ (Builtin.Dict.updateFrom "dict.__init__" s.heap.objs.size (.ref a) [] .none) _ _ _
        unfold Builtin.Dict.updateFrom
        obtain ⟨ws, k, hl, hr⟩ := S.obj _ _ _ hvs hn
        have hl₁ : (s.heap.push { cls := .type "dict", data := .dict #[] }).get? a = some (listOf ws.toArray k) := Heap.get?_push_of_some _ hl
        refine wpAny_bind (wpAny_typeOf (T := "list") ⟨_, hl₁, rfl⟩ ?_)
        rw [if_pos (by decide)]
        have fr := size_fresh s.heap
        refine wpAny_bind (keys_none (s := { s with heap := s.heap.push { cls := .type "dict", data := .dict #[] } }) hl₁ ad.handled fun h' tk hk => ?_)
        simp only [Option.isNone_none, if_true]
        refine wpAny_bind (wpAny_rule ?_)
        have up : ∀ b o, s.heap.get? b = some o → h'.get? b = some o := fun b o e => hk b o (Heap.get?_push_of_some _ e)
        have S₁ : SRel X β σ h' := S.ext up
        have v₁ : VRel h' β (.ref n) (.ref a) := .ref hn
        have hD : s.heap.objs.size ∉ β := fun m => by obtain ⟨o', e', _⟩ := S.alive m; rw [fr] at e'; cases e'
        have bD : X.h₀.get? s.heap.objs.size = none := by
          cases e : X.h₀.get? s.heap.objs.size with
          | none => rfl
          | some o => have := S.base _ o e; rw [fr] at this; exact nosm this
        have hd₀ : (s.heap.push { cls := .type "dict", data := .dict #[] }).DictAt (intKind X.prog X.w) s.heap.objs.size [] 0 :=
          ⟨_, #[], Heap.get?_push_size _ rfl, ⟨rfl, rfl, rfl⟩, rfl, fun _ he => by simp at he, Pairs.nil, List.nodup_nil⟩
        have hd₁ : h'.DictAt (intKind X.prog X.w) s.heap.objs.size [] 0 := hd₀.at' fun o e => hk _ o e
        have hDlt : s.heap.objs.size < h'.objs.size := by obtain ⟨o, es, ho, _⟩ := hd₁; exact Heap.lt_size ho
        refine wpAny_bind (wpAny_mono (iter_ok (s := { s with heap := h', toks := tk }) ei S₁ v₁) (fun r s₂ p => ?_) fun _ _ x => x.elim)
        obtain ⟨o, rfl, rfl, hit⟩ := p
        have fI : s.heap.get? h'.objs.size = none := by
          cases e : s.heap.get? h'.objs.size with
          | none => rfl
          | some o => have := up _ _ e; rw [size_fresh] at this; exact nosm this
        have hib : h'.objs.size ∉ β := fun m => by obtain ⟨o', e', _⟩ := S.alive m; rw [fI] at e'; cases e'
        have bI : X.h₀.get? h'.objs.size = none := by
          cases e : X.h₀.get? h'.objs.size with
          | none => rfl
          | some o => have := S.base _ o e; rw [fI] at this; exact nosm this
        have hbig : mainGlobals < s.heap.objs.size := by
          obtain ⟨o', _, _, ho, _⟩ := ok.top.g
          exact Heap.lt_size (S.base _ _ ho)
        refine wpAny_pure ⟨plainId_quiet plain_update_loop _, codeAny_mono (update_loop (s₀ := s) (D := s.heap.objs.size) (A := A.in1) ad.handled ei hkvs hb hib hD (Nat.ne_of_lt hDlt) bI bD fI fr vs.length 0 { s with heap := h'.push o, toks := tk } [] [] _ rfl (S₁.push o)
          ((Grow.ext up).trans (Grow.push o)) ⟨rfl, rfl⟩ .nil (hd₁.push o) (Nat.le_refl _) hit) fun r s' p => ?_⟩
        obtain ⟨rfl, p2, p3, ⟨rks', p4, p5⟩, p6⟩ := p
        refine ⟨rfl, ?_⟩
        rw [List.drop_zero] at p4
        exact ⟨β ++ [s.heap.objs.size], p2.adopt hD bD hbig ⟨rks', p5, p4⟩, p3.adopt fr, .ref (by rw [← S.len]; simp), p6⟩
end
end
section
noncomputable def iniStmt (n : Str) (p1 p2 p3 p4 : Pos) : Stmt := .Assign [.Attribute (.Name (Str.ofString "self") p1) n p2] (.Name n p3) p4
noncomputable def iniNames : List Str := [Str.ofString "self", Str.ofString "rows", Str.ofString "names", Str.ofString "temps", Str.ofString "trys", Str.ofString "lives"]
structure CdO (X : Ctx) (fI : Addr) (body : List Stmt) : Prop where
  mkc : makesIn X.K X.C = true
  keep : keepIn X.K (.ref X.C) = true
  ini : findIn X.K (.ref X.C) "__init__" = some (some (.ref fI))
  fn : typeIn X.K (.ref fI) = some (.type "function")
  sa : findIn X.K (.ref X.C) "__setattr__" = some (some (.builtin "object.__setattr__"))
  po : plainOver X.K X.C = true
  t1 : takerIn X.K X.C (Str.ofString "rows") = some none
  t2 : takerIn X.K X.C (Str.ofString "names") = some none
  t3 : takerIn X.K X.C (Str.ofString "temps") = some none
  t4 : takerIn X.K X.C (Str.ofString "trys") = some none
  t5 : takerIn X.K X.C (Str.ofString "lives") = some none
  cls : nsIn X.K mainGlobals (Str.ofString "Code") = some (some (.ref X.C))
  fd : ∃ o fd, X.K.lookup fI = some o ∧ o.data = .func fd ∧ codeIn X.K fd.code fd.qualname = true ∧ fd.body = .stmts body ∧ fd.closure = [] ∧ fd.scope.isCoroutine = false ∧ fd.scope.isGenerator = false ∧ fd.scope.kind = .function ∧
    (∀ y ∈ iniNames, fd.scope.names.lookup y = some .local) ∧ ∀ vals : List Value, vals.length = 6 → bindArgs fd ⟨vals, []⟩ = pure (iniNames.zip vals)
  body : ∃ p : Nat → Pos, body = [iniStmt (Str.ofString "rows") (p 0) (p 1) (p 2) (p 3), iniStmt (Str.ofString "names") (p 4) (p 5) (p 6) (p 7), iniStmt (Str.ofString "temps") (p 8) (p 9) (p 10) (p 11), iniStmt (Str.ofString "trys") (p 12) (p 13) (p 14) (p 15), iniStmt (Str.ofString "lives") (p 16) (p 17) (p 18) (p 19)]
noncomputable def vCode (vs : List V) (σ : H) : Option (V × H) := List.casesOn (motive := fun _ => Option (V × H)) vs none fun r vs => List.casesOn (motive := fun _ => Option (V × H)) vs none fun n vs => l3 vs fun t y l => some (.ref (σ.length + 1), σ ++ [.attrs r n t y l] ++ [.inst σ.length])
theorem vCode_e {vs σ r} {P : List V → Prop} (e : vCode vs σ = some r) (k : ∀ a n t y l, some (V.ref (σ.length + 1), σ ++ [MO.attrs a n t y l] ++ [MO.inst σ.length]) = some r → P [a, n, t, y, l]) : P vs := by
  rcases vs with _ | ⟨a, vs⟩
  · exact nosm e
  · rcases vs with _ | ⟨n, vs⟩
    · exact nosm e
    · exact l3_e (P := fun vs => P (a :: n :: vs)) e fun t y l e => k a n t y l e
theorem putL_new (name : Str) (h : Int) (k v : Value) : ∀ es : List DictEntry, (∀ e ∈ es, e.key.isStr name = false) → putL name h k v es = es ++ [⟨h, k, v⟩]
  | [], _ => rfl
  | e :: r, q => by
    unfold putL
    rw [if_neg (by rw [q e (.head _)]; exact Bool.false_ne_true), putL_new name h k v r fun x hx => q x (.tail _ hx)]
    rfl
theorem putN_new (name : Str) (es : List DictEntry) (n : Nat) (q : ∀ e ∈ es, e.key.isStr name = false) : putN name es n = n + 1 := by
  unfold putN
  rw [if_neg]
  rw [List.any_eq_true]
  rintro ⟨e, he, h⟩
  rw [q e he] at h; cases h
theorem getL_new (name : Str) (es : List DictEntry) (q : ∀ e ∈ es, e.key.isStr name = false) (q' : ∀ e ∈ es, e.refKey = false) : getL name es = some none := by
  unfold getL
  have : es.find? (fun x => x.key.isStr name) = none := by
    rw [List.find?_eq_none]
    intro e he
    rw [q e he]; exact Bool.false_ne_true
  rw [this]
  show (if es.any (·.refKey) = true then _ else _) = _
  rw [if_neg]
  rw [List.any_eq_true]
  rintro ⟨e, he, h⟩
  rw [q' e he] at h; cases h
section
variable {X : Ctx} {A : Around} {base : Heap} {L : Addr} {m : Str → Option Value} {x dx : Addr} {es : List DictEntry} {n : Nat} {s : Shared} {env : Env}
theorem ini_one {fI body} (ok : X.Ok) (co : CdO X fI body) {name : Str} {p1 p2 p3 p4 : Pos} {v : Value} {Q : Flow → Shared → Prop} (ht : takerIn X.K X.C name = some none) (F : Fr base L s.heap m) (hk : X.K.In base)
    (N : News base L s.heap [(x, instObj X.C dx), (dx, dictOf es n)]) (hne : x ≠ dx) (hL : env.locals = L) (hf : env.scope.kind = .function) (k1 : env.kindOf (Str.ofString "self") = some .local) (k2 : env.kindOf name = some .local)
    (m1 : m (Str.ofString "self") = some (.ref x)) (m2 : m name = some v) (hd : (name == ("__debug__" : Str)) = false) (hes : ∀ e ∈ es, e.key.isStr name = false) (hes' : ∀ e ∈ es, e.refKey = false) (hz : es.length ≤ 900)
    (h : ∀ h' tk, Fr base L h' m → News base L h' [(x, instObj X.C dx), (dx, dictOf (es ++ [⟨PyData.keyHash X.w.params name, .str name tk, v⟩]) (n + 1))] → ∀ tk', Q .next { s with heap := h', toks := tk' }) :
    wpAny (MM X) A (exec (iniStmt name p1 p2 p3 p4) env) Q NoE s := by
  refine plainObj_wpAny_Assign_Attribute (wpAny_Name (wpAny_loadName_local hf k2 (hL ▸ F.ns) m2 ?_) hd)
  refine wpAny_Name (wpAny_loadName_local hf k1 (hL ▸ F.ns) m1 ?_) (by decide)
  refine set_dict (n' := n + 1) F hk N ⟨(N _ (.head _)).1, rfl, rfl, (N _ (.tail _ (.head _))).1⟩ rfl co.sa co.po ht ok.hd (by rw [getL_new name es hes hes']; rfl) (by rw [putL_new name _ _ _ es hes, putN_new name es n hes]) (.tail hne (.head fun _ hp => nomatch hp)) (by simp; lia) fun h' F' N' => ?_
  exact h h' _ F' N' _
noncomputable def KeysIn (es : List DictEntry) (ys : List Str) : Prop := ∀ e ∈ es, ∃ y ∈ ys, ∃ t, e.key = .str y t
theorem KeysIn.nil {ys : List Str} : KeysIn [] ys := fun _ h => nomatch h
theorem KeysIn.snoc {es : List DictEntry} {ys : List Str} (h : KeysIn es ys) {k : Int} {y : Str} {t : Tok} {v : Value} : KeysIn (es ++ [⟨k, .str y t, v⟩]) (y :: ys) := fun e he => by
  rcases List.mem_append.mp he with he | he
  · obtain ⟨z, hz, q⟩ := h e he; exact ⟨z, .tail _ hz, q⟩
  · simp at he; subst he; exact ⟨y, .head _, t, rfl⟩
theorem KeysIn.not {es : List DictEntry} {ys : List Str} (h : KeysIn es ys) {name : Str} (hn : name ∉ ys) : ∀ e ∈ es, e.key.isStr name = false := fun e he => by
  obtain ⟨y, hy, t, q⟩ := h e he
  rw [q]
  have : y ≠ name := fun q => hn (q ▸ hy)
  simpa [Value.isStr] using this
theorem KeysIn.ref {es : List DictEntry} {ys : List Str} (h : KeysIn es ys) : ∀ e ∈ es, e.refKey = false := fun e he => by
  obtain ⟨y, hy, t, q⟩ := h e he
  simp [DictEntry.refKey, q]
theorem getL_snoc_same {es : List DictEntry} {name : Str} {k : Int} {t : Tok} {v : Value} (h : ∀ e ∈ es, e.key.isStr name = false) : getL name (es ++ [⟨k, .str name t, v⟩]) = some (some v) := by
  unfold getL
  have : es.find? (fun x => x.key.isStr name) = none := by
    rw [List.find?_eq_none]
    intro e he
    rw [h e he]; exact Bool.false_ne_true
  rw [List.find?_append, this]
  simp [Value.isStr]
theorem getL_snoc_other {es : List DictEntry} {name y : Str} {k : Int} {t : Tok} {v u : Value} (h : getL name es = some (some u)) : getL name (es ++ [⟨k, .str y t, v⟩]) = some (some u) := by
  unfold getL at h ⊢
  split at h
  · rename_i e he
    cases h
    rw [List.find?_append, he]; rfl
  · split at h <;> (first | exact nosm h | cases h)
theorem ini_step {fI body} (ok : X.Ok) (co : CdO X fI body) {name : Str} {p1 p2 p3 p4 : Pos} {v : Value} {ys : List Str} {rest : List Stmt} {Q : Flow → Shared → Prop} (ht : takerIn X.K X.C name = some none) (F : Fr base L s.heap m) (hk : X.K.In base)
    (N : News base L s.heap [(x, instObj X.C dx), (dx, dictOf es n)]) (hne : x ≠ dx) (hL : env.locals = L) (hf : env.scope.kind = .function) (hk' : ∀ y ∈ iniNames, env.kindOf y = some .local) (hin : name ∈ iniNames)
    (m1 : m (Str.ofString "self") = some (.ref x)) (m2 : m name = some v) (hd : (name == ("__debug__" : Str)) = false) (hes : KeysIn es ys) (hy : name ∉ ys) (hz : es.length ≤ 900)
    (h : ∀ h' tk es', Fr base L h' m → News base L h' [(x, instObj X.C dx), (dx, dictOf es' (n + 1))] → KeysIn es' (name :: ys) → es'.length = es.length + 1 → getL name es' = some (some v) → (∀ z u, getL z es = some (some u) → getL z es' = some (some u)) →
      wpAny (MM X) A (execs rest env) Q NoE { s with heap := h', toks := tk }) :
    wpAny (MM X) A (execs (iniStmt name p1 p2 p3 p4 :: rest) env) Q NoE s :=
  wpAny_execs_cons (ini_one ok co ht F hk N hne hL hf (hk' _ (.head _)) (hk' _ hin) m1 m2 hd (hes.not hy) hes.ref hz fun h' u F' N' tk => h h' tk _ F' N' hes.snoc (by simp) (getL_snoc_same (hes.not hy)) fun z w e => getL_snoc_other e)
theorem ini_all {fI body} (ok : X.Ok) (co : CdO X fI body) {r1 r2 r3 r4 r5 : Value} {Q : Flow → Shared → Prop} (F : Fr base L s.heap m) (hk : X.K.In base)
    (N : News base L s.heap [(x, instObj X.C dx), (dx, dictOf [] 0)]) (hne : x ≠ dx) (hL : env.locals = L) (hf : env.scope.kind = .function) (hk' : ∀ y ∈ iniNames, env.kindOf y = some .local)
    (m0 : m (Str.ofString "self") = some (.ref x)) (m1 : m (Str.ofString "rows") = some r1) (m2 : m (Str.ofString "names") = some r2) (m3 : m (Str.ofString "temps") = some r3) (m4 : m (Str.ofString "trys") = some r4) (m5 : m (Str.ofString "lives") = some r5)
    (h : ∀ h' es k tk', Fr base L h' m → News base L h' [(x, instObj X.C dx), (dx, dictOf es k)] → getL (Str.ofString "rows") es = some (some r1) → getL (Str.ofString "names") es = some (some r2) → getL (Str.ofString "temps") es = some (some r3) →
      getL (Str.ofString "trys") es = some (some r4) → getL (Str.ofString "lives") es = some (some r5) → Q .next { s with heap := h', toks := tk' }) :
    wpAny (MM X) A (execs body env) Q NoE s := by
  obtain ⟨p, rfl⟩ := co.body
  refine ini_step ok co co.t1 F hk N hne hL hf hk' (by simp [iniNames]) m0 m1 (by decide) (ys := []) .nil (by decide) (by simp) fun h1 tk1 e1 F1 N1 K1 l1 g1 o1 => ?_
  refine ini_step (s := { s with heap := h1, toks := tk1 }) ok co co.t2 F1 hk N1 hne hL hf hk' (by simp [iniNames]) m0 m2 (by decide) K1 (by decide) (by simp at l1; lia) fun h2 tk2 e2 F2 N2 K2 l2 g2 o2 => ?_
  refine ini_step (s := { s with heap := h2, toks := tk2 }) ok co co.t3 F2 hk N2 hne hL hf hk' (by simp [iniNames]) m0 m3 (by decide) K2 (by decide) (by simp at l1; lia) fun h3 tk3 e3 F3 N3 K3 l3 g3 o3 => ?_
  refine ini_step (s := { s with heap := h3, toks := tk3 }) ok co co.t4 F3 hk N3 hne hL hf hk' (by simp [iniNames]) m0 m4 (by decide) K3 (by decide) (by simp at l1; lia) fun h4 tk4 e4 F4 N4 K4 l4 g4 o4 => ?_
  refine ini_step (s := { s with heap := h4, toks := tk4 }) ok co co.t5 F4 hk N4 hne hL hf hk' (by simp [iniNames]) m0 m5 (by decide) K4 (by decide) (by simp at l1; lia) fun h5 tk5 e5 F5 N5 K5 l5 g5 o5 => ?_
  exact wpAny_execs_nil (h h5 e5 _ tk5 F5 N5 (o5 _ _ (o4 _ _ (o3 _ _ (o2 _ _ g1)))) (o5 _ _ (o4 _ _ (o3 _ _ g2))) (o5 _ _ (o4 _ _ g3)) (o5 _ _ g4) g5)
end
section
variable {X : Ctx} {d : Nat} {nm : List Str} {sc : Scope}
theorem code_ok {fI body} (ok : X.Ok) (co : CdO X fI body) : VOpN X (d + 2) (fun rs => call (.ref X.C) rs []) vCode := fun A s β σ vs rs w σ' ad S vr e => by
  revert vr; apply vCode_e e; intro _ _ _ _ _ e vr
  · apply so2 e
    cases vr with
    | cons v1 vr =>
    cases vr with
    | cons v2 vr =>
    cases vr with
    | cons v3 vr =>
    cases vr with
    | cons v4 vr =>
    cases vr with
    | cons v5 vr =>
    cases vr
    rename_i w1 w2 w3 w4 w5 r1 r2 r3 r4 r5
    obtain ⟨o, fd, hfo, hfd, hcd, hbd, hclo, hco, hgen, hkind, hnames, hbind⟩ := co.fd
    have XK : X.K.In s.heap := fun a o e => S.base _ _ (ok.kin a o e)
    obtain ⟨hh, g, dr, t, os⟩ := s
    refine wpAny_call (make_core (makes_of XK co.mkc) (looks_findIn XK co.ini) (fun self => bind_fn XK self co.fn) (.inl rfl) ?_)
    have up : ∀ b o, hh.get? b = some o → ((hh.push emptyDict).push (instObj X.C hh.objs.size)).get? b = some o := fun b o e => Heap.get?_push_of_some _ (Heap.get?_push_of_some _ e)
    have XK' : X.K.In ((hh.push emptyDict).push (instObj X.C hh.objs.size)) := fun a o e => up _ _ (XK a o e)
    have S' : SRel X β σ ((hh.push emptyDict).push (instObj X.C hh.objs.size)) := S.ext up
    have ad' : Adm (d + 1) (A.under (.builtin "type.__call__" ⟨.ref X.C :: [r1, r2, r3, r4, r5], []⟩)) := by
      refine ⟨?_, ?_, ?_, ?_⟩
      · exact ad.handled
      · show PySem.pushGuards (Code.builtin "type.__call__" ⟨.ref X.C :: [r1, r2, r3, r4, r5], []⟩).guards A.guards = _
        rw [ad.guards]
        rfl
      · rw [depth_under_make]; have := ad.depth; lia
      · rw [units_under_make]; have := ad.units; lia
    have hsz : ((hh.push emptyDict).push (instObj X.C hh.objs.size)).objs.size = hh.objs.size + 2 := by rw [Heap.size_push, Heap.size_push]
    have hx : ((hh.push emptyDict).push (instObj X.C hh.objs.size)).get? (hh.objs.size + 1) = some (instObj X.C hh.objs.size) := by
      have := Heap.get?_push_size (hh.push emptyDict) (o := instObj X.C hh.objs.size) rfl
      rwa [Heap.size_push] at this
    have hdx : ((hh.push emptyDict).push (instObj X.C hh.objs.size)).get? hh.objs.size = some (dictOf [] 0) := Heap.get?_push_of_some _ (Heap.get?_push_size _ rfl)
    generalize hH : (hh.push emptyDict).push (instObj X.C hh.objs.size) = H2 at *
    refine codeAny_call_cells (s := ⟨H2, g, dr, t, os⟩) (binds := iniNames.zip [.ref (hh.objs.size + 1), r1, r2, r3, r4, r5]) ad'.deep (XK' _ _ hfo) hfd ((ok.top.nolimit.keeps S.base).keeps up) (codeRec_of XK' hcd) hbd (hbind _ rfl) hclo (fun y hy => ?_) (fun s₁ xx => ?_) hco hgen hkind
    · have hy' := List.of_mem_zip hy
      exact .inl (hnames _ hy'.1)
    · have hk1 : ∀ b o, H2.get? b = some o → s₁.heap.get? b = some o := xx.toInCall.keep
      obtain ⟨h₁, tk, hs₁⟩ := xx.toInCall.same
      subst hs₁
      have hkl : ∀ y ∈ iniNames, (callEnvC fd H2.objs.size fI).kindOf y = some .local := fun y hy => hnames y hy
      have hget : ∀ (i : Nat) (y : Str) (r : Value), iniNames[i]? = some y → [Value.ref (hh.objs.size + 1), r1, r2, r3, r4, r5][i]? = some r → bindL (callEnvC fd H2.objs.size fI).kindOf (iniNames.zip [.ref (hh.objs.size + 1), r1, r2, r3, r4, r5]) (fun _ => none) y = some r := fun i y r e1 e2 =>
        bindL_get (i := i) (by decide) e1 e2 (hkl y (List.mem_of_getElem? e1))
      have F₁ : Fr hh (callEnvC fd H2.objs.size fI).locals h₁ _ := ⟨xx.toInCall.ns, fun b o e => hk1 b o (up b o e), by show hh.objs.size ≤ H2.objs.size; rw [hsz]; exact Nat.le_add_right _ 2⟩
      have N₁ : News hh (callEnvC fd H2.objs.size fI).locals h₁ [(hh.objs.size + 1, instObj X.C hh.objs.size), (hh.objs.size, dictOf [] 0)] := by
        intro p hp
        have fresh : ∀ a, hh.objs.size ≤ a → hh.get? a = none := fun a ha => by
          cases e : hh.get? a with
          | none => rfl
          | some o' => exact absurd (Heap.lt_size e) (Nat.not_lt.mpr ha)
        rcases List.mem_cons.mp hp with rfl | hp
        · exact ⟨hk1 _ _ hx, (by show hh.objs.size + 1 ≠ H2.objs.size; rw [hsz]; exact Nat.ne_of_lt (Nat.lt_succ_self _)), fresh _ (Nat.le_succ _)⟩
        · rw [List.mem_singleton] at hp; subst hp
          exact ⟨hk1 _ _ hdx, (by show hh.objs.size ≠ H2.objs.size; rw [hsz]; exact Nat.ne_of_lt (Nat.lt_add_of_pos_right (by decide))), fresh _ (Nat.le_refl _)⟩
      refine wpAny_mono (ini_all (s := { heap := h₁, gens := g, drawn := dr, toks := tk, os := os }) (r1 := r1) (r2 := r2) (r3 := r3) (r4 := r4) (r5 := r5) (Q := fun f s' => f = .next ∧ EPost X ⟨hh, g, dr, t, os⟩ β (.ref (σ.length + 1)) (σ ++ [.attrs w1 w2 w3 w4 w5] ++ [.inst σ.length]) (.ref (hh.objs.size + 1)) s') ok co F₁ XK N₁ (Nat.succ_ne_self _) rfl hkind hkl
        (hget 0 _ _ rfl rfl) (hget 1 _ _ rfl rfl) (hget 2 _ _ rfl rfl) (hget 3 _ _ rfl rfl) (hget 4 _ _ rfl rfl) (hget 5 _ _ rfl rfl) fun h' es k tk' F' N' g1 g2 g3 g4 g5 => ⟨rfl, ?_⟩) (fun f s' p => ?_) fun _ _ x => x.elim
      · have up' : ∀ b o, hh.get? b = some o → h'.get? b = some o := F'.keep
        have S₁ := S.ext up'
        have gr : Grow [] β hh β h' := Grow.ext up'
        have fr : hh.get? hh.objs.size = none := size_fresh hh
        have fr1 : hh.get? (hh.objs.size + 1) = none := (N' _ (.head _)).2.2
        have hbig : mainGlobals < hh.objs.size := by
          obtain ⟨o', _, _, ho, _⟩ := ok.top.g
          exact Heap.lt_size (S.base _ _ ho)
        have hb : ∀ {a}, hh.get? a = none → X.h₀.get? a = none := fun {a} fa => by
          cases e : X.h₀.get? a with
          | none => rfl
          | some o => have := S.base _ o e; rw [fa] at this; exact nosm this
        have hm : ∀ {a}, hh.get? a = none → a ∉ β := fun {a} fa m => by obtain ⟨o', e', _⟩ := S.alive m; rw [fa] at e'; cases e'
        have A1 := S₁.adopt (hm fr) (hb fr) hbig (mo := .attrs w1 w2 w3 w4 w5) ⟨es, k, r1, r2, r3, r4, r5, (N' _ (.tail _ (.head _))).1, g1, g2, g3, g4, g5, v1.mono gr, v2.mono gr, v3.mono gr, v4.mono gr, v5.mono gr⟩
        have hne : hh.objs.size + 1 ∉ β ++ [hh.objs.size] := fun m => by
          rcases List.mem_append.mp m with m | m
          · exact hm fr1 m
          · simp at m
        have A2 := A1.adopt hne (hb fr1) (Nat.lt_succ_of_lt hbig) (mo := .inst σ.length) ⟨hh.objs.size, by rw [← S.len]; simp, (N' _ (.head _)).1⟩
        exact ⟨_, A2, (gr.adopt fr).adopt fr1, .ref (by rw [← S.len]; simp), rfl, rfl⟩
      · obtain ⟨rfl, q⟩ := p
        exact ⟨rfl, q⟩
theorem simE_new {fI body} (ok : X.Ok) (co : CdO X fI body) {a : Expr} {as : List Expr} {p pos} {ms : List Ex} (hL : SimL X (d + 2) nm sc (a :: as) (eL ms)) (hk : sc.names.lookup (Str.ofString "Code") = some .globalImplicit) (hst : NotStars (a :: as)) :
    SimE X (d + 2) nm sc (.Call (.Name (Str.ofString "Code") p) (a :: as) [] pos) (eN vCode ms) := .mk fun A env s β ρ σ v σ' ad en S F e => by
  unfold eN at e
  split at e
  · rename_i vs σ₁ es
    rw [show eval (.Call (.Name (Str.ofString "Code") p) (a :: as) [] pos) env = (do callWith pos (← eval (.Name (Str.ofString "Code") p) env) [] (backTo pos (starEach (a :: as) env)) (backToKw pos (keywordEach [] env))) from rfl]
    refine wpAny_bind (Calls.Name_function_global en.fn (by rw [en.kindOf]; exact hk) (Calls.loadGlobal_global (mg := X.mg) (by rw [en.globals]; exact ok.top.g.keeps S.base) (mg_of ok.kin ok.top.g co.cls) ?_) (by decide))
    have key := hL.run A env s β ρ σ vs σ₁ pos ad en S F es
    refine callWith_K (K := X.K) ok.kin co.keep (wpAny_mono key (fun rvs s₁ q => ?_) fun _ _ x => x) (starEach_cons hst.1) (starEach_plain env pos hst.2)
    obtain ⟨β₁, S₁, g, vr, r⟩ := q
    refine ⟨fun a o e => S₁.base _ _ (ok.kin a o e), ?_⟩
    exact wpAny_mono (code_ok (d := d) ok co A s₁ β₁ σ₁ vs rvs v σ' ad S₁ vr e) (fun _ _ p => p.after g r) fun _ _ x => x
  · exact nosm e
end
end
section
section
variable {X : Ctx} {d : Nat} {nm : List Str} {sc : Scope}
theorem sEg (ok : X.Ok) {a : Expr} {as : List Expr} {p pos} {ms : List Ex} (hL : SimL X d nm sc (a :: as) (eL ms)) (hk : sc.names.lookup (Str.ofString "len") = some .globalImplicit) (hst : NotStars (a :: as)) : SimE X d nm sc (.Call (.Name (Str.ofString "len") p) (a :: as) [] pos) (eN vLen ms) :=
  simE_bi ok (by decide) (fv := .builtin "len") (by rfl) (by decide) (.inl ⟨_, rfl⟩) len_ok hL hk (by decide) hst
theorem sEr (ok : X.Ok) {a : Expr} {as : List Expr} {p pos} {ms : List Ex} (hL : SimL X d nm sc (a :: as) (eL ms)) (hk : sc.names.lookup (Str.ofString "range") = some .globalImplicit) (hst : NotStars (a :: as)) : SimE X d nm sc (.Call (.Name (Str.ofString "range") p) (a :: as) [] pos) (eN vRange ms) :=
  simE_bi ok (by decide) (fv := .type "range") (by rfl) (by decide) (.inr ⟨_, rfl⟩) range_ok hL hk (by decide) hst
theorem simE_listOf (ok : X.Ok) {a : Expr} {as : List Expr} {p pos} {ms : List Ex} (hL : SimL X d nm sc (a :: as) (eL ms)) (hk : sc.names.lookup (Str.ofString "list") = some .globalImplicit) (hst : NotStars (a :: as)) : SimE X d nm sc (.Call (.Name (Str.ofString "list") p) (a :: as) [] pos) (eN vListOf ms) :=
  simE_bi ok (by decide) (fv := .type "list") (by rfl) (by decide) (.inr ⟨_, rfl⟩) (listOf_ok ok) hL hk (by decide) hst
theorem simE_tupleOf (ok : X.Ok) {a : Expr} {as : List Expr} {p pos} {ms : List Ex} (hL : SimL X d nm sc (a :: as) (eL ms)) (hk : sc.names.lookup (Str.ofString "tuple") = some .globalImplicit) (hst : NotStars (a :: as)) : SimE X d nm sc (.Call (.Name (Str.ofString "tuple") p) (a :: as) [] pos) (eN vTupleOf ms) :=
  simE_bi ok (by decide) (fv := .type "tuple") (by rfl) (by decide) (.inr ⟨_, rfl⟩) tupleOf_ok hL hk (by decide) hst
theorem simE_dictOf (ok : X.Ok) {a : Expr} {as : List Expr} {p pos} {ms : List Ex} (hL : SimL X d nm sc (a :: as) (eL ms)) (hk : sc.names.lookup (Str.ofString "dict") = some .globalImplicit) (hst : NotStars (a :: as)) : SimE X d nm sc (.Call (.Name (Str.ofString "dict") p) (a :: as) [] pos) (eN vDictOf ms) :=
  simE_bi ok (by decide) (fv := .type "dict") (by rfl) (by decide) (.inr ⟨_, rfl⟩) (dictOf_ok ok) hL hk (by decide) hst
theorem simE_sorted (ok : X.Ok) {a : Expr} {as : List Expr} {p pos} {ms : List Ex} (hL : SimL X d nm sc (a :: as) (eL ms)) (hk : sc.names.lookup (Str.ofString "sorted") = some .globalImplicit) (hst : NotStars (a :: as)) : SimE X d nm sc (.Call (.Name (Str.ofString "sorted") p) (a :: as) [] pos) (eN vSorted ms) :=
  simE_bi ok (by decide) (fv := .builtin "sorted") (by rfl) (by decide) (.inl ⟨_, rfl⟩) (sorted_ok ok) hL hk (by decide) hst
theorem simE_max (ok : X.Ok) {a : Expr} {as : List Expr} {p pos} {ms : List Ex} (hL : SimL X d nm sc (a :: as) (eL ms)) (hk : sc.names.lookup (Str.ofString "max") = some .globalImplicit) (hst : NotStars (a :: as)) : SimE X d nm sc (.Call (.Name (Str.ofString "max") p) (a :: as) [] pos) (eN vMax ms) :=
  simE_bi ok (by decide) (fv := .builtin "max") (by rfl) (by decide) (.inl ⟨_, rfl⟩) max_ok hL hk (by decide) hst
theorem simE_strOf (ok : X.Ok) {a : Expr} {as : List Expr} {p pos} {ms : List Ex} (hL : SimL X d nm sc (a :: as) (eL ms)) (hk : sc.names.lookup (Str.ofString "str") = some .globalImplicit) (hst : NotStars (a :: as)) : SimE X d nm sc (.Call (.Name (Str.ofString "str") p) (a :: as) [] pos) (eN vStr ms) :=
  simE_bi ok (by decide) (fv := .type "str") (by rfl) (by decide) (.inr ⟨_, rfl⟩) str_ok hL hk (by decide) hst
theorem simE_repr (ok : X.Ok) {a : Expr} {as : List Expr} {p pos} {ms : List Ex} (hL : SimL X d nm sc (a :: as) (eL ms)) (hk : sc.names.lookup (Str.ofString "repr") = some .globalImplicit) (hst : NotStars (a :: as)) : SimE X d nm sc (.Call (.Name (Str.ofString "repr") p) (a :: as) [] pos) (eN vRepr ms) :=
  simE_bi ok (by decide) (fv := .builtin "repr") (by rfl) (by decide) (.inl ⟨_, rfl⟩) repr_ok hL hk (by decide) hst
theorem sEp {o a : Expr} {apos pos : Pos} {mo ma : Ex} (ho : SimE X d nm sc o mo) (ha : SimE X d nm sc a ma) (hst : NotStar a) (hbase : ∀ env, attributeBase o (Str.ofString "append") env (eval o env) = eval o env) (hline : (apos.endLine == pos.line) = true) :
    SimE X d nm sc (.Call (.Attribute o (Str.ofString "append") apos) [a] [] pos) (eM "list" vAppend mo [ma]) :=
  simE_meth PySem.F.plainAttrs_list slot_list_append PySem.F.type_list_append append_ok ho (sLc ha sLn hst) nofun ⟨hst, trivial⟩ hbase hline (by simp)
theorem simE_extend {o a : Expr} {apos pos : Pos} {mo ma : Ex} (ho : SimE X d nm sc o mo) (ha : SimE X d nm sc a ma) (hst : NotStar a) (hbase : ∀ env, attributeBase o (Str.ofString "extend") env (eval o env) = eval o env) (hline : (apos.endLine == pos.line) = true) :
    SimE X d nm sc (.Call (.Attribute o (Str.ofString "extend") apos) [a] [] pos) (eM "list" vExtend mo [ma]) :=
  simE_meth PySem.F.plainAttrs_list PySem.F.slot_list_extend PySem.F.type_list_extend extend_ok ho (sLc ha sLn hst) nofun ⟨hst, trivial⟩ hbase hline (by simp)
theorem simE_count {o a : Expr} {apos pos : Pos} {mo ma : Ex} (ho : SimE X d nm sc o mo) (ha : SimE X d nm sc a ma) (hst : NotStar a) (hbase : ∀ env, attributeBase o (Str.ofString "count") env (eval o env) = eval o env) (hline : (apos.endLine == pos.line) = true) :
    SimE X d nm sc (.Call (.Attribute o (Str.ofString "count") apos) [a] [] pos) (eM "list" vCount mo [ma]) :=
  simE_meth PySem.F.plainAttrs_list PySem.F.slot_list_count PySem.F.type_list_count count_ok ho (sLc ha sLn hst) nofun ⟨hst, trivial⟩ hbase hline (by simp)
theorem simE_pop {o : Expr} {apos pos : Pos} {mo : Ex} (ho : SimE X d nm sc o mo) (hbase : ∀ env, attributeBase o (Str.ofString "pop") env (eval o env) = eval o env) (hline : (apos.endLine == pos.line) = true) :
    SimE X d nm sc (.Call (.Attribute o (Str.ofString "pop") apos) [] [] pos) (eM "list" vPop mo []) :=
  simE_meth PySem.F.plainAttrs_list PySem.F.slot_list_pop PySem.F.type_list_pop pop_ok ho sLn (fun _ => rfl) trivial hbase hline (by simp)
theorem simE_get {o a b : Expr} {apos pos : Pos} {mo ma mb : Ex} (ho : SimE X d nm sc o mo) (ha : SimE X d nm sc a ma) (hb : SimE X d nm sc b mb) (hst : NotStar a) (hst' : NotStar b) (hbase : ∀ env, attributeBase o (Str.ofString "get") env (eval o env) = eval o env) (hline : (apos.endLine == pos.line) = true) :
    SimE X d nm sc (.Call (.Attribute o (Str.ofString "get") apos) [a, b] [] pos) (eM "dict" vGet mo [ma, mb]) :=
  simE_meth PySem.F.plainAttrs_dict PySem.F.slot_dict_get PySem.F.type_dict_get get_ok ho (sLc ha (sLc hb sLn hst') hst) nofun ⟨hst, hst', trivial⟩ hbase hline (by simp)
theorem simE_values {o : Expr} {apos pos : Pos} {mo : Ex} (ho : SimE X d nm sc o mo) (hbase : ∀ env, attributeBase o (Str.ofString "values") env (eval o env) = eval o env) (hline : (apos.endLine == pos.line) = true) :
    SimE X d nm sc (.Call (.Attribute o (Str.ofString "values") apos) [] [] pos) (eM "dict" vVals mo []) :=
  simE_meth PySem.F.plainAttrs_dict PySem.F.slot_dict_values PySem.F.type_dict_values vals_ok ho sLn (fun _ => rfl) trivial hbase hline (by simp)
noncomputable def capsCheck (nm nmI : List Str) (sc scope : Scope) (k : Nat) (caps : List Nat) : Bool :=
  ((List.range nmI.length).all fun j => decide (j < k) || (match nmI[j]?, caps[j - k]? with
    | some x, some i => idx nm x == some i && sc.names.lookup x == some .cell && (relS scope sc).names.lookup x == some .cell && scope.names.contains (x, NameKind.free)
    | _, _ => false)) &&
  scope.names.all (fun y => y.2 != .cell && (y.2 != .free || sc.names.lookup y.1 == some .cell) && (y.2 != .local || scope.names.lookup y.1 == some .local)) && scope.kind == .function
theorem cpO {nm nmI : List Str} {sc scope : Scope} {k : Nat} {caps : List Nat} (h : capsCheck nm nmI sc scope k caps = true) : CapOk nm nmI sc scope k caps := by
  unfold capsCheck at h
  simp only [Bool.and_eq_true, List.all_eq_true, beq_iff_eq] at h
  obtain ⟨⟨h1, h2⟩, h3⟩ := h
  refine ⟨fun x j e hj => ?_, fun y hy => ?_, fun y hy e => ?_, h3, fun y hy e => ?_⟩
  · have e' := idx_get e
    have hl := (List.getElem?_eq_some_iff.mp e').1
    have q := h1 j (List.mem_range.mpr hl)
    rw [e'] at q
    simp only [Bool.or_eq_true, decide_eq_true_eq] at q
    rcases q with q | q
    · lia
    · split at q
      · rename_i x' i hx hi
        cases hx
        simp only [Bool.and_eq_true, beq_iff_eq, List.contains_iff_mem] at q
        exact ⟨i, hi, q.1.1.1, q.1.1.2, q.1.2, q.2⟩
      · cases q
  · have q := h2 y hy
    simp only [Bool.and_eq_true, bne_iff_ne] at q
    exact q.1.1
  · have q := h2 y hy
    simp only [Bool.and_eq_true, Bool.or_eq_true, bne_iff_ne, beq_iff_eq] at q
    exact q.1.2.resolve_left fun q => q e
  · have q := h2 y hy
    simp only [Bool.and_eq_true, Bool.or_eq_true, bne_iff_ne, beq_iff_eq] at q
    exact q.2.resolve_left fun q => q e
theorem simF_zero (ok : X.Ok) {name : Str} {o : Obj} {fd : FuncData} {f : Addr} (hg : nsIn X.K mainGlobals name = some (some (.ref f))) (ho : X.K.lookup f = some o) (hf : o.data = .func fd) : SimF X d name (fun _ _ => none) :=
  ⟨f, o, fd, hg, ok.kin _ _ ho, hf, fun A s β σ args rargs v σ' _ _ _ e => nomatch e⟩
theorem SimF.le {d' : Nat} {name : Str} {m} (h : SimF X d name m) (hd : d ≤ d') : SimF X d' name m := by
  obtain ⟨a, o, fd, h1, h2, h3, h4⟩ := h
  exact ⟨a, o, fd, h1, h2, h3, fun A s β σ args rargs v σ' ad => h4 A s β σ args rargs v σ' (ad.le hd)⟩
end
end
section
inductive We (o : Option (V × H)) (Q : V → H → Prop) : Prop
  | mk (v : V) (σ : H) (e : o = some (v, σ)) (q : Q v σ)
inductive Wt (o : Option (Bool × H)) (Q : Bool → H → Prop) : Prop
  | mk (v : Bool) (σ : H) (e : o = some (v, σ)) (q : Q v σ)
inductive Wl (o : Option (List V × H)) (Q : List V → H → Prop) : Prop
  | mk (v : List V) (σ : H) (e : o = some (v, σ)) (q : Q v σ)
inductive Ws (o : Option (Fl × R × H)) (N : R → H → Prop) (T : V → H → Prop) : Prop
  | next (ρ : R) (σ : H) (e : o = some (.next, ρ, σ)) (q : N ρ σ)
  | ret (v : V) (ρ : R) (σ : H) (e : o = some (.ret v, ρ, σ)) (q : T v σ)
theorem We.mono {o P Q} (h : We o P) (f : ∀ v σ, P v σ → Q v σ) : We o Q := let ⟨v, σ, e, p⟩ := h; ⟨v, σ, e, f v σ p⟩
theorem We.of {o : Option (V × H)} {v σ} {Q : V → H → Prop} (h : o = some (v, σ)) (q : Q v σ) : We o Q := ⟨v, σ, h, q⟩
abbrev Ew := R → H → (V → H → Prop) → Prop
abbrev Tw := R → H → (Bool → H → Prop) → Prop
abbrev Lw := R → H → (List V → H → Prop) → Prop
abbrev Sw := R → H → (R → H → Prop) → (V → H → Prop) → Prop
structure PE where
  run : Ex
  wp : Ew
  ok : ∀ ρ σ Q, wp ρ σ Q → We (run ρ σ) Q
structure PT where
  run : Tx
  wp : Tw
  ok : ∀ ρ σ Q, wp ρ σ Q → Wt (run ρ σ) Q
structure PS where
  run : Sx
  wp : Sw
  ok : ∀ ρ σ N T, wp ρ σ N T → Ws (run ρ σ) N T
noncomputable def nth : R → Nat → Option V
  | [], _ => none
  | x :: _, 0 => x
  | _ :: r, n + 1 => nth r n
theorem nth_join : ∀ (ρ : R) (i : Nat), (ρ[i]?).join = nth ρ i
  | [], _ => rfl
  | none :: _, 0 => rfl
  | some _ :: _, 0 => rfl
  | _ :: r, n + 1 => nth_join r n
theorem nth_some {ρ : R} {i : Nat} {v} (h : nth ρ i = some v) : ρ[i]? = some (some v) := by
  rw [← nth_join] at h
  cases e : ρ[i]? with
  | none => rw [e] at h; cases h
  | some o => rw [e] at h; exact congrArg some h
noncomputable def oV (o : Option V) (σ : H) (Q : V → H → Prop) : Prop := match o with
  | some v => Q v σ
  | none => False
noncomputable def oR (o : Option R) (σ : H) (N : R → H → Prop) : Prop := match o with
  | some ρ => N ρ σ
  | none => False
theorem oR_i {o : Option R} {ρ σ} {N : R → H → Prop} (h : o = some ρ) (q : N ρ σ) : oR o σ N := by subst h; exact q
noncomputable def pC (v : V) : PE := ⟨eC v, fun _ σ Q => Q v σ, fun _ _ _ h => ⟨_, _, by unfold eC; rfl, h⟩⟩
noncomputable def pV (i : Nat) : PE := ⟨eV i, fun ρ σ Q => oV (nth ρ i) σ Q, fun ρ σ Q h => by
  cases e : nth ρ i with
  | none => rw [e] at h; exact h.elim
  | some v => rw [e] at h; exact ⟨v, σ, by unfold eV; rw [nth_some e], h⟩⟩
noncomputable def k1 (f : V → H → Option (V × H)) (Q : V → H → Prop) (v : V) (σ : H) : Prop := We (f v σ) Q
noncomputable def k2' (f : V → V → H → Option (V × H)) (v : V) (Q : V → H → Prop) (w : V) (σ : H) : Prop := We (f v w σ) Q
noncomputable def k2 (f : V → V → H → Option (V × H)) (b : Ew) (ρ : R) (Q : V → H → Prop) (v : V) (σ : H) : Prop := b ρ σ (k2' f v Q)
noncomputable def p1 (f : V → H → Option (V × H)) (a : PE) : PE := ⟨e1 f a.run, fun ρ σ Q => a.wp ρ σ (k1 f Q), fun ρ σ Q h => by
  obtain ⟨v, σ', e, w, σ2, e2, q⟩ := a.ok _ _ _ h
  exact ⟨w, σ2, by unfold e1; rw [e]; exact e2, q⟩⟩
noncomputable def p2 (f : V → V → H → Option (V × H)) (a b : PE) : PE := ⟨e2 f a.run b.run, fun ρ σ Q => a.wp ρ σ (k2 f b.wp ρ Q), fun ρ σ Q h => by
  obtain ⟨v, σ', e, h⟩ := a.ok _ _ _ h
  obtain ⟨w, σ2, e', x, σ3, e3, q⟩ := b.ok _ _ _ h
  exact ⟨x, σ3, by unfold e2; simp only [e, e']; exact e3, q⟩⟩
noncomputable def nthV : List V → Nat → Option V
  | [], _ => none
  | x :: _, 0 => some x
  | _ :: r, n + 1 => nthV r n
theorem nthV_eq : ∀ (l : List V) (i : Nat), nthV l i = l[i]?
  | [], _ => rfl
  | _ :: _, 0 => rfl
  | _ :: r, n + 1 => nthV_eq r n
noncomputable def lenV : List V → Nat
  | [] => 0
  | _ :: r => (lenV r).succ
theorem lenV_eq : ∀ l : List V, lenV l = l.length
  | [] => rfl
  | _ :: r => congrArg Nat.succ (lenV_eq r)
noncomputable def idxO (v w : V) : Option V := v.onT fun vs => w.onI fun i => Int.casesOn (motive := fun _ => Option V) i (fun k => Bool.casesOn (motive := fun _ => Option V) (Nat.ble (lenV vs) 1000) none (nthV vs k)) fun _ => none
noncomputable def fIdx (v w : V) (σ : H) (Q : V → H → Prop) : Prop := Option.casesOn (motive := fun _ => Prop) (idxO v w) (We (vIdx v w σ) Q) fun x => Q x σ
theorem idxO_e {v w x : V} {P : V → V → Prop} (e : idxO v w = some x) (k : ∀ vs i, lenV vs ≤ 1000 → nthV vs i = some x → P (.tup vs) (.int (Int.ofNat i))) : P v w := by
  unfold idxO at e
  apply V.onT_e (P := fun v => P v w) e; intro vs e
  apply V.onI_e e; intro i e
  induction i using Int.casesOn
  · cases hb : Nat.ble (lenV vs) 1000
    · rw [hb] at e; cases e
    · rw [hb] at e; exact k vs _ (Nat.le_of_ble_eq_true hb) e
  · cases e
theorem fIdx_ok {v w : V} {σ : H} {Q : V → H → Prop} (h : fIdx v w σ Q) : We (vIdx v w σ) Q := by
  unfold fIdx at h
  cases e : idxO v w with
  | none => rw [e] at h; exact h
  | some x =>
    rw [e] at h
    apply idxO_e (P := fun v w => We (vIdx v w σ) Q) e; intro vs k hl hx
    rw [lenV_eq] at hl; rw [nthV_eq] at hx
    have hk := (List.getElem?_eq_some_iff.mp hx).1
    refine ⟨x, σ, ?_, h⟩
    show (if (0 : Int) ≤ Int.ofNat k ∧ Int.ofNat k < vs.length ∧ vs.length ≤ 100000 then vs[(Int.ofNat k).toNat]?.bind (ret1 σ) else none) = _
    rw [if_pos ⟨by show (0 : Int) ≤ (k : Int); lia, by show (k : Int) < _; lia, by lia⟩]
    have : Int.toNat (Int.ofNat k) = k := rfl
    rw [this, hx]; rfl
noncomputable def kI' (v : V) (Q : V → H → Prop) (w : V) (σ : H) : Prop := fIdx v w σ Q
noncomputable def kI (b : Ew) (ρ : R) (Q : V → H → Prop) (v : V) (σ : H) : Prop := b ρ σ (kI' v Q)
noncomputable def pI (a b : PE) : PE := ⟨e2 vIdx a.run b.run, fun ρ σ Q => a.wp ρ σ (kI b.wp ρ Q), fun ρ σ Q h => by
  obtain ⟨v, σ', e, h⟩ := a.ok _ _ _ h
  obtain ⟨w, σ2, e', h⟩ := b.ok _ _ _ h
  obtain ⟨x, σ3, e3, q⟩ := fIdx_ok h
  exact ⟨x, σ3, by unfold e2; simp only [e, e']; exact e3, q⟩⟩
noncomputable def kL' (v : V) (Q : List V → H → Prop) (vs : List V) (σ : H) : Prop := Q (v :: vs) σ
noncomputable def kL (r : Lw) (ρ : R) (Q : List V → H → Prop) (v : V) (σ : H) : Prop := r ρ σ (kL' v Q)
noncomputable def wL : List PE → Lw
  | [] => fun _ σ Q => Q [] σ
  | a :: r => fun ρ σ Q => a.wp ρ σ (kL (wL r) ρ Q)
theorem wL_ok : ∀ (as : List PE) ρ σ (Q : List V → H → Prop), wL as ρ σ Q → Wl (eL (as.map PE.run) ρ σ) Q
  | [], _, _, _, h => ⟨_, _, rfl, h⟩
  | a :: r, ρ, σ, Q, h => by
    obtain ⟨v, σ', e, h⟩ := a.ok _ _ _ h
    obtain ⟨vs, σ2, e', q⟩ := wL_ok r _ _ _ h
    exact ⟨v :: vs, σ2, by rw [List.map_cons]; unfold eL; simp only [e, e'], q⟩
noncomputable def kN (f : List V → H → Option (V × H)) (Q : V → H → Prop) (vs : List V) (σ : H) : Prop := We (f vs σ) Q
noncomputable def kT (Q : V → H → Prop) (vs : List V) (σ : H) : Prop := cond (Nat.ble (lenV vs) 1000) (Q (.tup vs) σ) False
noncomputable def kD (Q : V → H → Prop) (vs : List V) (σ : H) : Prop := cond (Nat.ble (lenV vs) 1000) (Q (.ref σ.length) (σ ++ [.list vs])) False
noncomputable def pN (f : List V → H → Option (V × H)) (as : List PE) : PE := ⟨eN f (as.map PE.run), fun ρ σ Q => wL as ρ σ (kN f Q), fun ρ σ Q h => by
  obtain ⟨vs, σ', e, w, σ2, e', q⟩ := wL_ok _ _ _ _ h
  exact ⟨w, σ2, by unfold eN; rw [e]; exact e', q⟩⟩
theorem cond_f {c : Bool} {A : Prop} (h : cond c A False) : c = true ∧ A := by cases c; exact h.elim; exact ⟨rfl, h⟩
noncomputable def pTup (as : List PE) : PE := ⟨eN vTup (as.map PE.run), fun ρ σ Q => wL as ρ σ (kT Q), fun ρ σ Q h => by
  obtain ⟨vs, σ', e, h⟩ := wL_ok _ _ _ _ h
  obtain ⟨hb, q⟩ := cond_f h
  exact ⟨_, _, by unfold eN; rw [e]; show vTup vs σ' = _; unfold vTup; rw [if_pos (lenV_eq vs ▸ Nat.le_of_ble_eq_true hb)], q⟩⟩
noncomputable def pList (as : List PE) : PE := ⟨eN vList (as.map PE.run), fun ρ σ Q => wL as ρ σ (kD Q), fun ρ σ Q h => by
  obtain ⟨vs, σ', e, h⟩ := wL_ok _ _ _ _ h
  obtain ⟨hb, q⟩ := cond_f h
  have := Nat.le_of_ble_eq_true hb
  rw [lenV_eq] at this
  exact ⟨_, _, by unfold eN; rw [e]; show vList vs σ' = _; unfold vList; rw [if_pos (by lia)], q⟩⟩
noncomputable def kM' (f : V → List V → H → Option (V × H)) (v : V) (Q : V → H → Prop) (vs : List V) (σ : H) : Prop := We (f v vs σ) Q
noncomputable def kM (T : String) (f : V → List V → H → Option (V × H)) (as : Lw) (ρ : R) (Q : V → H → Prop) (v : V) (σ : H) : Prop := tyOf v σ = some T ∧ as ρ σ (kM' f v Q)
noncomputable def pM (T : String) (f : V → List V → H → Option (V × H)) (o : PE) (as : List PE) : PE := ⟨eM T f o.run (as.map PE.run), fun ρ σ Q => o.wp ρ σ (kM T f (wL as) ρ Q), fun ρ σ Q h => by
  obtain ⟨v, σ', e, ht, h⟩ := o.ok _ _ _ h
  obtain ⟨vs, σ2, e', w, σ3, e3, q⟩ := wL_ok _ _ _ _ h
  exact ⟨w, σ3, by unfold eM; simp only [e, ht, if_true, e']; exact e3, q⟩⟩
noncomputable def kF (a b : Ew) (ρ : R) (Q : V → H → Prop) (c : Bool) (σ : H) : Prop := cond c (a ρ σ Q) (b ρ σ Q)
noncomputable def pIf (t : PT) (a b : PE) : PE := ⟨eIf t.run a.run b.run, fun ρ σ Q => t.wp ρ σ (kF a.wp b.wp ρ Q), fun ρ σ Q h => by
  obtain ⟨c, σ', e, h⟩ := t.ok _ _ _ h
  unfold eIf; rw [e]
  cases c
  · exact b.ok _ _ _ h
  · exact a.ok _ _ _ h⟩
noncomputable def kO (k : Bool) (b : Ew) (ρ : R) (Q : V → H → Prop) (c : Bool) (σ : H) : Prop := cond (c == k) (b ρ σ Q) (Q (.bool c) σ)
noncomputable def pBin (k : Bool) (t : PT) (b : PE) : PE := ⟨eBin k t.run b.run, fun ρ σ Q => t.wp ρ σ (kO k b.wp ρ Q), fun ρ σ Q h => by
  obtain ⟨c, σ', e, h⟩ := t.ok _ _ _ h
  unfold eBin; rw [e]
  cases c <;> cases k <;> first | exact b.ok _ _ _ h | exact ⟨_, _, rfl, h⟩⟩
noncomputable def kB (Q : Bool → H → Prop) (v : V) (σ : H) : Prop := match v with
  | .bool b => Q b σ
  | _ => False
theorem kB_ok {Q : Bool → H → Prop} {v σ} (h : kB Q v σ) : ∃ b, v = .bool b ∧ Q b σ := by
  cases v <;> first | exact h.elim | exact ⟨_, rfl, h⟩
noncomputable def kX3 (g : V → V → H → Option (V × H)) (w : V) (c : Ew) (ρ : R) (Q : V → H → Prop) (d : Bool) (σ : H) : Prop := cond d (c ρ σ (k2' g w Q)) (Q (.bool false) σ)
noncomputable def kX2 (f g : V → V → H → Option (V × H)) (v : V) (c : Ew) (ρ : R) (Q : V → H → Prop) (w : V) (σ : H) : Prop := We (f v w σ) (kB (kX3 g w c ρ Q))
noncomputable def kX (f g : V → V → H → Option (V × H)) (b c : Ew) (ρ : R) (Q : V → H → Prop) (v : V) (σ : H) : Prop := b ρ σ (kX2 f g v c ρ Q)
noncomputable def pChain (f g : V → V → H → Option (V × H)) (a b c : PE) : PE := ⟨eChain f g a.run b.run c.run, fun ρ σ Q => a.wp ρ σ (kX f g b.wp c.wp ρ Q), fun ρ σ Q h => by
  obtain ⟨v, σ1, e1, h⟩ := a.ok _ _ _ h
  obtain ⟨w, σ2, e2, d, σ3, e3, h⟩ := b.ok _ _ _ h
  obtain ⟨d, rfl, h⟩ := kB_ok h
  unfold eChain; simp only [e1, e2, e3]
  induction d using Bool.casesOn with
  | false => exact ⟨_, _, rfl, h⟩
  | true =>
    obtain ⟨u, σ4, e4, x, σ5, e5, q⟩ := c.ok _ _ _ h
    simp only [e4]; exact ⟨x, σ5, e5, q⟩⟩
noncomputable def pEmpty : PE := ⟨eEmpty, fun _ σ Q => Q (.ref σ.length) (σ ++ [.dictI []]), fun _ _ _ h => ⟨_, _, by unfold eEmpty; rfl, h⟩⟩
noncomputable def pB (m : PE) : PT := ⟨tB m.run, fun ρ σ Q => m.wp ρ σ (kB Q), fun ρ σ Q h => by
  obtain ⟨v, σ', e, h⟩ := m.ok _ _ _ h
  obtain ⟨b, rfl, h⟩ := kB_ok h
  exact ⟨b, σ', by unfold tB; simp only [e], h⟩⟩
noncomputable def kNo (Q : Bool → H → Prop) (b : Bool) (σ : H) : Prop := Q (!b) σ
noncomputable def pNot (t : PT) : PT := ⟨tNot t.run, fun ρ σ Q => t.wp ρ σ (kNo Q), fun ρ σ Q h => by
  obtain ⟨b, σ', e, h⟩ := t.ok _ _ _ h
  exact ⟨!b, σ', by unfold tNot; simp only [e], h⟩⟩
noncomputable def kAn (r : Tw) (ρ : R) (Q : Bool → H → Prop) (b : Bool) (σ : H) : Prop := cond b (r ρ σ Q) (Q false σ)
noncomputable def kOr (r : Tw) (ρ : R) (Q : Bool → H → Prop) (b : Bool) (σ : H) : Prop := cond b (Q true σ) (r ρ σ Q)
noncomputable def wAnd : List PT → Tw
  | [] => fun _ σ Q => Q true σ
  | t :: r => fun ρ σ Q => t.wp ρ σ (kAn (wAnd r) ρ Q)
noncomputable def wOr : List PT → Tw
  | [] => fun _ σ Q => Q false σ
  | t :: r => fun ρ σ Q => t.wp ρ σ (kOr (wOr r) ρ Q)
theorem wAnd_ok : ∀ (ts : List PT) ρ σ (Q : Bool → H → Prop), wAnd ts ρ σ Q → Wt (tAnd (ts.map PT.run) ρ σ) Q
  | [], _, _, _, h => ⟨_, _, rfl, h⟩
  | t :: r, ρ, σ, Q, h => by
    obtain ⟨b, σ', e, h⟩ := t.ok _ _ _ h
    rw [List.map_cons]; unfold tAnd; simp only [e]
    cases b
    · exact ⟨_, _, rfl, h⟩
    · exact wAnd_ok r _ _ _ h
theorem wOr_ok : ∀ (ts : List PT) ρ σ (Q : Bool → H → Prop), wOr ts ρ σ Q → Wt (tOr (ts.map PT.run) ρ σ) Q
  | [], _, _, _, h => ⟨_, _, rfl, h⟩
  | t :: r, ρ, σ, Q, h => by
    obtain ⟨b, σ', e, h⟩ := t.ok _ _ _ h
    rw [List.map_cons]; unfold tOr; simp only [e]
    cases b
    · exact wOr_ok r _ _ _ h
    · exact ⟨_, _, rfl, h⟩
noncomputable def pAnd (ts : List PT) : PT := ⟨tAnd (ts.map PT.run), wAnd ts, wAnd_ok ts⟩
noncomputable def pOr (ts : List PT) : PT := ⟨tOr (ts.map PT.run), wOr ts, wOr_ok ts⟩
noncomputable def Imp (I N : R → H → Prop) : Prop := ∀ ρ σ, I ρ σ → N ρ σ
theorem Imp.ap {I N} (h : Imp I N) {ρ σ} (i : I ρ σ) : N ρ σ := h ρ σ i
theorem Imp.rfl {I} : Imp I I := fun _ _ h => h
noncomputable def pNil : PS := ⟨sNil, fun ρ σ N _ => N ρ σ, fun _ _ _ _ h => .next _ _ (by unfold sNil; rfl) h⟩
noncomputable def kS (b : Sw) (N : R → H → Prop) (T : V → H → Prop) (ρ : R) (σ : H) : Prop := b ρ σ N T
theorem seq_ok {a b : PS} {ρ σ N T} (h : a.wp ρ σ (kS b.wp N T) T) : Ws (sSeq a.run b.run ρ σ) N T := by
  rcases a.ok _ _ _ _ h with ⟨ρ', σ', e, h⟩ | ⟨v, ρ', σ', e, h⟩
  · unfold sSeq; rw [e]; exact b.ok _ _ _ _ h
  · exact .ret v ρ' σ' (by unfold sSeq; rw [e]) h
noncomputable def pSeq (a b : PS) : PS := ⟨sSeq a.run b.run, fun ρ σ N T => a.wp ρ σ (kS b.wp N T) T, fun _ _ _ _ h => seq_ok h⟩
inductive Wq (a b : Sw) (ρ : R) (σ : H) (N : R → H → Prop) (T : V → H → Prop) : Prop
  | mk (h : a ρ σ (kS b N T) T)
noncomputable def pCut (a b : PS) : PS := ⟨sSeq a.run b.run, fun ρ σ N T => Wq a.wp b.wp ρ σ N T, fun _ _ _ _ h => let ⟨h⟩ := h; seq_ok h⟩
noncomputable def pRet (a : PE) : PS := ⟨sRet a.run, fun ρ σ _ T => a.wp ρ σ T, fun ρ σ N T h => by
  obtain ⟨v, σ', e, h⟩ := a.ok _ _ _ h
  exact .ret v ρ σ' (by unfold sRet; rw [e]) h⟩
noncomputable def kSet (i : Nat) (ρ : R) (N : R → H → Prop) (v : V) (σ : H) : Prop := N (ρ.set i (some v)) σ
noncomputable def pSet (i : Nat) (a : PE) : PS := ⟨sSet i a.run, fun ρ σ N _ => a.wp ρ σ (kSet i ρ N), fun ρ σ N T h => by
  obtain ⟨v, σ', e, h⟩ := a.ok _ _ _ h
  exact .next _ σ' (by unfold sSet; rw [e]) h⟩
noncomputable def kIf (a b : Sw) (ρ : R) (N : R → H → Prop) (T : V → H → Prop) (c : Bool) (σ : H) : Prop := cond c (a ρ σ N T) (b ρ σ N T)
noncomputable def pWhen (t : PT) (a b : PS) : PS := ⟨sIf t.run a.run b.run, fun ρ σ N T => t.wp ρ σ (kIf a.wp b.wp ρ N T), fun ρ σ N T h => by
  obtain ⟨c, σ', e, h⟩ := t.ok _ _ _ h
  unfold sIf; rw [e]
  cases c
  · exact b.ok _ _ _ _ h
  · exact a.ok _ _ _ _ h⟩
noncomputable def kDo (ρ : R) (N : R → H → Prop) (v : V) (σ : H) : Prop := match v with
  | .none => N ρ σ
  | _ => False
noncomputable def pDo (a : PE) : PS := ⟨sDo a.run, fun ρ σ N _ => a.wp ρ σ (kDo ρ N), fun ρ σ N T h => by
  obtain ⟨v, σ', e, h⟩ := a.ok _ _ _ h
  cases v <;> first | exact h.elim | exact .next ρ σ' (by unfold sDo; rw [e]) h⟩
inductive Wp (o : Option H) (ρ : R) (N : R → H → Prop) : Prop
  | mk (σ : H) (e : o = some σ) (h : N ρ σ)
noncomputable def kP3 (vv vo : V) (ρ : R) (N : R → H → Prop) (vi : V) (σ : H) : Prop := Wp (vSet vo vi vv σ) ρ N
noncomputable def kP2 (vv : V) (i : Ew) (ρ : R) (N : R → H → Prop) (vo : V) (σ : H) : Prop := i ρ σ (kP3 vv vo ρ N)
noncomputable def kP1 (o i : Ew) (ρ : R) (N : R → H → Prop) (vv : V) (σ : H) : Prop := o ρ σ (kP2 vv i ρ N)
noncomputable def pPut (o i v : PE) : PS := ⟨sPut o.run i.run v.run, fun ρ σ N _ => v.wp ρ σ (kP1 o.wp i.wp ρ N), fun ρ σ N T h => by
  obtain ⟨vv, σ1, e1, h⟩ := v.ok _ _ _ h
  obtain ⟨vo, σ2, e2, h⟩ := o.ok _ _ _ h
  obtain ⟨vi, σ3, e3, σ4, e4, h⟩ := i.ok _ _ _ h
  exact .next ρ σ4 (by unfold sPut; simp only [e1, e2, e3, e4]) h⟩
noncomputable def kU (is : List Nat) (ρ : R) (N : R → H → Prop) (v : V) (σ : H) : Prop := oR ((Tg.many is).bind v ρ) σ N
theorem oR_ok {o : Option R} {σ} {N : R → H → Prop} (h : oR o σ N) : ∃ ρ, o = some ρ ∧ N ρ σ := by
  induction o using Option.casesOn with
  | none => exact h.elim
  | some ρ => exact ⟨ρ, rfl, h⟩
noncomputable def pUnpack (is : List Nat) (a : PE) : PS := ⟨sUnpack is a.run, fun ρ σ N _ => a.wp ρ σ (kU is ρ N), fun ρ σ N T h => by
  obtain ⟨v, σ', e, h⟩ := a.ok _ _ _ h
  obtain ⟨ρ1, e1, h⟩ := oR_ok h
  exact .next ρ1 σ' (by unfold sUnpack; simp only [e, e1]) h⟩
noncomputable def kW (is : List Nat) (ρ : R) (N : R → H → Prop) (v : V) (σ : H) : Prop := match v with
  | .tup vs => oR (setAll is.reverse vs.reverse ρ) σ N
  | _ => False
noncomputable def pSwap (is : List Nat) (a : PE) : PS := ⟨sSwap is a.run, fun ρ σ N _ => a.wp ρ σ (kW is ρ N), fun ρ σ N T h => by
  obtain ⟨v, σ', e, h⟩ := a.ok _ _ _ h
  cases v <;> try exact h.elim
  obtain ⟨ρ1, e1, h⟩ := oR_ok h
  exact .next ρ1 σ' (by unfold sSwap; simp only [e, e1]) h⟩
noncomputable def kBd (b : Sw) (N : R → H → Prop) (T : V → H → Prop) (ρ : R) (σ : H) : Prop := b ρ σ N T
noncomputable def Trn (t : Tg) (b : Sw) (x : V) (ρ : R) (σ : H) (N : R → H → Prop) (T : V → H → Prop) : Prop := oR (t.bind x ρ) σ (kBd b N T)
inductive For (t : Tg) (b : Sw) (ρ : R) (N : R → H → Prop) (T : V → H → Prop) (v : V) (σ : H) : Prop
  | mk (kd : Kd) (xs : List V) (Inv : Nat → R → H → Prop) (h0 : Inv 0 ρ σ) (hi : ∀ i ρ σ, Inv i ρ σ → itemsOf v σ = some (kd, xs))
    (hs : ∀ i x ρ σ N', Imp (Inv (i + 1)) N' → xs[i]? = some x → Inv i ρ σ → Trn t b x ρ σ N' T) (hf : ∀ ρ σ, Inv xs.length ρ σ → N ρ σ)
inductive Wf (t : Tg) (src : Ew) (b : Sw) (ρ : R) (σ : H) (N : R → H → Prop) (T : V → H → Prop) : Prop
  | mk (h : src ρ σ (For t b ρ N T))
theorem for_go {t : Tg} {b : PS} {v kd N T} {xs : List V} (Inv : Nat → R → H → Prop) (hi : ∀ i ρ σ, Inv i ρ σ → itemsOf v σ = some (kd, xs))
    (hs : ∀ i x ρ σ N', Imp (Inv (i + 1)) N' → xs[i]? = some x → Inv i ρ σ → Trn t b.wp x ρ σ N' T) (hf : ∀ ρ σ, Inv xs.length ρ σ → N ρ σ) :
    ∀ (r : Nat) ρ σ, r ≤ xs.length → Inv (xs.length - r) ρ σ → Ws (forGo v kd xs.length t b.run r ρ σ) N T
  | 0, ρ, σ, _, h => .next ρ σ (by unfold forGo; simp only [hi _ _ _ h, and_self, if_true]) (hf _ _ h)
  | r + 1, ρ, σ, hr, h => by
    have hl := n_s3 hr
    have hy := List.getElem?_eq_getElem hl
    obtain ⟨ρ₁, hb, p⟩ := oR_ok (hs _ _ ρ σ _ Imp.rfl hy h)
    have hh := n_s2 hr
    unfold forGo
    simp only [hi _ _ _ h, and_self, if_true, hy, hb]
    rcases b.ok _ _ _ _ p with ⟨ρ', σ', e, p⟩ | ⟨v, ρ', σ', e, p⟩
    · rw [e]; rw [hh] at p; exact for_go Inv hi hs hf r _ _ (by lia) p
    · rw [e]; exact .ret v ρ' σ' (by rfl) p
noncomputable def pFor (t : Tg) (src : PE) (b : PS) : PS := ⟨sFor t src.run b.run, fun ρ σ N T => Wf t src.wp b.wp ρ σ N T, fun ρ σ N T h => by
  obtain ⟨h⟩ := h
  obtain ⟨v, σ', e, kd, xs, Inv, h0, hi, hs, hf⟩ := src.ok _ _ _ h
  unfold sFor
  simp only [e, hi _ _ _ h0]
  exact for_go Inv hi hs hf _ _ _ (Nat.le_refl _) (by rw [Nat.sub_self]; exact h0)⟩
noncomputable def kWh (b : Sw) (J : Nat → R → H → Prop) (N : R → H → Prop) (T : V → H → Prop) (m : Nat) (ρ : R) (c : Bool) (σ : H) : Prop := cond c (∃ m', m = m' + 1 ∧ ∀ N', Imp (fun ρ σ => ∃ k, k ≤ m' ∧ J k ρ σ) N' → b ρ σ N' T) (N ρ σ)
inductive Ww (t : Tw) (b : Sw) (f : Nat) (ρ : R) (σ : H) (N : R → H → Prop) (T : V → H → Prop) : Prop
  | mk (Inv : Nat → R → H → Prop) (m : Nat) (hm : m < f) (h0 : Inv m ρ σ) (hs : ∀ m ρ σ, Inv m ρ σ → t ρ σ (kWh b Inv N T m ρ))
theorem wh_go {t : PT} {b : PS} {N T} (Inv : Nat → R → H → Prop) (hs : ∀ m ρ σ, Inv m ρ σ → t.wp ρ σ (kWh b.wp Inv N T m ρ)) :
    ∀ (f m : Nat) ρ σ, m < f → Inv m ρ σ → Ws (whGo t.run b.run f ρ σ) N T
  | 0, _, _, _, h, _ => absurd h (Nat.not_lt_zero _)
  | f + 1, m, ρ, σ, hm, h => by
    obtain ⟨c, σ₁, e, q⟩ := t.ok _ _ _ (hs m ρ σ h)
    unfold whGo
    rw [e]
    induction c using Bool.casesOn with
    | false => exact .next ρ σ₁ (by rfl) q
    | true =>
      obtain ⟨m', rfl, q⟩ := q
      rcases b.ok _ _ _ _ (q _ Imp.rfl) with ⟨ρ', σ', e, k, hk, q⟩ | ⟨v, ρ', σ', e, q⟩
      · simp only [e]; exact wh_go Inv hs f k _ _ (by lia) q
      · simp only [e]; exact .ret v ρ' σ' (by rfl) q
noncomputable def pWh (t : PT) (b : PS) (f : Nat) : PS := ⟨sWh t.run b.run f, fun ρ σ N T => Ww t.wp b.wp f ρ σ N T, fun ρ σ N T h => by
  unfold sWh
  obtain ⟨Inv, m, hm, h0, hs⟩ := h
  exact wh_go Inv hs f m _ _ hm h0⟩
noncomputable def JImp (I J : List V → R → H → Prop) : Prop := ∀ acc ρ σ, I acc ρ σ → J acc ρ σ
theorem JImp.ap {I J} (h : JImp I J) {acc ρ σ} (i : I acc ρ σ) : J acc ρ σ := h acc ρ σ i
noncomputable def kC2 (acc : List V) (ρ : R) (J : List V → R → H → Prop) (u : V) (σ : H) : Prop := J (acc ++ [u]) ρ σ
noncomputable def kC1 (elt : Ew) (acc : List V) (ρ : R) (J : List V → R → H → Prop) (c : Bool) (σ : H) : Prop := cond c (elt ρ σ (kC2 acc ρ J)) (J acc ρ σ)
noncomputable def kC0 (ts : Tw) (elt : Ew) (acc : List V) (J : List V → R → H → Prop) (ρ : R) (σ : H) : Prop := ts ρ σ (kC1 elt acc ρ J)
inductive Cm (t : Tg) (ts : Tw) (elt : Ew) (ρ : R) (Q : V → H → Prop) (v : V) (σ : H) : Prop
  | mk (kd : Kd) (xs : List V) (hl : xs.length ≤ 100000) (Inv : Nat → List V → R → H → Prop) (h0 : Inv 0 [] ρ σ) (hi : ∀ i acc ρ σ, Inv i acc ρ σ → itemsOf v σ = some (kd, xs))
    (hs : ∀ i x acc ρ σ J, JImp (Inv (i + 1)) J → xs[i]? = some x → Inv i acc ρ σ → oR (t.bind x ρ) σ (kC0 ts elt acc J)) (hf : ∀ acc ρ σ, Inv xs.length acc ρ σ → Q (.ref σ.length) (σ ++ [.list acc]))
noncomputable def cR0 (ρ : R) : List Nat → R
  | [] => []
  | i :: r => nth ρ i :: cR0 ρ r
noncomputable def cR : Nat → List Nat → R → R
  | 0, caps, ρ => cR0 ρ caps
  | k + 1, caps, ρ => none :: cR k caps ρ
theorem cR_eq : ∀ (k : Nat) (caps : List Nat) (ρ : R), (List.replicate k none ++ caps.map fun i => (ρ[i]?).join) = cR k caps ρ
  | 0, [], ρ => rfl
  | 0, i :: r, ρ => by
    have := cR_eq 0 r ρ
    simp only [List.replicate, List.nil_append, List.map_cons, cR, cR0, nth_join] at this ⊢
    rw [this]
  | k + 1, caps, ρ => congrArg (none :: ·) (cR_eq k caps ρ)
inductive Wc (k : Nat) (caps : List Nat) (t : Tg) (src : Ew) (ts : Tw) (elt : Ew) (ρ : R) (σ : H) (Q : V → H → Prop) : Prop
  | mk (h : src ρ σ (Cm t ts elt (cR k caps ρ) Q))
theorem comp_go {t : Tg} {ts : List PT} {elt : PE} {v kd} {Q : V → H → Prop} {xs : List V} (Inv : Nat → List V → R → H → Prop) (hi : ∀ i acc ρ σ, Inv i acc ρ σ → itemsOf v σ = some (kd, xs))
    (hs : ∀ i x acc ρ σ J, JImp (Inv (i + 1)) J → xs[i]? = some x → Inv i acc ρ σ → oR (t.bind x ρ) σ (kC0 (wAnd ts) elt.wp acc J)) (hf : ∀ acc ρ σ, Inv xs.length acc ρ σ → Q (.ref σ.length) (σ ++ [.list acc])) :
    ∀ (r : Nat) acc ρ σ, r ≤ xs.length → Inv (xs.length - r) acc ρ σ → Wl (compGo v kd xs.length t (ts.map PT.run) elt.run r acc ρ σ) fun acc σ => Q (.ref σ.length) (σ ++ [.list acc])
  | 0, acc, ρ, σ, _, h => by
    unfold compGo
    simp only [hi _ _ _ _ h, and_self, if_true]
    exact ⟨_, _, rfl, hf _ _ _ h⟩
  | r + 1, acc, ρ, σ, hr, h => by
    have hl := n_s3 hr
    have hy := List.getElem?_eq_getElem hl
    obtain ⟨ρ₁, hb, p⟩ := oR_ok (hs _ _ acc ρ σ _ (fun _ _ _ h => h) hy h)
    obtain ⟨c, σ₁, e, p⟩ := wAnd_ok _ _ _ _ p
    have hh := n_s2 hr
    unfold compGo
    simp only [hi _ _ _ _ h, and_self, if_true, hy, hb, e]
    rw [hh] at p
    induction c using Bool.casesOn with
    | true =>
      obtain ⟨u, σ₂, e₂, p⟩ := elt.ok _ _ _ p
      simp only [e₂]
      exact comp_go Inv hi hs hf r _ _ _ (by lia) p
    | false => exact comp_go Inv hi hs hf r _ _ _ (by lia) p
noncomputable def pComp (k : Nat) (caps : List Nat) (t : Tg) (src : PE) (ts : List PT) (elt : PE) : PE := ⟨eComp k caps t src.run (ts.map PT.run) elt.run, fun ρ σ Q => Wc k caps t src.wp (wAnd ts) elt.wp ρ σ Q, fun ρ σ Q h => by
  obtain ⟨h⟩ := h
  obtain ⟨v, σ', e, kd, xs, hl, Inv, h0, hi, hs, hf⟩ := src.ok _ _ _ h
  obtain ⟨acc, σ₂, e₂, q⟩ := comp_go Inv hi hs hf _ [] _ _ (Nat.le_refl _) (by rw [Nat.sub_self]; exact h0)
  unfold eComp
  rw [← cR_eq] at e₂
  simp only [e, hi _ _ _ _ h0, hl, if_true, e₂]
  exact ⟨_, _, rfl, q⟩⟩
noncomputable def kNone (Q : V → H → Prop) (_ : R) (σ : H) : Prop := Q .none σ
noncomputable def nones : Nat → R
  | 0 => []
  | n + 1 => none :: nones n
theorem nones_eq : ∀ n : Nat, nones n = List.replicate n none
  | 0 => rfl
  | n + 1 => congrArg (none :: ·) (nones_eq n)
noncomputable def mkF : List V → Nat → R
  | [], n => nones n
  | v :: a, n => some v :: mkF a n
theorem mkF_eq : ∀ (a : List V) (n : Nat), mkF a n = a.map some ++ List.replicate n none
  | [], n => nones_eq n
  | v :: a, n => congrArg (some v :: ·) (mkF_eq a n)
theorem runE {a : List V} {n k : Nat} {ρ : R} (h : mkF a n = ρ) {b : PS} {σ} {Q : V → H → Prop} (hk : a.length = k) (q : b.wp ρ σ (kNone Q) Q) : We (rBd k n b.run a σ) Q := by
  subst h
  unfold rBd
  rw [if_pos hk]
  rcases b.ok _ _ _ _ q with ⟨ρ', σ', e, p⟩ | ⟨v, ρ', σ', e, p⟩
  · rw [mkF_eq] at e; rw [e]; exact ⟨_, _, rfl, p⟩
  · rw [mkF_eq] at e; rw [e]; exact ⟨_, _, rfl, p⟩
end
section
set_option maxRecDepth 100000
noncomputable def b_shape_of : PS := (pCut (pWhen (pB (p2 vIn (pV 0) (pTup [(pC (.str [106, 117, 109, 112, 95, 105, 102])), (pC (.str [106, 117, 109, 112, 95, 117, 110, 108, 101, 115, 115])), (pC (.str [106, 117, 109, 112, 95, 110, 117, 108, 108])), (pC (.str [106, 117, 109, 112, 95, 115, 101, 116])), (pC (.str [105, 116, 101, 114]))]))) (pSeq (pRet (pTup [(pC (.str [120])), (pC (.str [106]))]))
    pNil) pNil)
    (pCut (pWhen (pB (p2 vIn (pV 0) (pTup [(pC (.str [106, 117, 109, 112])), (pC (.str [99, 97, 116, 99, 104]))]))) (pSeq (pRet (pTup [(pC (.str [45])), (pC (.str [106]))]))
    pNil) pNil)
    (pCut (pWhen (pB (p2 vIn (pV 0) (pTup [(pC (.str [109, 111, 118, 101])), (pC (.str [117, 110, 97, 114, 121])), (pC (.str [99, 97, 115, 116])), (pC (.str [98, 111, 111, 108])), (pC (.str [116, 101, 120, 116])), (pC (.str [101, 99, 104, 111])), (pC (.str [117, 110, 115, 105, 108, 101, 110, 99, 101])), (pC (.str [116, 104, 114, 111, 119])), (pC (.str [109, 97, 116, 99, 104, 95, 102, 97, 117, 108, 116])), (pC (.str [118, 97, 114])), (pC (.str [104, 97, 115, 95, 118, 97, 114])), (pC (.str [114, 101, 102, 95, 99, 97, 108, 108])), (pC (.str [99, 97, 108, 108, 95, 118, 97, 108, 117, 101])), (pC (.str [99, 108, 111, 110, 101])), (pC (.str [121, 105, 101, 108, 100, 95, 102, 114, 111, 109]))]))) (pSeq (pRet (pTup [(pC (.str [120])), (pC (.str [45]))]))
    pNil) pNil)
    (pCut (pWhen (pB (p2 vIn (pV 0) (pTup [(pC (.str [98, 105, 110, 97, 114, 121])), (pC (.str [101, 108, 101, 109])), (pC (.str [112, 114, 111, 112])), (pC (.str [104, 97, 115, 95, 101, 108, 101, 109])), (pC (.str [104, 97, 115, 95, 112, 114, 111, 112])), (pC (.str [108, 105, 115, 116, 95, 101, 108, 101, 109])), (pC (.str [99, 97, 108, 108, 95, 109, 101, 116, 104, 111, 100]))]))) (pSeq (pRet (pTup [(pC (.str [120, 120])), (pC (.str [45]))]))
    pNil) pNil)
    (pCut (pWhen (pB (p2 vIn (pV 0) (pTup [(pC (.str [100, 111, 95, 99, 97, 108, 108])), (pC (.str [99, 97, 108, 108, 97, 98, 108, 101])), (pC (.str [105, 116, 101, 114, 95, 101, 110, 100])), (pC (.str [101, 110, 100, 95, 102, 105, 110, 97, 108, 108, 121]))]))) (pSeq (pRet (pTup [(pC (.str [110])), (pC (.str [45]))]))
    pNil) pNil)
    (pCut (pWhen (pB (p2 vIn (pV 0) (pTup [(pC (.str [105, 110, 99, 100, 101, 99])), (pC (.str [114, 101, 102])), (pC (.str [117, 110, 115, 101, 116]))]))) (pSeq (pRet (pTup [(pC (.str [84])), (pC (.str [45]))]))
    pNil) pNil)
    (pCut (pWhen (pB (p2 vIn (pV 0) (pTup [(pC (.str [115, 101, 110, 100])), (pC (.str [115, 101, 110, 100, 95, 99, 97, 108, 108])), (pC (.str [115, 101, 110, 100, 95, 102, 105, 120, 101, 100]))]))) (pSeq (pRet (pTup [(pC (.str [110])), (pC (.str [120, 45]))]))
    pNil) pNil)
    (pCut (pWhen (pB (p2 vIn (pV 0) (pTup [(pC (.str [115, 116, 97, 116, 105, 99])), (pC (.str [104, 97, 115, 95, 115, 116, 97, 116, 105, 99])), (pC (.str [99, 97, 108, 108, 95, 115, 116, 97, 116, 105, 99]))]))) (pSeq (pRet (pTup [(pC (.str [67, 120])), (pC (.str [45]))]))
    pNil) pNil)
    (pCut (pWhen (pB (p2 vIn (pV 0) (pTup [(pC (.str [99, 99, 111, 110, 115, 116])), (pC (.str [102, 101, 116, 99, 104, 95, 99, 108, 97, 115, 115]))]))) (pSeq (pRet (pTup [(pC (.str [67])), (pC (.str [45]))]))
    pNil) pNil)
    (pCut (pWhen (pB (p2 vIn (pV 0) (pTup [(pC (.str [105, 116, 101, 109, 95, 115, 112, 114, 101, 97, 100])), (pC (.str [115, 101, 110, 100, 95, 115, 112, 114, 101, 97, 100]))]))) (pSeq (pRet (pTup [(pC (.str [110])), (pC (.str [120]))]))
    pNil) pNil)
    (pSeq (pSet 1 (pN (vDictS [[119, 114, 105, 116, 101], [119, 114, 105, 116, 101, 95, 111, 112], [98, 105, 110, 100], [105, 116, 101, 109], [105, 116, 101, 109, 95, 114, 101, 102], [106, 111, 105, 110], [114, 101, 116, 117, 114, 110], [115, 101, 110, 100, 95, 112, 108, 97, 99, 101], [99, 97, 108, 108, 95, 110, 101, 119], [105, 110, 115, 116, 97, 110, 99, 101, 111, 102], [105, 116, 101, 114, 95, 114, 101, 102], [110, 101, 120, 116], [99, 97, 108, 108, 95, 102, 105, 110, 97, 108, 108, 121], [100, 105, 115, 99, 97, 114, 100], [100, 101, 99, 108, 97, 114, 101, 95, 99, 111, 110, 115, 116], [121, 105, 101, 108, 100]]) [(pTup [(pC (.str [84])), (pC (.str [120]))]), (pTup [(pC (.str [84])), (pC (.str [45, 120]))]), (pTup [(pC (.str [84])), (pC (.str [110]))]), (pTup [(pC (.str [110])), (pC (.str [63, 120]))]), (pTup [(pC (.str [110])), (pC (.str [63, 110]))]), (pTup [(pC (.str [120, 42])), (pC (.str [45]))]), (pTup [(pC (.str [63])), (pC (.str [45]))]), (pTup [(pC (.str [110])), (pC (.str [84, 45]))]), (pTup [(pC (.str [67])), (pC (.str [119]))]), (pTup [(pC (.str [120, 67])), (pC (.str [45]))]), (pTup [(pC (.str [84])), (pC (.str [106]))]), (pTup [(pC (.str [110, 119])), (pC (.str [106]))]), (pTup [(pC (.str [119])), (pC (.str [106]))]), (pTup [(pC (.str [119])), (pC (.str [45]))]), (pTup [(pC (.str [45])), (pC (.str [120]))]), (pTup [(pC (.str [63, 63])), (pC (.str [45]))])]))
    (pSeq (pRet (pM "dict" vGet (pV 1) [(pV 0), (pTup [(pC (.str [45])), (pC (.str [45]))])]))
    pNil))))))))))))
noncomputable def m_shape_of : List V → H → Option (V × H) := rBd 1 1 b_shape_of.run
mutual
noncomputable def m_place_reads : Nat → List V → H → Option (V × H)
  | 0 => fun _ _ => none
  | n + 1 => rBd 1 1 (PS.run <| pCut (pWhen (pB (p2 vIn (pI (pV 0) (pC (.int 0))) (pTup [(pC (.str [118, 97, 114])), (pC (.str [118, 97, 108, 117, 101]))]))) (pSeq (pRet (pList [(pI (pV 0) (pC (.int 1)))]))
    pNil) pNil)
    (pCut (pWhen (pB (p2 vEq (pI (pV 0) (pC (.int 0))) (pC (.str [115, 112, 114, 111, 112])))) (pSeq (pRet (p2 vAdd (pN (mPr n) [(pC (.str [67])), (pI (pV 0) (pC (.int 1)))]) (pList [(pI (pV 0) (pC (.int 2)))])))
    pNil) pNil)
    (pCut (pWhen (pB (p2 vIn (pI (pV 0) (pC (.int 0))) (pTup [(pC (.str [100, 105, 109])), (pC (.str [112, 114, 111, 112]))]))) (pSeq (pSet 1 (pIf (pB (p2 vEq (pI (pI (pV 0) (pC (.int 2))) (pC (.int 0))) (pC (.str [97, 112, 112, 101, 110, 100])))) (pList []) (pList [(pI (pV 0) (pC (.int 2)))])))
    (pSeq (pRet (p2 vAdd (pN (m_place_reads n) [(pI (pV 0) (pC (.int 1)))]) (pV 1)))
    pNil)) pNil)
    (pSeq (pRet (pList []))
    pNil))))
noncomputable def mPr : Nat → List V → H → Option (V × H)
  | 0 => fun _ _ => none
  | n + 1 => rBd 2 2 (PS.run <| pCut (pWhen (pOr [(pB (p2 vIn (pV 0) (pTup [(pC (.str [45])), (pC (.str [119])), (pC (.str [106])), (pC (.str []))]))), (pB (p2 vIs (pV 1) (pC .none)))]) (pSeq (pRet (pList []))
    pNil) pNil)
    (pCut (pWhen (pB (p2 vEq (pV 0) (pC (.str [120, 42])))) (pSeq (pRet (pN vListOf [(pV 1)]))
    pNil) pNil)
    (pCut (pWhen (pB (p2 vGt (pN vLen [(pV 0)]) (pC (.int 1)))) (pSeq (pSet 2 (pList []))
    (pCut (pFor (.one 3) (pN vRange [(pN vLen [(pV 0)])]) (pSeq (pSet 2 (p2 vAdd (pV 2) (pN (mPr n) [(pI (pV 0) (pV 3)), (pI (pV 1) (pV 3))])))
    pNil))
    (pSeq (pRet (pV 2))
    pNil))) pNil)
    (pCut (pWhen (pB (p2 vEq (pV 0) (pC (.str [84])))) (pSeq (pRet (pN (m_place_reads n) [(pV 1)]))
    pNil) pNil)
    (pCut (pWhen (pB (p2 vEq (pV 0) (pC (.str [110])))) (pSeq (pRet (pList [(pTup [(pC (.str [116, 109, 112])), (pV 1)])]))
    pNil) pNil)
    (pCut (pWhen (pAnd [(pB (p2 vEq (pV 0) (pC (.str [67])))), (pB (p2 vIn (pI (pV 1) (pC (.int 0))) (pTup [(pC (.str [99, 108, 97, 115, 115])), (pC (.str [100, 101, 99, 108]))])))]) (pSeq (pRet (pList []))
    pNil) pNil)
    (pSeq (pRet (pList [(pV 1)]))
    pNil)))))))
end
noncomputable def b_reads : PS := (pSeq (pUnpack [1, 2] (pN (m_shape_of) [(pI (pV 0) (pC (.int 0)))]))
    (pSeq (pRet (p2 vAdd (pN (mPr 5) [(pV 1), (pI (pV 0) (pC (.int 2)))]) (pN (mPr 5) [(pV 2), (pI (pV 0) (pC (.int 3)))])))
    pNil))
noncomputable def m_reads : List V → H → Option (V × H) := rBd 1 2 b_reads.run
noncomputable def b_writes : PS := (pSeq (pUnpack [1, 2, 3, 4] (pV 0))
    (pSeq (pSet 5 (pIf (pB (p2 vIs (pV 2) (pC .none))) (pList []) (pList [(pV 2)])))
    (pCut (pWhen (pB (p2 vIn (pV 1) (pTup [(pC (.str [99, 97, 108, 108, 95, 102, 105, 110, 97, 108, 108, 121])), (pC (.str [100, 105, 115, 99, 97, 114, 100]))]))) (pSeq (pDo (pM "list" vAppend (pV 5) [(pV 3)]))
    pNil) pNil)
    (pCut (pWhen (pB (p2 vEq (pV 1) (pC (.str [99, 97, 108, 108, 95, 110, 101, 119])))) (pSeq (pDo (pM "list" vAppend (pV 5) [(pV 4)]))
    pNil) pNil)
    (pCut (pWhen (pAnd [(pB (p2 vEq (pV 1) (pC (.str [110, 101, 120, 116])))), (pB (p2 vIsNot (pI (pV 3) (pC (.int 1))) (pC .none)))]) (pSeq (pDo (pM "list" vAppend (pV 5) [(pI (pV 3) (pC (.int 1)))]))
    pNil) pNil)
    (pSeq (pRet (pV 5))
    pNil))))))
noncomputable def m_writes : List V → H → Option (V × H) := rBd 1 5 b_writes.run
noncomputable def b_new_operand : PS := (pCut (pWhen (pOr [(pB (p2 vIs (pV 0) (pC .none))), (pB (p2 vNe (pI (pV 0) (pC (.int 0))) (pC (.str [116, 109, 112])))), (pB (p2 vNotIn (pI (pV 0) (pC (.int 1))) (pV 1)))]) (pSeq (pRet (pV 0))
    pNil) pNil)
    (pSeq (pRet (pIf (pB (pV 2)) (pTup [(pC (.str [116, 109, 112])), (pI (pV 1) (pI (pV 0) (pC (.int 1))))]) (pI (pV 1) (pI (pV 0) (pC (.int 1))))))
    pNil))
noncomputable def mNo : List V → H → Option (V × H) := rBd 3 0 b_new_operand.run
noncomputable def m_new_place : Nat → List V → H → Option (V × H)
  | 0 => fun _ _ => none
  | n + 1 => rBd 3 1 (PS.run <| pSeq (pSet 3 (pI (pV 0) (pC (.int 0))))
    (pCut (pWhen (pB (p2 vIn (pV 3) (pTup [(pC (.str [118, 97, 114])), (pC (.str [118, 97, 108, 117, 101]))]))) (pSeq (pRet (pTup [(pV 3), (pN (mNo) [(pI (pV 0) (pC (.int 1))), (pV 1), (pV 2)])]))
    pNil) pNil)
    (pCut (pWhen (pB (p2 vEq (pV 3) (pC (.str [115, 112, 114, 111, 112])))) (pSeq (pRet (pTup [(pV 3), (pN (mNo) [(pI (pV 0) (pC (.int 1))), (pV 1), (pV 2)]), (pN (mNo) [(pI (pV 0) (pC (.int 2))), (pV 1), (pV 2)])]))
    pNil) pNil)
    (pCut (pWhen (pB (p2 vIn (pV 3) (pTup [(pC (.str [100, 105, 109])), (pC (.str [112, 114, 111, 112]))]))) (pSeq (pRet (pTup [(pV 3), (pN (m_new_place n) [(pI (pV 0) (pC (.int 1))), (pV 1), (pV 2)]), (pN (mNo) [(pI (pV 0) (pC (.int 2))), (pV 1), (pV 2)])]))
    pNil) pNil)
    (pSeq (pRet (pV 0))
    pNil)))))
noncomputable def m_new_part : Nat → List V → H → Option (V × H)
  | 0 => fun _ _ => none
  | n + 1 => rBd 4 0 (PS.run <| pCut (pWhen (pOr [(pB (p2 vIn (pV 0) (pTup [(pC (.str [45])), (pC (.str [106]))]))), (pB (p2 vIs (pV 1) (pC .none)))]) (pSeq (pRet (pV 1))
    pNil) pNil)
    (pCut (pWhen (pB (p2 vEq (pV 0) (pC (.str [120, 42])))) (pSeq (pRet (pN vTupleOf [(pComp 1 [2, 3] (.one 0) (pV 1) [] (pN (mNo) [(pV 0), (pV 1), (pV 2)]))]))
    pNil) pNil)
    (pCut (pWhen (pB (p2 vGt (pN vLen [(pV 0)]) (pC (.int 1)))) (pSeq (pRet (pN vTupleOf [(pComp 1 [2, 3, 0, 1] (.one 0) (pN vRange [(pN vLen [(pV 0)])]) [] (pN (m_new_part n) [(pI (pV 3) (pV 0)), (pI (pV 4) (pV 0)), (pV 1), (pV 2)]))]))
    pNil) pNil)
    (pCut (pWhen (pB (p2 vEq (pV 0) (pC (.str [84])))) (pSeq (pRet (pN (m_new_place 5) [(pV 1), (pV 2), (pV 3)]))
    pNil) pNil)
    (pCut (pWhen (pB (p2 vIn (pV 0) (pTup [(pC (.str [110])), (pC (.str [119]))]))) (pSeq (pRet (pIf (pB (pV 3)) (pM "dict" vGet (pV 2) [(pV 1), (pV 1)]) (pV 1)))
    pNil) pNil)
    (pSeq (pRet (pN (mNo) [(pV 1), (pV 2), (pV 3)]))
    pNil))))))
noncomputable def b_with_operands : PS := (pSeq (pUnpack [2, 3, 4, 5] (pV 0))
    (pSeq (pUnpack [6, 7] (pN (m_shape_of) [(pV 2)]))
    (pSeq (pRet (pTup [(pV 2), (pM "dict" vGet (pV 1) [(pV 3), (pV 3)]), (pN (m_new_part 5) [(pV 6), (pV 4), (pV 1), (pC (.bool true))]), (pN (m_new_part 5) [(pV 7), (pV 5), (pV 1), (pC (.bool true))])]))
    pNil)))
noncomputable def m_with_operands : List V → H → Option (V × H) := rBd 2 6 b_with_operands.run
noncomputable def b_target_of : PS := (pSeq (pSet 1 (pTup [(pC (.str [106, 117, 109, 112])), (pC (.str [106, 117, 109, 112, 95, 105, 102])), (pC (.str [106, 117, 109, 112, 95, 117, 110, 108, 101, 115, 115])), (pC (.str [106, 117, 109, 112, 95, 110, 117, 108, 108])), (pC (.str [106, 117, 109, 112, 95, 115, 101, 116])), (pC (.str [105, 116, 101, 114])), (pC (.str [105, 116, 101, 114, 95, 114, 101, 102])), (pC (.str [110, 101, 120, 116])), (pC (.str [99, 97, 108, 108, 95, 102, 105, 110, 97, 108, 108, 121])), (pC (.str [99, 97, 116, 99, 104]))]))
    (pSeq (pRet (pIf (pB (p2 vIn (pI (pV 0) (pC (.int 0))) (pV 1))) (pI (pV 0) (pC (.int 3))) (pC .none)))
    pNil))
noncomputable def m_target_of : List V → H → Option (V × H) := rBd 1 1 b_target_of.run
noncomputable def b_behind_calls : PS := (pSeq (pSet 2 (pList []))
    (pCut (pFor (.one 3) (pN vRange [(pN vLen [(p1 (vAttr .rows) (pV 0))])]) (pSeq (pSet 4 (pI (p1 (vAttr .rows) (pV 0)) (pV 3)))
    (pCut (pWhen (pAnd [(pB (p2 vEq (pI (pV 4) (pC (.int 0))) (pC (.str [99, 97, 108, 108, 95, 102, 105, 110, 97, 108, 108, 121])))), (pB (p2 vEq (pI (pV 4) (pC (.int 2))) (pV 1)))]) (pSeq (pDo (pM "list" vAppend (pV 2) [(p2 vAdd (pV 3) (pC (.int 1)))]))
    pNil) pNil)
    pNil)))
    (pSeq (pRet (pV 2))
    pNil)))
noncomputable def m_behind_calls : List V → H → Option (V × H) := rBd 2 3 b_behind_calls.run
noncomputable def b_nexts : PS := (pSeq (pSet 2 (pI (p1 (vAttr .rows) (pV 0)) (pV 1)))
    (pSeq (pSet 3 (pN (m_target_of) [(pV 2)]))
    (pSeq (pSet 4 (pList []))
    (pCut (pWhen (pB (p2 vNotIn (pI (pV 2) (pC (.int 0))) (pTup [(pC (.str [106, 117, 109, 112])), (pC (.str [99, 97, 108, 108, 95, 102, 105, 110, 97, 108, 108, 121])), (pC (.str [114, 101, 116, 117, 114, 110])), (pC (.str [116, 104, 114, 111, 119])), (pC (.str [109, 97, 116, 99, 104, 95, 102, 97, 117, 108, 116])), (pC (.str [108, 101, 102, 116]))]))) (pSeq (pDo (pM "list" vAppend (pV 4) [(p2 vAdd (pV 1) (pC (.int 1)))]))
    pNil) pNil)
    (pCut (pWhen (pB (p2 vIsNot (pV 3) (pC .none))) (pSeq (pDo (pM "list" vAppend (pV 4) [(pV 3)]))
    pNil) pNil)
    (pCut (pWhen (pB (p2 vEq (pI (pV 2) (pC (.int 0))) (pC (.str [101, 110, 100, 95, 102, 105, 110, 97, 108, 108, 121])))) (pSeq (pSet 4 (p2 vAdd (pV 4) (pN (m_behind_calls) [(pV 0), (pI (pV 2) (pC (.int 2)))])))
    pNil) pNil)
    (pSeq (pSet 5 (pList []))
    (pCut (pFor (.one 6) (pV 4) (pCut (pWhen (pAnd [(pB (p2 vLt (pV 6) (pN vLen [(p1 (vAttr .rows) (pV 0))]))), (pB (p2 vNotIn (pV 6) (pV 5)))]) (pSeq (pDo (pM "list" vAppend (pV 5) [(pV 6)]))
    pNil) pNil)
    pNil))
    (pSeq (pRet (pV 5))
    pNil)))))))))
noncomputable def m_nexts : List V → H → Option (V × H) := rBd 2 5 b_nexts.run
noncomputable def b_catchers : PS := (pSeq (pSet 2 (pList []))
    (pSeq (pSet 3 (pC (.bool true)))
    (pSeq (pSet 4 (p2 vIn (pI (pI (p1 (vAttr .rows) (pV 0)) (pV 1)) (pC (.int 0))) (pTup [(pC (.str [121, 105, 101, 108, 100])), (pC (.str [121, 105, 101, 108, 100, 95, 102, 114, 111, 109])), (pC (.str [101, 110, 100, 95, 102, 105, 110, 97, 108, 108, 121]))])))
    (pCut (pFor (.one 5) (pN vRange [(p2 vSub (pN vLen [(p1 (vAttr .trys) (pV 0))]) (pC (.int 1))), (p1 vNeg (pC (.int 1))), (p1 vNeg (pC (.int 1)))]) (pSeq (pUnpack [6, 7, 8, 9, 10] (pI (p1 (vAttr .trys) (pV 0)) (pV 5)))
    (pCut (pWhen (pAnd [(pB (p2 vIsNot (pV 7) (pC .none))), (pB (pChain vLe vLt (pV 6) (pV 1) (pV 7)))]) (pCut (pWhen (pB (pV 3)) (pSeq (pDo (pM "list" vAppend (pV 2) [(pV 7)]))
    pNil) pNil)
    (pSeq (pSet 3 (pC (.bool false)))
    pNil)) pNil)
    (pCut (pWhen (pAnd [(pB (p2 vIsNot (pV 8) (pC .none))), (pB (pChain vLe vLt (pV 6) (pV 1) (pV 8)))]) (pCut (pWhen (pOr [(pB (pV 3)), (pB (pV 4))]) (pSeq (pDo (pM "list" vAppend (pV 2) [(pV 8)]))
    pNil) pNil)
    (pSeq (pSet 3 (pC (.bool false)))
    (pSeq (pSet 4 (pC (.bool false)))
    pNil))) pNil)
    pNil))))
    (pSeq (pRet (pV 2))
    pNil)))))
noncomputable def m_catchers : List V → H → Option (V × H) := rBd 2 9 b_catchers.run
noncomputable def b_read_numbers : PS := (pSeq (pRet (pComp 1 [] (.one 0) (pN (m_reads) [(pV 0)]) [(pB (p2 vEq (pI (pV 0) (pC (.int 0))) (pC (.str [116, 109, 112]))))] (pI (pV 0) (pC (.int 1)))))
    pNil)
noncomputable def m_read_numbers : List V → H → Option (V × H) := rBd 1 0 b_read_numbers.run
noncomputable def b_ret_at : PS := (pSeq (pSet 3 (pC .none))
    (pCut (pFor (.many [4, 5, 6, 7, 8]) (p1 (vAttr .trys) (pV 0)) (pCut (pWhen (pAnd [(pB (p2 vEq (pV 6) (pV 2))), (pB (pChain vLe vLt (pV 4) (pV 1) (pV 6)))]) (pSeq (pSet 3 (pV 8))
    pNil) pNil)
    pNil))
    (pSeq (pRet (pV 3))
    pNil)))
noncomputable def m_ret_at : List V → H → Option (V × H) := rBd 3 6 b_ret_at.run
noncomputable def b_ways_of : PS := (pSeq (pSet 2 (pI (p1 (vAttr .rows) (pV 0)) (pV 1)))
    (pSeq (pSet 3 (pList []))
    (pCut (pFor (.one 4) (pN (m_nexts) [(pV 0), (pV 1)]) (pSeq (pSet 5 (pBin true (pB (p2 vEq (pI (pV 2) (pC (.int 0))) (pC (.str [110, 101, 120, 116])))) (p2 vEq (pV 4) (pI (pV 2) (pC (.int 3))))))
    (pSeq (pDo (pM "list" vAppend (pV 3) [(pTup [(pV 4), (pIf (pB (pV 5)) (pList []) (pN (m_writes) [(pV 2)]))])]))
    pNil)))
    (pCut (pFor (.one 4) (pN (m_catchers) [(pV 0), (pV 1)]) (pSeq (pSet 6 (pN (m_ret_at) [(pV 0), (pV 1), (pV 4)]))
    (pSeq (pDo (pM "list" vAppend (pV 3) [(pTup [(pV 4), (pIf (pB (p2 vIs (pV 6) (pC .none))) (pList []) (pList [(pV 6)]))])]))
    pNil)))
    (pSeq (pRet (pV 3))
    pNil)))))
noncomputable def m_ways_of : List V → H → Option (V × H) := rBd 2 5 b_ways_of.run
noncomputable def b_live_ahead : PS := (pSeq (pSet 3 pEmpty)
    (pCut (pFor (.many [4, 5]) (pV 1) (pCut (pFor (.one 6) (pI (pV 2) (pV 4)) (pCut (pWhen (pB (p2 vNotIn (pV 6) (pV 5))) (pSeq (pPut (pV 3) (pV 6) (pC (.bool true)))
    pNil) pNil)
    pNil))
    pNil))
    (pCut (pFor (.one 6) (pN (m_read_numbers) [(pV 0)]) (pSeq (pPut (pV 3) (pV 6) (pC (.bool true)))
    pNil))
    (pSeq (pRet (pV 3))
    pNil))))
noncomputable def m_live_ahead : List V → H → Option (V × H) := rBd 3 4 b_live_ahead.run
noncomputable def b_flown : PS := (pSeq (pSet 1 (pComp 1 [0] (.one 0) (pN vRange [(pN vLen [(p1 (vAttr .rows) (pV 0))])]) [] (pN (m_ways_of) [(pV 1), (pV 0)])))
    (pSeq (pSet 2 (pComp 1 [] (.one 0) (p1 (vAttr .rows) (pV 0)) [] pEmpty))
    (pSeq (pSet 3 (pC (.bool true)))
    (pCut (pWh (pB (pV 3)) (pSeq (pSet 3 (pC (.bool false)))
    (pCut (pFor (.one 4) (pN vRange [(p2 vSub (pN vLen [(p1 (vAttr .rows) (pV 0))]) (pC (.int 1))), (p1 vNeg (pC (.int 1))), (p1 vNeg (pC (.int 1)))]) (pSeq (pSet 5 (pN (m_live_ahead) [(pI (p1 (vAttr .rows) (pV 0)) (pV 4)), (pI (pV 1) (pV 4)), (pV 2)]))
    (pCut (pWhen (pB (p2 vGt (pN vLen [(pV 5)]) (pN vLen [(pI (pV 2) (pV 4))]))) (pSeq (pPut (pV 2) (pV 4) (pV 5))
    (pSeq (pSet 3 (pC (.bool true)))
    pNil)) pNil)
    pNil)))
    pNil)) 100000)
    (pSeq (pRet (pV 2))
    pNil)))))
noncomputable def m_flown : List V → H → Option (V × H) := rBd 1 5 b_flown.run
noncomputable def b_live_at : PS := (pSeq (pSet 1 (pN (m_flown) [(pV 0)]))
    (pCut (pFor (.many [2, 3, 4, 5, 6]) (p1 (vAttr .trys) (pV 0)) (pCut (pWhen (pB (p2 vIsNot (pV 6) (pC .none))) (pCut (pFor (.one 7) (pN vRange [(pV 2), (pV 5)]) (pSeq (pPut (pI (pV 1) (pV 7)) (pV 6) (pC (.bool true)))
    pNil))
    pNil) pNil)
    pNil))
    (pCut (pFor (.many [8, 2, 9, 10]) (p1 (vAttr .lives) (pV 0)) (pCut (pFor (.one 7) (pN vRange [(pV 2), (pV 9)]) (pSeq (pPut (pI (pV 1) (pV 7)) (pV 8) (pC (.bool true)))
    pNil))
    pNil))
    (pSeq (pRet (pV 1))
    pNil))))
noncomputable def m_live_at : List V → H → Option (V × H) := rBd 1 10 b_live_at.run
noncomputable def b_add_clashes : PS := (pCut (pFor (.one 3) (pV 1) (pCut (pFor (.one 4) (pV 2) (pCut (pWhen (pB (p2 vNe (pV 3) (pV 4))) (pSeq (pPut (pI (pV 0) (pV 3)) (pV 4) (pC (.bool true)))
    (pSeq (pPut (pI (pV 0) (pV 4)) (pV 3) (pC (.bool true)))
    pNil)) pNil)
    pNil))
    pNil))
    pNil)
noncomputable def m_add_clashes : List V → H → Option (V × H) := rBd 3 2 b_add_clashes.run
noncomputable def b_clashes_of : PS := (pSeq (pSet 2 (pN (m_live_at) [(pV 0)]))
    (pSeq (pSet 3 pEmpty)
    (pCut (pFor (.one 4) (pV 1) (pSeq (pPut (pV 3) (pV 4) pEmpty)
    pNil))
    (pCut (pFor (.one 5) (pN vRange [(pN vLen [(p1 (vAttr .rows) (pV 0))])]) (pSeq (pDo (pN (m_add_clashes) [(pV 3), (pI (pV 2) (pV 5)), (pI (pV 2) (pV 5))]))
    (pSeq (pSet 6 (pN (m_writes) [(pI (p1 (vAttr .rows) (pV 0)) (pV 5))]))
    (pSeq (pDo (pN (m_add_clashes) [(pV 3), (pV 6), (pV 6)]))
    (pCut (pFor (.one 7) (pN (m_nexts) [(pV 0), (pV 5)]) (pSeq (pDo (pN (m_add_clashes) [(pV 3), (pV 6), (pI (pV 2) (pV 7))]))
    pNil))
    pNil)))))
    (pSeq (pRet (pV 3))
    pNil)))))
noncomputable def m_clashes_of : List V → H → Option (V × H) := rBd 2 6 b_clashes_of.run
noncomputable def b_temps_of : PS := (pSeq (pSet 1 pEmpty)
    (pCut (pFor (.one 2) (p1 (vAttr .rows) (pV 0)) (pCut (pFor (.one 3) (pN (m_writes) [(pV 2)]) (pSeq (pPut (pV 1) (pV 3) (pC (.bool true)))
    pNil))
    pNil))
    (pCut (pFor (.one 2) (p1 (vAttr .rows) (pV 0)) (pCut (pFor (.one 3) (pN (m_read_numbers) [(pV 2)]) (pSeq (pPut (pV 1) (pV 3) (pC (.bool true)))
    pNil))
    pNil))
    (pCut (pFor (.many [4, 5, 6, 7, 8]) (p1 (vAttr .trys) (pV 0)) (pCut (pWhen (pB (p2 vIsNot (pV 8) (pC .none))) (pSeq (pPut (pV 1) (pV 8) (pC (.bool true)))
    pNil) pNil)
    pNil))
    (pCut (pFor (.many [3, 4, 9, 10]) (p1 (vAttr .lives) (pV 0)) (pSeq (pPut (pV 1) (pV 3) (pC (.bool true)))
    pNil))
    (pSeq (pRet (pN vListOf [(pV 1)]))
    pNil))))))
noncomputable def m_temps_of : List V → H → Option (V × H) := rBd 1 10 b_temps_of.run
noncomputable def b_numbered : PS := (pSeq (pSet 2 pEmpty)
    (pCut (pFor (.one 3) (pV 0) (pSeq (pSet 4 pEmpty)
    (pCut (pFor (.one 5) (pI (pV 1) (pV 3)) (pCut (pWhen (pB (p2 vIn (pV 5) (pV 2))) (pSeq (pPut (pV 4) (pI (pV 2) (pV 5)) (pC (.bool true)))
    pNil) pNil)
    pNil))
    (pSeq (pSet 6 (pC (.int 0)))
    (pCut (pWh (pB (p2 vIn (pV 6) (pV 4))) (pSeq (pSet 6 (p2 vAddI (pV 6) (pC (.int 1))))
    pNil) 100000)
    (pSeq (pPut (pV 2) (pV 3) (pV 6))
    pNil))))))
    (pSeq (pRet (pV 2))
    pNil)))
noncomputable def m_numbered : List V → H → Option (V × H) := rBd 2 5 b_numbered.run
noncomputable def b_joined : PS := (pSeq (pSet 1 (pN (m_temps_of) [(pV 0)]))
    (pSeq (pSet 2 (pN (m_numbered) [(pV 1), (pN (m_clashes_of) [(pV 0), (pV 1)])]))
    (pSeq (pSet 3 (pComp 1 [2] (.one 0) (p1 (vAttr .rows) (pV 0)) [] (pN (m_with_operands) [(pV 0), (pV 1)])))
    (pSeq (pSet 4 (pList []))
    (pCut (pFor (.many [5, 6, 7, 8, 9]) (p1 (vAttr .trys) (pV 0)) (pSeq (pDo (pM "list" vAppend (pV 4) [(pTup [(pV 5), (pV 6), (pV 7), (pV 8), (pIf (pB (p2 vIs (pV 9) (pC .none))) (pC .none) (pI (pV 2) (pV 9)))])]))
    pNil))
    (pSeq (pSet 10 (pComp 4 [2] (.many [0, 1, 2, 3]) (p1 (vAttr .lives) (pV 0)) [] (pTup [(pI (pV 4) (pV 0)), (pV 1), (pV 2), (pV 3)])))
    (pSeq (pSet 11 (pC (.int 0)))
    (pCut (pFor (.one 12) (pV 1) (pSeq (pSet 11 (pN vMax [(pV 11), (p2 vAdd (pI (pV 2) (pV 12)) (pC (.int 1)))]))
    pNil))
    (pSeq (pRet (pN vCode [(pV 3), (p1 (vAttr .names) (pV 0)), (pV 11), (pV 4), (pV 10)]))
    pNil)))))))))
noncomputable def m_joined : List V → H → Option (V × H) := rBd 1 12 b_joined.run
noncomputable def b_law_draw : PS := (pSeq (pSet 3 (pI (pV 1) (pC (.int 0))))
    (pSeq (pPut (pV 1) (pC (.int 0)) (p2 vAdd (pV 3) (pC (.int 1))))
    (pSeq (pSet 4 (pIf (pB (p2 vLt (pV 3) (pN vLen [(pV 0)]))) (pI (pV 0) (pV 3)) (p2 vMod (p2 vPow (pC (.int 3)) (pV 3)) (pC (.int 1009)))))
    (pSeq (pRet (p2 vMod (pV 4) (pV 2)))
    pNil))))
noncomputable def mlD : List V → H → Option (V × H) := rBd 3 2 b_law_draw.run
noncomputable def b_law_operand : PS := (pSeq (pSet 2 (pN (mlD) [(pV 0), (pV 1), (pC (.int 9))]))
    (pCut (pWhen (pB (p2 vLt (pV 2) (pC (.int 2)))) (pSeq (pRet (pTup [(pC (.str [108, 105, 116])), (pI (pList [(pC (.str [120])), (pC .none)]) (pV 2))]))
    pNil) pNil)
    (pSeq (pRet (pIf (pB (p2 vLt (pV 2) (pC (.int 7)))) (pTup [(pC (.str [116, 109, 112])), (p2 vSub (pV 2) (pC (.int 2)))]) (pTup [(pC (.str [99, 118])), (p2 vSub (pV 2) (pC (.int 7)))])))
    pNil)))
noncomputable def m_law_operand : List V → H → Option (V × H) := rBd 2 1 b_law_operand.run
noncomputable def b_law_row : PS := (pSeq (pSet 3 (pN (mlD) [(pV 0), (pV 1), (pC (.int 15))]))
    (pCut (pWhen (pB (p2 vGt (pV 3) (pC (.int 11)))) (pSeq (pSet 4 (pI (pList [(pC (.str [106, 117, 109, 112])), (pC (.str [106, 117, 109, 112, 95, 105, 102])), (pC (.str [106, 117, 109, 112, 95, 110, 117, 108, 108]))]) (p2 vSub (pV 3) (pC (.int 12)))))
    (pSeq (pSet 5 (pN (m_law_operand) [(pV 0), (pV 1)]))
    (pSeq (pRet (pTup [(pV 4), (pC .none), (pIf (pB (p2 vEq (pV 4) (pC (.str [106, 117, 109, 112])))) (pC .none) (pV 5)), (pN (mlD) [(pV 0), (pV 1), (p2 vAdd (pV 2) (pC (.int 1)))])]))
    pNil))) pNil)
    (pCut (pWhen (pB (p2 vGt (pV 3) (pC (.int 8)))) (pSeq (pRet (pTup [(pI (pList [(pC (.str [116, 104, 114, 111, 119])), (pC (.str [101, 99, 104, 111])), (pC (.str [114, 101, 116, 117, 114, 110]))]) (p2 vSub (pV 3) (pC (.int 9)))), (pC .none), (pN (m_law_operand) [(pV 0), (pV 1)]), (pC .none)]))
    pNil) pNil)
    (pSeq (pSet 6 (pN (mlD) [(pV 0), (pV 1), (pC (.int 5))]))
    (pCut (pWhen (pB (p2 vEq (pV 3) (pC (.int 0)))) (pSeq (pRet (pTup [(pC (.str [97, 114, 114, 97, 121])), (pV 6), (pC .none), (pC .none)]))
    pNil) pNil)
    (pSeq (pSet 5 (pN (m_law_operand) [(pV 0), (pV 1)]))
    (pCut (pWhen (pB (p2 vLt (pV 3) (pC (.int 4)))) (pSeq (pRet (pTup [(pI (pList [(pC (.str [109, 111, 118, 101])), (pC (.str [109, 111, 118, 101])), (pC (.str [98, 111, 111, 108]))]) (p2 vSub (pV 3) (pC (.int 1)))), (pV 6), (pV 5), (pC .none)]))
    pNil) pNil)
    (pCut (pWhen (pB (p2 vLt (pV 3) (pC (.int 6)))) (pSeq (pRet (pTup [(pC (.str [98, 105, 110, 97, 114, 121])), (pV 6), (pTup [(pV 5), (pN (m_law_operand) [(pV 0), (pV 1)])]), (pC (.str [43]))]))
    pNil) pNil)
    (pCut (pWhen (pB (p2 vEq (pV 3) (pC (.int 6)))) (pSeq (pRet (pTup [(pC (.str [108, 105, 115, 116, 95, 101, 108, 101, 109])), (pV 6), (pTup [(pV 5), (pTup [(pC (.str [108, 105, 116])), (pC (.int 0))])]), (pC .none)]))
    pNil) pNil)
    (pSeq (pRet (pTup [(pC (.str [119, 114, 105, 116, 101])), (pIf (pB (p2 vEq (pV 3) (pC (.int 7)))) (pV 6) (pC .none)), (pTup [(pC (.str [100, 105, 109])), (pTup [(pC (.str [118, 97, 114])), (pTup [(pC (.str [108, 105, 116])), (pC (.str [119]))])]), (pV 5)]), (pN (m_law_operand) [(pV 0), (pV 1)])]))
    pNil))))))))))
noncomputable def m_law_row : List V → H → Option (V × H) := rBd 3 4 b_law_row.run
noncomputable def b_law_trys : PS := (pSeq (pSwap [3, 4] (pTup [(pN (mlD) [(pV 0), (pV 1), (pC (.int 4))]), (pList [])]))
    (pSeq (pSet 5 (pN (mlD) [(pV 0), (pV 1), (p2 vSub (pV 2) (pC (.int 1)))]))
    (pSeq (pSet 6 (p2 vAdd (p2 vAdd (pV 5) (pC (.int 1))) (pN (mlD) [(pV 0), (pV 1), (p2 vSub (p2 vSub (pV 2) (pC (.int 1))) (pV 5))])))
    (pSeq (pSet 7 (p2 vAdd (pV 6) (pN (mlD) [(pV 0), (pV 1), (p2 vAdd (p2 vSub (pV 2) (pV 6)) (pC (.int 1)))])))
    (pCut (pWhen (pB (p2 vIn (pV 3) (pList [(pC (.int 1)), (pC (.int 3))]))) (pSeq (pDo (pM "list" vAppend (pV 4) [(pTup [(pV 5), (pV 6), (pC .none), (pV 7), (pC .none)])]))
    pNil) pNil)
    (pSeq (pSet 8 (pN (mlD) [(pV 0), (pV 1), (p2 vSub (pV 2) (pC (.int 1)))]))
    (pSeq (pSet 9 (p2 vAdd (p2 vAdd (pV 8) (pC (.int 1))) (pN (mlD) [(pV 0), (pV 1), (p2 vSub (p2 vSub (pV 2) (pC (.int 1))) (pV 8))])))
    (pSeq (pSet 10 (p2 vAdd (pV 9) (pN (mlD) [(pV 0), (pV 1), (p2 vAdd (p2 vSub (pV 2) (pV 9)) (pC (.int 1)))])))
    (pSeq (pSet 11 (pN (mlD) [(pV 0), (pV 1), (pC (.int 5))]))
    (pCut (pWhen (pOr [(pB (p2 vEq (pV 3) (pC (.int 2)))), (pAnd [(pB (p2 vEq (pV 3) (pC (.int 3)))), (pB (p2 vNe (pV 9) (pV 6)))])]) (pSeq (pDo (pM "list" vAppend (pV 4) [(pTup [(pV 8), (pC .none), (pV 9), (pV 10), (pV 11)])]))
    pNil) pNil)
    (pSeq (pRet (pV 4))
    pNil)))))))))))
noncomputable def m_law_trys : List V → H → Option (V × H) := rBd 3 9 b_law_trys.run
noncomputable def b_law_operands : PS := (pSeq (pUnpack [1, 2, 3, 4] (pV 0))
    (pCut (pWhen (pB (p2 vIn (pV 1) (pList [(pC (.str [98, 105, 110, 97, 114, 121])), (pC (.str [108, 105, 115, 116, 95, 101, 108, 101, 109]))]))) (pSeq (pRet (pN vListOf [(pV 3)]))
    pNil) pNil)
    (pCut (pWhen (pB (p2 vEq (pV 1) (pC (.str [119, 114, 105, 116, 101])))) (pSeq (pRet (pList [(pI (pV 3) (pC (.int 2))), (pV 4)]))
    pNil) pNil)
    (pSeq (pRet (pIf (pB (p2 vIs (pV 3) (pC .none))) (pList []) (pList [(pV 3)])))
    pNil))))
noncomputable def m_law_operands : List V → H → Option (V × H) := rBd 1 4 b_law_operands.run
noncomputable def b_law_value : PS := (pSeq (pUnpack [2, 3] (pV 1))
    (pCut (pWhen (pB (p2 vEq (pV 2) (pC (.str [116, 109, 112])))) (pSeq (pRet (pI (pI (pV 0) (pC (.str [116, 101, 109, 112, 115]))) (pV 3)))
    pNil) pNil)
    (pSeq (pRet (pIf (pB (p2 vEq (pV 2) (pC (.str [108, 105, 116])))) (pV 3) (pI (pI (pV 0) (pC (.str [116, 97, 112, 101]))) (p2 vMod (p2 vAdd (pN vLen [(pI (pV 0) (pC (.str [108, 111, 103])))]) (pV 3)) (pN vLen [(pI (pV 0) (pC (.str [116, 97, 112, 101])))])))))
    pNil)))
noncomputable def m_law_value : List V → H → Option (V × H) := rBd 2 2 b_law_value.run
noncomputable def b_law_given : PS := (pCut (pWhen (pB (p2 vEq (pV 0) (pC (.str [109, 111, 118, 101])))) (pSeq (pRet (pI (pV 1) (pC (.int 0))))
    pNil) pNil)
    (pCut (pWhen (pB (p2 vEq (pV 0) (pC (.str [98, 111, 111, 108])))) (pSeq (pRet (p2 vIsNot (pI (pV 1) (pC (.int 0))) (pC .none)))
    pNil) pNil)
    (pSeq (pRet (p2 vAdd (pV 0) (pN vStr [(pV 2)])))
    pNil)))
noncomputable def m_law_given : List V → H → Option (V × H) := rBd 3 0 b_law_given.run
noncomputable def b_law_handler : PS := (pCut (pFor (.many [2, 3, 4, 5, 6]) (p1 vRev (pV 0)) (pCut (pWhen (pB (pChain vLe vLt (pV 2) (pV 1) (pIf (pB (p2 vIs (pV 3) (pC .none))) (pV 4) (pV 3)))) (pSeq (pRet (pList [(pIf (pB (p2 vIs (pV 4) (pC .none))) (pTup [(pV 3), (pC .none)]) (pTup [(pV 4), (pV 6)]))]))
    pNil) pNil)
    pNil))
    (pSeq (pRet (pList []))
    pNil))
noncomputable def m_law_handler : List V → H → Option (V × H) := rBd 2 5 b_law_handler.run
noncomputable def b_law_next : PS := (pSeq (pUnpack [4, 5, 6, 7] (pI (p1 (vAttr .rows) (pV 1)) (pV 2)))
    (pCut (pWhen (pB (p2 vEq (p1 (vTake 4) (pV 4)) (pC (.str [106, 117, 109, 112])))) (pSeq (pSet 8 (pBin false (pB (p2 vEq (pV 4) (pC (.str [106, 117, 109, 112])))) (p2 vEq (p2 vIs (pI (pV 3) (pC (.int 0))) (pC .none)) (p2 vEq (pV 4) (pC (.str [106, 117, 109, 112, 95, 110, 117, 108, 108]))))))
    (pSeq (pRet (pIf (pB (pV 8)) (pV 7) (p2 vAdd (pV 2) (pC (.int 1)))))
    pNil)) pNil)
    (pCut (pWhen (pB (p2 vEq (pV 4) (pC (.str [116, 104, 114, 111, 119])))) (pCut (pFor (.many [9, 10]) (pN (m_law_handler) [(p1 (vAttr .trys) (pV 1)), (pV 2)]) (pCut (pWhen (pB (p2 vIsNot (pV 10) (pC .none))) (pSeq (pPut (pI (pV 0) (pC (.str [116, 101, 109, 112, 115]))) (pV 10) (p2 vAdd (pC (.str [116, 104, 114, 111, 119, 110])) (pN vStr [(pN vLen [(pI (pV 0) (pC (.str [108, 111, 103])))])])))
    pNil) pNil)
    (pSeq (pRet (pV 9))
    pNil)))
    (pSeq (pRet (p1 vNeg (pC (.int 2))))
    pNil)) pNil)
    (pCut (pWhen (pB (p2 vIsNot (pV 5) (pC .none))) (pSeq (pPut (pI (pV 0) (pC (.str [116, 101, 109, 112, 115]))) (pV 5) (pN (m_law_given) [(pV 4), (pV 3), (pN vLen [(pI (pV 0) (pC (.str [108, 111, 103])))])]))
    pNil) pNil)
    (pSeq (pRet (pIf (pB (p2 vEq (pV 4) (pC (.str [114, 101, 116, 117, 114, 110])))) (p1 vNeg (pC (.int 1))) (p2 vAdd (pV 2) (pC (.int 1)))))
    pNil)))))
noncomputable def m_law_next : List V → H → Option (V × H) := rBd 4 7 b_law_next.run
noncomputable def b_law_told : PS := (pSeq (pSet 2 (pN (vDictS [[108, 111, 103], [116, 101, 109, 112, 115], [116, 97, 112, 101]]) [(pList []), (p2 vMul (pList [(pC .none)]) (p1 (vAttr .temps) (pV 0))), (pV 1)]))
    (pSeq (pSet 3 (pC (.int 0)))
    (pCut (pFor (.one 4) (pN vRange [(pC (.int 40))]) (pCut (pWhen (pB (pChain vLe vLt (pC (.int 0)) (pV 3) (pN vLen [(p1 (vAttr .rows) (pV 0))]))) (pSeq (pSet 5 (pComp 1 [2] (.one 0) (pN (m_law_operands) [(pI (p1 (vAttr .rows) (pV 0)) (pV 3))]) [] (pN (m_law_value) [(pV 1), (pV 0)])))
    (pSeq (pDo (pM "list" vAppend (pI (pV 2) (pC (.str [108, 111, 103]))) [(pTup [(pV 3), (pN vRepr [(pV 5)])])]))
    (pSeq (pSet 3 (pN (m_law_next) [(pV 2), (pV 0), (pV 3), (pV 5)]))
    pNil))) pNil)
    pNil))
    (pSeq (pRet (pTup [(pV 3), (pI (pV 2) (pC (.str [108, 111, 103])))]))
    pNil))))
noncomputable def m_law_told : List V → H → Option (V × H) := rBd 2 4 b_law_told.run
noncomputable def b_law_ways : PS := (pSeq (pUnpack [2, 3, 4, 5] (pI (p1 (vAttr .rows) (pV 0)) (pV 1)))
    (pSeq (pSet 6 (pIf (pB (p2 vIn (pV 2) (pList [(pC (.str [106, 117, 109, 112])), (pC (.str [114, 101, 116, 117, 114, 110])), (pC (.str [116, 104, 114, 111, 119]))]))) (pList []) (pList [(pTup [(p2 vAdd (pV 1) (pC (.int 1))), (pV 3)])])))
    (pCut (pWhen (pB (p2 vEq (p1 (vTake 4) (pV 2)) (pC (.str [106, 117, 109, 112])))) (pSeq (pDo (pM "list" vAppend (pV 6) [(pTup [(pV 5), (pV 3)])]))
    pNil) pNil)
    (pSeq (pRet (p2 vAdd (pV 6) (pN (m_law_handler) [(p1 (vAttr .trys) (pV 0)), (pV 1)])))
    pNil))))
noncomputable def m_law_ways : List V → H → Option (V × H) := rBd 2 5 b_law_ways.run
noncomputable def b_law_is_wanted : PS := (pSeq (pSwap [3, 4] (pTup [(pList [(pV 1)]), (pList [])]))
    (pCut (pWh (pB (p2 vNe (pV 3) (pList []))) (pSeq (pSet 5 (pM "list" vPop (pV 3) []))
    (pCut (pWhen (pAnd [(pB (p2 vLt (pV 5) (pN vLen [(p1 (vAttr .rows) (pV 0))]))), (pB (p2 vNotIn (pV 5) (pV 4)))]) (pSeq (pDo (pM "list" vAppend (pV 4) [(pV 5)]))
    (pCut (pWhen (pB (p2 vIn (pTup [(pC (.str [116, 109, 112])), (pV 2)]) (pN (m_law_operands) [(pI (p1 (vAttr .rows) (pV 0)) (pV 5))]))) (pSeq (pRet (pC (.bool true)))
    pNil) pNil)
    (pSeq (pDo (pM "list" vExtend (pV 3) [(pComp 2 [2] (.many [0, 1]) (pN (m_law_ways) [(pV 0), (pV 5)]) [(pB (p2 vNe (pV 1) (pV 2)))] (pV 0))]))
    pNil))) pNil)
    pNil)) 100000)
    (pSeq (pRet (pC (.bool false)))
    pNil)))
noncomputable def m_law_is_wanted : List V → H → Option (V × H) := rBd 3 3 b_law_is_wanted.run
noncomputable def b_law_live : PS := (pSeq (pSet 2 (pComp 1 [0, 1] (.one 0) (pN vRange [(pC (.int 5))]) [(pB (pN (m_law_is_wanted) [(pV 1), (pV 2), (pV 0)]))] (pV 0)))
    (pCut (pFor (.many [3, 4, 5, 6, 7]) (p1 (vAttr .trys) (pV 0)) (pCut (pWhen (pAnd [(pB (p2 vIsNot (pV 7) (pC .none))), (pB (pChain vLe vLt (pV 3) (pV 1) (pV 6))), (pB (p2 vNotIn (pV 7) (pV 2)))]) (pSeq (pDo (pM "list" vAppend (pV 2) [(pV 7)]))
    pNil) pNil)
    pNil))
    (pCut (pFor (.many [8, 3, 9, 10]) (p1 (vAttr .lives) (pV 0)) (pCut (pWhen (pAnd [(pB (pChain vLe vLt (pV 3) (pV 1) (pV 9))), (pB (p2 vNotIn (pV 8) (pV 2)))]) (pSeq (pDo (pM "list" vAppend (pV 2) [(pV 8)]))
    pNil) pNil)
    pNil))
    (pSeq (pRet (pN vSorted [(pV 2)]))
    pNil))))
noncomputable def m_law_live : List V → H → Option (V × H) := rBd 2 9 b_law_live.run
noncomputable def b_law_pairs : PS := (pSeq (pSet 2 (pList []))
    (pCut (pFor (.one 3) (pN vRange [(pN vLen [(p1 (vAttr .rows) (pV 0))])]) (pSeq (pSwap [4, 5] (pTup [(pI (p1 (vAttr .rows) (pV 0)) (pV 3)), (pI (p1 (vAttr .rows) (pV 1)) (pV 3))]))
    (pCut (pWhen (pB (p2 vIsNot (pI (pV 4) (pC (.int 1))) (pC .none))) (pSeq (pDo (pM "list" vAppend (pV 2) [(pTup [(pI (pV 4) (pC (.int 1))), (pI (pV 5) (pC (.int 1)))])]))
    pNil) pNil)
    (pSeq (pUnpack [6, 7] (pTup [(pN (m_law_operands) [(pV 4)]), (pN (m_law_operands) [(pV 5)])]))
    (pSeq (pDo (pM "list" vExtend (pV 2) [(pComp 1 [6, 7] (.one 0) (pN vRange [(pN vLen [(pV 6)])]) [(pB (p2 vEq (pI (pI (pV 1) (pV 0)) (pC (.int 0))) (pC (.str [116, 109, 112]))))] (pTup [(pI (pI (pV 1) (pV 0)) (pC (.int 1))), (pI (pI (pV 2) (pV 0)) (pC (.int 1)))]))]))
    pNil)))))
    (pCut (pFor (.one 8) (pN vRange [(pN vLen [(p1 (vAttr .trys) (pV 0))])]) (pCut (pWhen (pB (p2 vIsNot (pI (pI (p1 (vAttr .trys) (pV 0)) (pV 8)) (pC (.int 4))) (pC .none))) (pSeq (pDo (pM "list" vAppend (pV 2) [(pTup [(pI (pI (p1 (vAttr .trys) (pV 0)) (pV 8)) (pC (.int 4))), (pI (pI (p1 (vAttr .trys) (pV 1)) (pV 8)) (pC (.int 4)))])]))
    pNil) pNil)
    pNil))
    (pSeq (pRet (p2 vAdd (pV 2) (pComp 1 [0, 1] (.one 0) (pN vRange [(pN vLen [(p1 (vAttr .lives) (pV 0))])]) [] (pTup [(pI (pI (p1 (vAttr .lives) (pV 1)) (pV 0)) (pC (.int 0))), (pI (pI (p1 (vAttr .lives) (pV 2)) (pV 0)) (pC (.int 0)))]))))
    pNil))))
noncomputable def m_law_pairs : List V → H → Option (V × H) := rBd 2 7 b_law_pairs.run
noncomputable def b_law_renamed : PS := (pSeq (pRet (pIf (pB (p2 vEq (pI (pV 1) (pC (.int 0))) (pC (.str [116, 109, 112])))) (pTup [(pC (.str [116, 109, 112])), (pI (pV 0) (pI (pV 1) (pC (.int 1))))]) (pV 1)))
    pNil)
noncomputable def m_law_renamed : List V → H → Option (V × H) := rBd 2 0 b_law_renamed.run
noncomputable def b_law_new_row : PS := (pSeq (pUnpack [2, 3, 4, 5] (pV 1))
    (pSeq (pSet 3 (pIf (pB (p2 vIs (pV 3) (pC .none))) (pC .none) (pI (pV 0) (pV 3))))
    (pCut (pWhen (pB (p2 vIn (pV 2) (pList [(pC (.str [98, 105, 110, 97, 114, 121])), (pC (.str [108, 105, 115, 116, 95, 101, 108, 101, 109]))]))) (pSeq (pRet (pTup [(pV 2), (pV 3), (pN vTupleOf [(pComp 1 [0] (.one 0) (pV 4) [] (pN (m_law_renamed) [(pV 1), (pV 0)]))]), (pV 5)]))
    pNil) pNil)
    (pCut (pWhen (pB (p2 vEq (pV 2) (pC (.str [119, 114, 105, 116, 101])))) (pSeq (pRet (pTup [(pV 2), (pV 3), (pTup [(pI (pV 4) (pC (.int 0))), (pI (pV 4) (pC (.int 1))), (pN (m_law_renamed) [(pV 0), (pI (pV 4) (pC (.int 2)))])]), (pN (m_law_renamed) [(pV 0), (pV 5)])]))
    pNil) pNil)
    (pSeq (pRet (pTup [(pV 2), (pV 3), (pIf (pB (p2 vIs (pV 4) (pC .none))) (pV 4) (pN (m_law_renamed) [(pV 0), (pV 4)])), (pV 5)]))
    pNil)))))
noncomputable def m_law_new_row : List V → H → Option (V × H) := rBd 2 4 b_law_new_row.run
noncomputable def b_law_are_apart : PS := (pSeq (pSet 2 (pComp 1 [0] (.one 0) (pV 1) [] (pI (pV 1) (pV 0))))
    (pSeq (pRet (p2 vEq (pN vLen [(pComp 1 [2] (.one 0) (pV 2) [(pB (p2 vGt (pM "list" vCount (pV 1) [(pV 0)]) (pC (.int 1))))] (pV 0))]) (pC (.int 0))))
    pNil))
noncomputable def m_law_are_apart : List V → H → Option (V × H) := rBd 2 1 b_law_are_apart.run
noncomputable def b_law_do_clash : PS := (pCut (pFor (.one 4) (pN vRange [(pN vLen [(p1 (vAttr .rows) (pV 0))])]) (pSeq (pSwap [5, 6] (pTup [(pI (pI (p1 (vAttr .rows) (pV 0)) (pV 4)) (pC (.int 1))), (pIf (pB (p2 vLt (p2 vAdd (pV 4) (pC (.int 1))) (pN vLen [(p1 (vAttr .rows) (pV 0))]))) (pI (pV 1) (p2 vAdd (pV 4) (pC (.int 1)))) (pList []))]))
    (pCut (pWhen (pOr [(pAnd [(pB (p2 vIn (pV 2) (pI (pV 1) (pV 4)))), (pB (p2 vIn (pV 3) (pI (pV 1) (pV 4))))]), (pAnd [(pB (p2 vEq (pV 5) (pV 2))), (pB (p2 vIn (pV 3) (pV 6)))])]) (pSeq (pRet (pC (.bool true)))
    pNil) pNil)
    (pCut (pWhen (pAnd [(pB (p2 vEq (pV 5) (pV 3))), (pB (p2 vIn (pV 2) (pV 6)))]) (pSeq (pRet (pC (.bool true)))
    pNil) pNil)
    pNil))))
    (pSeq (pRet (pC (.bool false)))
    pNil))
noncomputable def m_law_do_clash : List V → H → Option (V × H) := rBd 4 3 b_law_do_clash.run
noncomputable def b_law_is_joined : PS := (pCut (pWhen (pOr [(pB (p2 vNe (pN vLen [(p1 (vAttr .rows) (pV 1))]) (pN vLen [(p1 (vAttr .rows) (pV 0))]))), (pB (p2 vNe (pN vLen [(p1 (vAttr .trys) (pV 1))]) (pN vLen [(p1 (vAttr .trys) (pV 0))]))), (pB (p2 vNe (pN vLen [(p1 (vAttr .lives) (pV 1))]) (pN vLen [(p1 (vAttr .lives) (pV 0))])))]) (pSeq (pRet (pC (.bool false)))
    pNil) pNil)
    (pSeq (pSet 3 (pN (m_law_pairs) [(pV 0), (pV 1)]))
    (pSeq (pSet 4 (pN vDictOf [(pV 3)]))
    (pCut (pWhen (pB (p2 vNe (pComp 1 [4] (.one 0) (pV 3) [(pB (p2 vNe (pI (pV 1) (pI (pV 0) (pC (.int 0)))) (pI (pV 0) (pC (.int 1)))))] (pV 0)) (pList []))) (pSeq (pRet (pC (.bool false)))
    pNil) pNil)
    (pCut (pWhen (pB (p2 vNe (pN vSorted [(pComp 1 [4] (.one 0) (pN vRange [(p1 (vAttr .temps) (pV 1))]) [(pB (p2 vIn (pV 0) (pM "dict" vVals (pV 1) [])))] (pV 0))]) (pN vListOf [(pN vRange [(p1 (vAttr .temps) (pV 1))])]))) (pSeq (pRet (pC (.bool false)))
    pNil) pNil)
    (pCut (pWhen (pB (p2 vNe (pComp 1 [1] (.one 0) (pM "dict" vVals (pV 4) []) [(pNot (pB (pChain vLe vLt (pC (.int 0)) (pV 0) (p1 (vAttr .temps) (pV 1)))))] (pV 0)) (pList []))) (pSeq (pRet (pC (.bool false)))
    pNil) pNil)
    (pCut (pWhen (pOr [(pB (p2 vNe (p1 (vAttr .rows) (pV 1)) (pComp 1 [4] (.one 0) (p1 (vAttr .rows) (pV 0)) [] (pN (m_law_new_row) [(pV 1), (pV 0)])))), (pB (p2 vNe (p1 (vAttr .names) (pV 1)) (p1 (vAttr .names) (pV 0))))]) (pSeq (pRet (pC (.bool false)))
    pNil) pNil)
    (pCut (pWhen (pB (p2 vNe (pComp 1 [] (.one 0) (p1 (vAttr .trys) (pV 1)) [] (p1 (vTake 4) (pV 0))) (pComp 1 [] (.one 0) (p1 (vAttr .trys) (pV 0)) [] (p1 (vTake 4) (pV 0))))) (pSeq (pRet (pC (.bool false)))
    pNil) pNil)
    (pCut (pWhen (pB (p2 vNe (pComp 1 [] (.one 0) (p1 (vAttr .lives) (pV 1)) [] (p1 (vDrop 1) (pV 0))) (pComp 1 [] (.one 0) (p1 (vAttr .lives) (pV 0)) [] (p1 (vDrop 1) (pV 0))))) (pSeq (pRet (pC (.bool false)))
    pNil) pNil)
    (pCut (pFor (.one 5) (pN vRange [(pN vLen [(p1 (vAttr .rows) (pV 0))])]) (pSeq (pSet 6 (pI (pI (p1 (vAttr .rows) (pV 0)) (pV 5)) (pC (.int 1))))
    (pCut (pWhen (pNot (pB (pN (m_law_are_apart) [(pV 4), (pI (pV 2) (pV 5))]))) (pSeq (pRet (pC (.bool false)))
    pNil) pNil)
    (pCut (pWhen (pAnd [(pB (p2 vIsNot (pV 6) (pC .none))), (pB (p2 vLt (p2 vAdd (pV 5) (pC (.int 1))) (pN vLen [(p1 (vAttr .rows) (pV 0))])))]) (pCut (pWhen (pNot (pB (pN (m_law_are_apart) [(pV 4), (p2 vAdd (pComp 1 [6] (.one 0) (pI (pV 2) (p2 vAdd (pV 5) (pC (.int 1)))) [(pB (p2 vNe (pV 0) (pV 1)))] (pV 0)) (pList [(pV 6)]))]))) (pSeq (pRet (pC (.bool false)))
    pNil) pNil)
    pNil) pNil)
    pNil))))
    (pCut (pFor (.one 7) (pV 4) (pCut (pFor (.one 8) (pN vRange [(pI (pV 4) (pV 7))]) (pCut (pWhen (pB (p2 vEq (pComp 1 [8, 0, 2, 7, 4] (.one 0) (pV 4) [(pAnd [(pB (p2 vEq (pI (pV 5) (pV 0)) (pV 1))), (pB (pN (m_law_do_clash) [(pV 2), (pV 3), (pV 4), (pV 0)]))])] (pV 0)) (pList []))) (pSeq (pRet (pC (.bool false)))
    pNil) pNil)
    pNil))
    pNil))
    (pSeq (pRet (pC (.bool true)))
    pNil))))))))))))
noncomputable def m_law_is_joined : List V → H → Option (V × H) := rBd 3 6 b_law_is_joined.run
noncomputable def b_law : PS := (pSeq (pSet 1 (pList [(pC (.int 0))]))
    (pSeq (pSet 2 (p2 vAdd (pC (.int 5)) (pN (mlD) [(pV 0), (pV 1), (pC (.int 5))])))
    (pSeq (pSet 3 (pComp 1 [0, 1, 2] (.one 0) (pN vRange [(pV 2)]) [] (pN (m_law_row) [(pV 1), (pV 2), (pV 3)])))
    (pSeq (pSwap [4, 5] (pTup [(pN (m_law_trys) [(pV 0), (pV 1), (pV 2)]), (pList [])]))
    (pCut (pWhen (pB (p2 vEq (pN (mlD) [(pV 0), (pV 1), (pC (.int 2))]) (pC (.int 1)))) (pSeq (pSet 6 (pN (mlD) [(pV 0), (pV 1), (pV 2)]))
    (pSeq (pDo (pM "list" vAppend (pV 5) [(pTup [(pN (mlD) [(pV 0), (pV 1), (pC (.int 5))]), (pV 6), (p2 vAdd (p2 vAdd (pV 6) (pC (.int 1))) (pN (mlD) [(pV 0), (pV 1), (p2 vSub (pV 2) (pV 6))])), (pC (.str [99, 97, 108, 108]))])]))
    pNil)) pNil)
    (pSeq (pSet 7 (pComp 1 [0, 1] (.one 0) (pN vRange [(pC (.int 7))]) [] (pI (pList [(pC .none), (pC (.str [121]))]) (pN (mlD) [(pV 1), (pV 2), (pC (.int 2))]))))
    (pSeq (pSet 8 (pN vCode [(pN vListOf [(pV 3)]), (pList [(pC (.str [97])), (pC (.str [98]))]), (pC (.int 5)), (pN vListOf [(pV 4)]), (pN vListOf [(pV 5)])]))
    (pSeq (pSet 9 (pComp 1 [8] (.one 0) (pN vRange [(pV 2)]) [] (pN (m_law_live) [(pV 1), (pV 0)])))
    (pCut (pWhen (pB (p2 vNe (pComp 1 [] (.one 0) (pN (m_live_at) [(pV 8)]) [] (pN vSorted [(pV 0)])) (pV 9))) (pSeq (pRet (pC (.bool false)))
    pNil) pNil)
    (pSeq (pSet 10 (pN (m_joined) [(pV 8)]))
    (pCut (pWhen (pOr [(pNot (pB (pN (m_law_is_joined) [(pV 8), (pV 10), (pV 9)]))), (pB (p2 vNe (pN (m_law_told) [(pV 10), (pV 7)]) (pN (m_law_told) [(pV 8), (pV 7)])))]) (pSeq (pRet (pC (.bool false)))
    pNil) pNil)
    (pSeq (pRet (pBin true (pB (p2 vEq (p1 (vAttr .rows) (pV 8)) (pV 3))) (pBin true (pB (p2 vEq (p1 (vAttr .trys) (pV 8)) (pV 4))) (p2 vEq (p1 (vAttr .lives) (pV 8)) (pV 5)))))
    pNil))))))))))))
end
section
set_option maxRecDepth 100000
set_option maxHeartbeats 1000000
theorem len0 {rs : List Value} {P : List Value → Prop} (h : rs.length = 0) (k : P []) : P rs := by
  cases rs with
  | nil => exact k
  | cons _ _ => cases h
theorem lenS {rs : List Value} {n : Nat} {P : List Value → Prop} (h : rs.length = n + 1) (k : ∀ a r, r.length = n → P (a :: r)) : P rs := by
  cases rs with
  | nil => cases h
  | cons a r => exact k a r (Nat.succ.inj h)
theorem len1 {rs : List Value} {P : List Value → Prop} (h : rs.length = 1) (k : ∀ a, P [a]) : P rs := lenS h fun a _ h => len0 (P := fun r => P (a :: r)) h (k a)
theorem len2 {rs : List Value} {P : List Value → Prop} (h : rs.length = 2) (k : ∀ a b, P [a, b]) : P rs := lenS h fun a _ h => len1 (P := fun r => P (a :: r)) h (k a)
theorem len3 {rs : List Value} {P : List Value → Prop} (h : rs.length = 3) (k : ∀ a b c, P [a, b, c]) : P rs := lenS h fun a _ h => len2 (P := fun r => P (a :: r)) h (k a)
theorem len4 {rs : List Value} {P : List Value → Prop} (h : rs.length = 4) (k : ∀ a b c d, P [a, b, c, d]) : P rs := lenS h fun a _ h => len3 (P := fun r => P (a :: r)) h (k a)
theorem len5 {rs : List Value} {P : List Value → Prop} (h : rs.length = 5) (k : ∀ a b c d e, P [a, b, c, d, e]) : P rs := lenS h fun a _ h => len4 (P := fun r => P (a :: r)) h (k a)
noncomputable def nst : Expr → Bool
  | .Starred .. => false
  | _ => true
theorem ns {a : Expr} (h : nst a = true) : ∀ x p, a ≠ .Starred x p := fun x p e => by subst e; cases h
noncomputable def bR (a f t : Bool) : Bool := @Bool.rec (fun _ => Bool) f t a
noncomputable def isVar (o : Option NameKind) : Bool := @Option.rec NameKind (fun _ => Bool) false (fun k => @NameKind.rec (fun _ => Bool) true true true false false k) o
noncomputable def isIdx (o : Option Nat) (i : Nat) : Bool := @Option.rec Nat (fun _ => Bool) false (Nat.beq i) o
noncomputable def vk (nm : List Str) (sc : Scope) (x : Str) (i : Nat) : Bool := bR (isIdx (idx nm x) i) false (bR (isVar (sc.names.lookup x)) false (bR (x == ("__debug__" : Str)) (bR (x == ("__classdict__" : Str)) true false) false))
theorem b_and {a b : Bool} (h : bR a false b = true) : a = true ∧ b = true := by cases a; cases h; exact ⟨rfl, h⟩
theorem b_not {a b : Bool} (h : bR a b false = true) : a = false ∧ b = true := by cases a; exact ⟨rfl, h⟩; cases h
theorem isVar_e {o : Option NameKind} (h : isVar o = true) : o = some .local ∨ o = some .cell ∨ o = some .free := by
  cases o with
  | none => cases h
  | some k => cases k; exact .inl rfl; exact .inr (.inl rfl); exact .inr (.inr rfl); cases h; cases h
theorem idx_e {o : Option Nat} {i : Nat} (h : isIdx o i = true) : o = some i := by
  cases o with
  | none => cases h
  | some k => exact congrArg some (Nat.eq_of_beq_eq_true h).symm
theorem sv {X : Ctx} {d : Nat} {nm : List Str} {sc : Scope} {x : Str} {i : Nat} {pos} (h : vk nm sc x i = true := by exact Eq.refl true) : SimE X d nm sc (.Name x pos) (eV i) := by
  obtain ⟨h1, h⟩ := b_and h
  obtain ⟨h2, h⟩ := b_and h
  obtain ⟨h3, h⟩ := b_not h
  exact simE_var (idx_e h1) (isVar_e h2) h3 (b_not h).1
theorem sL {X : Ctx} {d : Nat} {nm : List Str} {sc : Scope} {a : Expr} {r : List Expr} {ma : Ex} {mr : List Ex} (ha : SimE X d nm sc a ma) (hr : SimL X d nm sc r (eL mr)) (h : nst a = true) : SimL X d nm sc (a :: r) (eL (ma :: mr)) := sLc ha hr (ns h)
theorem yT : true = true := rfl
theorem yF : false = false := rfl
noncomputable def fk (nm : List Str) (scope : Scope) (k : Nat) : Bool := decide (scope.kind = .function) && (decide (nm.take k).Nodup && (decide ((cellsFrom 0 scope.names []).map (·.1)).Nodup &&
  (decide (∀ y ∈ nm.take k, scope.names.lookup y = some .local ∨ scope.names.lookup y = some .cell) && (decide (scope.isCoroutine = false) && decide (scope.isGenerator = false)))))
noncomputable def isGl (o : Option NameKind) : Bool := @Option.rec NameKind (fun _ => Bool) false (fun k => @NameKind.rec (fun _ => Bool) false false false false true k) o
theorem isGl_e {o : Option NameKind} (h : isGl o = true) : o = some .globalImplicit := by
  cases o with
  | none => cases h
  | some k => cases k; cases h; cases h; cases h; cases h; rfl
theorem envS {sc : Scope} {P : Env → Prop} (k : ∀ env : Env, P { env with scope := sc }) : ∀ env : Env, env.scope = sc → P env := fun env h => by
  have := k env
  cases env; cases h; exact this
noncomputable def isLC (o : Option NameKind) : Bool := @Option.rec NameKind (fun _ => Bool) false (fun k => @NameKind.rec (fun _ => Bool) true true false false false k) o
noncomputable def tgk (nm : List Str) (sc : Scope) (x : Str) (i : Nat) : Bool := bR (isIdx (idx nm x) i) false (isLC (sc.names.lookup x))
theorem isLC_e {o : Option NameKind} (h : isLC o = true) : o = some .local ∨ o = some .cell := by
  cases o with
  | none => cases h
  | some k => cases k; exact .inl rfl; exact .inr rfl; cases h; cases h; cases h
theorem tg1 {nm : List Str} {sc : Scope} {x : Str} {i : Nat} (h : tgk nm sc x i = true) : idx nm x = some i ∧ (sc.names.lookup x = some .local ∨ sc.names.lookup x = some .cell) := ⟨idx_e (b_and h).1, isLC_e (b_and h).2⟩
theorem tg2 {nm : List Str} {sc : Scope} {x : Str} {i : Nat} {pos : Pos} {es : List Expr} {is : List Nat} (h : tgk nm sc x i = true) (g : TgsOk nm sc es is) : TgsOk nm sc (.Name x pos :: es) (i :: is) := ⟨tg1 h, g⟩
theorem sS {X : Ctx} {d : Nat} {nm : List Str} {sc : Scope} {x : Str} {i : Nat} {a : Expr} {p pos} {ma : Ex} (ha : SimE X d nm sc a ma) (h : tgk nm sc x i = true)
    (hs : ∀ env : Env, env.scope = sc → swapsWith a (some (.Name x p)) pos.line env = pure false) : SimS X d nm sc (.Assign [.Name x p] a pos) (sSet i ma) := sSs ha (tg1 h).1 (tg1 h).2 hs
theorem cE {X : Ctx} {sc : Scope} {nm : List Str} {d d' : Nat} (ok : X.Ok) {name : Str} {a : Expr} {as : List Expr} {p pos} {ms : List Ex} {m} (hf : SimF X d' name m) (hd : Nat.ble d' d = true) (hL : SimL X d nm sc (a :: as) (eL ms))
    (h : bR (isGl (sc.names.lookup name)) false (bR (name == ("__debug__" : Str)) (nst a) false) = true) : SimE X d nm sc (.Call (.Name name p) (a :: as) [] pos) (eN m ms) :=
  sEc ok hf (Nat.le_of_ble_eq_true hd) hL (isGl_e (b_and h).1) (b_not (b_and h).2).1 (ns (b_not (b_and h).2).2)
theorem sFg {X : Ctx} (ok : X.Ok) {K : Frag} (hK : X.K = K) {d : Nat} {name nme qual : Str} {params : Arguments} {body : List Stmt} {scope : Scope} {kV doc pm cdv ct oc : Value} {an od : Option Addr} {osl : Array (Option Value)} {f : Addr} {nm : List Str} {k n : Nat} {m : Sx}
    (hg : nsIn K mainGlobals name = some (some (.ref f)))
    (ho : K.lookup f = some ⟨oc, od, .func (fnOf nme qual params body scope .none kV doc pm an cdv ct), osl⟩) (hcd : codeIn K cdv qual = true)
    (hb : SimSs X d nm scope body m)
    (hbind : ∀ rargs : List Value, rargs.length = k → bindArgs (fnOf nme qual params body scope .none kV doc pm an cdv ct) ⟨rargs, []⟩ = pure ((nm.take k).zip rargs))
    (h : fk nm scope k = true) : SimF X (d + 1) name (rBd k n m) := by
  subst hK
  unfold fk at h
  simp only [Bool.and_eq_true, decide_eq_true_eq] at h
  obtain ⟨h1, h2, h3, h4, h5, h6⟩ := h
  exact simF_intro ok hg ho hcd hb hbind h1 h2 h3 h4 h5 h6
theorem sim_shape_of {X : Ctx} (ok : X.Ok) {fI : Addr} {ib : List Stmt} (co : CdO X fI ib) {P : Params} (hK : X.K = hd.heap_1 P) : SimF X 1 (Str.ofString "shape_of") m_shape_of := by
  refine sFg ok hK (d := 0) (nm := [Str.ofString "op", Str.ofString "rest"]) (k := 1) (n := 1) rfl rfl rfl ?_ (by intro _ h; apply len1 h; intros; rfl) (by kernel_rfl)
  exact (sSc (sSi (sTc in_ok yF sv (sEt (sL (sEs (by rfl)) (sL (sEs (by rfl)) (sL (sEs (by rfl)) (sL (sEs (by rfl)) (sL (sEs (by rfl)) sLn yT) yT) yT) yT) yT))) (sSc (sSr (sEt (sL (sEs (by rfl)) (sL (sEs (by rfl)) sLn yT) yT)))
    sSn) sSn)
    (sSc (sSi (sTc in_ok yF sv (sEt (sL (sEs (by rfl)) (sL (sEs (by rfl)) sLn yT) yT))) (sSc (sSr (sEt (sL (sEs (by rfl)) (sL (sEs (by rfl)) sLn yT) yT)))
    sSn) sSn)
    (sSc (sSi (sTc in_ok yF sv (sEt (sL (sEs (by rfl)) (sL (sEs (by rfl)) (sL (sEs (by rfl)) (sL (sEs (by rfl)) (sL (sEs (by rfl)) (sL (sEs (by rfl)) (sL (sEs (by rfl)) (sL (sEs (by rfl)) (sL (sEs (by rfl)) (sL (sEs (by rfl)) (sL (sEs (by rfl)) (sL (sEs (by rfl)) (sL (sEs (by rfl)) (sL (sEs (by rfl)) (sL (sEs (by rfl)) sLn yT) yT) yT) yT) yT) yT) yT) yT) yT) yT) yT) yT) yT) yT) yT))) (sSc (sSr (sEt (sL (sEs (by rfl)) (sL (sEs (by rfl)) sLn yT) yT)))
    sSn) sSn)
    (sSc (sSi (sTc in_ok yF sv (sEt (sL (sEs (by rfl)) (sL (sEs (by rfl)) (sL (sEs (by rfl)) (sL (sEs (by rfl)) (sL (sEs (by rfl)) (sL (sEs (by rfl)) (sL (sEs (by rfl)) sLn yT) yT) yT) yT) yT) yT) yT))) (sSc (sSr (sEt (sL (sEs (by rfl)) (sL (sEs (by rfl)) sLn yT) yT)))
    sSn) sSn)
    (sSc (sSi (sTc in_ok yF sv (sEt (sL (sEs (by rfl)) (sL (sEs (by rfl)) (sL (sEs (by rfl)) (sL (sEs (by rfl)) sLn yT) yT) yT) yT))) (sSc (sSr (sEt (sL (sEs (by rfl)) (sL (sEs (by rfl)) sLn yT) yT)))
    sSn) sSn)
    (sSc (sSi (sTc in_ok yF sv (sEt (sL (sEs (by rfl)) (sL (sEs (by rfl)) (sL (sEs (by rfl)) sLn yT) yT) yT))) (sSc (sSr (sEt (sL (sEs (by rfl)) (sL (sEs (by rfl)) sLn yT) yT)))
    sSn) sSn)
    (sSc (sSi (sTc in_ok yF sv (sEt (sL (sEs (by rfl)) (sL (sEs (by rfl)) (sL (sEs (by rfl)) sLn yT) yT) yT))) (sSc (sSr (sEt (sL (sEs (by rfl)) (sL (sEs (by rfl)) sLn yT) yT)))
    sSn) sSn)
    (sSc (sSi (sTc in_ok yF sv (sEt (sL (sEs (by rfl)) (sL (sEs (by rfl)) (sL (sEs (by rfl)) sLn yT) yT) yT))) (sSc (sSr (sEt (sL (sEs (by rfl)) (sL (sEs (by rfl)) sLn yT) yT)))
    sSn) sSn)
    (sSc (sSi (sTc in_ok yF sv (sEt (sL (sEs (by rfl)) (sL (sEs (by rfl)) sLn yT) yT))) (sSc (sSr (sEt (sL (sEs (by rfl)) (sL (sEs (by rfl)) sLn yT) yT)))
    sSn) sSn)
    (sSc (sSi (sTc in_ok yF sv (sEt (sL (sEs (by rfl)) (sL (sEs (by rfl)) sLn yT) yT))) (sSc (sSr (sEt (sL (sEs (by rfl)) (sL (sEs (by rfl)) sLn yT) yT)))
    sSn) sSn)
    (sSc (sS (simE_dict ok (StrKeys.cons (by rfl) (StrKeys.cons (by rfl) (StrKeys.cons (by rfl) (StrKeys.cons (by rfl) (StrKeys.cons (by rfl) (StrKeys.cons (by rfl) (StrKeys.cons (by rfl) (StrKeys.cons (by rfl) (StrKeys.cons (by rfl) (StrKeys.cons (by rfl) (StrKeys.cons (by rfl) (StrKeys.cons (by rfl) (StrKeys.cons (by rfl) (StrKeys.cons (by rfl) (StrKeys.cons (by rfl) (StrKeys.cons (by rfl) StrKeys.nil)))))))))))))))) (SimEs.cons (sEt (sL (sEs (by rfl)) (sL (sEs (by rfl)) sLn yT) yT)) (SimEs.cons (sEt (sL (sEs (by rfl)) (sL (sEs (by rfl)) sLn yT) yT)) (SimEs.cons (sEt (sL (sEs (by rfl)) (sL (sEs (by rfl)) sLn yT) yT)) (SimEs.cons (sEt (sL (sEs (by rfl)) (sL (sEs (by rfl)) sLn yT) yT)) (SimEs.cons (sEt (sL (sEs (by rfl)) (sL (sEs (by rfl)) sLn yT) yT)) (SimEs.cons (sEt (sL (sEs (by rfl)) (sL (sEs (by rfl)) sLn yT) yT)) (SimEs.cons (sEt (sL (sEs (by rfl)) (sL (sEs (by rfl)) sLn yT) yT)) (SimEs.cons (sEt (sL (sEs (by rfl)) (sL (sEs (by rfl)) sLn yT) yT)) (SimEs.cons (sEt (sL (sEs (by rfl)) (sL (sEs (by rfl)) sLn yT) yT)) (SimEs.cons (sEt (sL (sEs (by rfl)) (sL (sEs (by rfl)) sLn yT) yT)) (SimEs.cons (sEt (sL (sEs (by rfl)) (sL (sEs (by rfl)) sLn yT) yT)) (SimEs.cons (sEt (sL (sEs (by rfl)) (sL (sEs (by rfl)) sLn yT) yT)) (SimEs.cons (sEt (sL (sEs (by rfl)) (sL (sEs (by rfl)) sLn yT) yT)) (SimEs.cons (sEt (sL (sEs (by rfl)) (sL (sEs (by rfl)) sLn yT) yT)) (SimEs.cons (sEt (sL (sEs (by rfl)) (sL (sEs (by rfl)) sLn yT) yT)) (SimEs.cons (sEt (sL (sEs (by rfl)) (sL (sEs (by rfl)) sLn yT) yT)) SimEs.nil)))))))))))))))) (by rfl) (by simp) (by decide)) yT (fun _ _ => rfl))
    (sSc (sSr (simE_get sv sv (sEt (sL (sEs (by rfl)) (sL (sEs (by rfl)) sLn yT) yT)) (ns rfl) (ns rfl) (fun _ => rfl) rfl))
    sSn))))))))))))
theorem sim_mut {X : Ctx} (ok : X.Ok) {fI : Addr} {ib : List Stmt} (co : CdO X fI ib) {P : Params} (hK : X.K = hd.heap_1 P) : ∀ n : Nat, SimF X (1 + n) (Str.ofString "place_reads") (m_place_reads n) ∧ SimF X (1 + n) (Str.ofString "part_reads") (mPr n)
  | 0 => ⟨simF_zero ok (by rw [hK]; rfl) (by rw [hK]; rfl) (by rfl), simF_zero ok (by rw [hK]; rfl) (by rw [hK]; rfl) (by rfl)⟩
  | n + 1 => by
    have ih := sim_mut ok co hK n
    constructor
    · refine sFg ok hK (d := 1 + n) (nm := [Str.ofString "place", Str.ofString "last"]) (k := 1) (n := 1) rfl rfl rfl ?_ (by intro _ h; apply len1 h; intros; rfl) (by kernel_rfl)
      exact (sSc (sSi (sTc in_ok yF (sEu (fun _ _ => rfl) sv sEi) (sEt (sL (sEs (by rfl)) (sL (sEs (by rfl)) sLn yT) yT))) (sSc (sSr (sEl ok (sL (sEu (fun _ _ => rfl) sv sEi) sLn yT)))
    sSn) sSn)
    (sSc (sSi (sTc eq_ok yF (sEu (fun _ _ => rfl) sv sEi) (sEs (by rfl))) (sSc (sSr (sEb (add_ok ok) (sEc ok ih.2 (Nat.le_refl _) (sL (sEs (by rfl)) (sL (sEu (fun _ _ => rfl) sv sEi) sLn yT) yT) rfl yF (ns rfl)) (sEl ok (sL (sEu (fun _ _ => rfl) sv sEi) sLn yT))))
    sSn) sSn)
    (sSc (sSi (sTc in_ok yF (sEu (fun _ _ => rfl) sv sEi) (sEt (sL (sEs (by rfl)) (sL (sEs (by rfl)) sLn yT) yT))) (sSc (sS (simE_if (sTc eq_ok yF (sEu (fun _ _ => rfl) (sEu (fun _ _ => rfl) sv sEi) sEi) (sEs (by rfl))) (sEl ok sLn) (sEl ok (sL (sEu (fun _ _ => rfl) sv sEi) sLn yT))) yT (fun _ _ => rfl))
    (sSc (sSr (sEb (add_ok ok) (sEc ok ih.1 (Nat.le_refl _) (sL (sEu (fun _ _ => rfl) sv sEi) sLn yT) rfl yF (ns rfl)) sv))
    sSn)) sSn)
    (sSc (sSr (sEl ok sLn))
    sSn))))
    · refine sFg ok hK (d := 1 + n) (nm := [Str.ofString "shape", Str.ofString "part", Str.ofString "found", Str.ofString "at"]) (k := 2) (n := 2) rfl rfl rfl ?_ (by intro _ h; apply len2 h; intros; rfl) (by kernel_rfl)
      exact (sSc (sSi (simT_or (SimTs.cons (sTc in_ok yF sv (sEt (sL (sEs (by rfl)) (sL (sEs (by rfl)) (sL (sEs (by rfl)) (sL (sEs (by rfl)) sLn yT) yT) yT) yT))) (SimTs.cons (sTc is_ok yF sv sEn) SimTs.nil))) (sSc (sSr (sEl ok sLn))
    sSn) sSn)
    (sSc (sSi (sTc eq_ok yF sv (sEs (by rfl))) (sSc (sSr (simE_listOf ok (sL sv sLn yT) rfl ⟨(ns rfl), trivial⟩))
    sSn) sSn)
    (sSc (sSi (sTc gt_ok yF (sEg ok (sL sv sLn yT) rfl ⟨(ns rfl), trivial⟩) sEi) (sSc (sS (sEl ok sLn) yT (fun _ _ => rfl))
    (sSc (sSf (sEr ok (sL (sEg ok (sL sv sLn yT) rfl ⟨(ns rfl), trivial⟩) sLn yT) rfl ⟨(ns rfl), trivial⟩) (tg1 yT) (sSc (sS (sEb (add_ok ok) sv (sEc ok ih.2 (Nat.le_refl _) (sL (sEu (fun _ _ => rfl) sv sv) (sL (sEu (fun _ _ => rfl) sv sv) sLn yT) yT) rfl yF (ns rfl))) yT (fun _ _ => rfl))
    sSn) (fun _ _ => rfl))
    (sSc (sSr sv)
    sSn))) sSn)
    (sSc (sSi (sTc eq_ok yF sv (sEs (by rfl))) (sSc (sSr (sEc ok ih.1 (Nat.le_refl _) (sL sv sLn yT) rfl yF (ns rfl)))
    sSn) sSn)
    (sSc (sSi (sTc eq_ok yF sv (sEs (by rfl))) (sSc (sSr (sEl ok (sL (sEt (sL (sEs (by rfl)) (sL sv sLn yT) yT)) sLn yT)))
    sSn) sSn)
    (sSc (sSi (simT_and (SimTs.cons (sTc eq_ok yF sv (sEs (by rfl))) (SimTs.cons (sTc in_ok yF (sEu (fun _ _ => rfl) sv sEi) (sEt (sL (sEs (by rfl)) (sL (sEs (by rfl)) sLn yT) yT))) SimTs.nil))) (sSc (sSr (sEl ok sLn))
    sSn) sSn)
    (sSc (sSr (sEl ok (sL sv sLn yT)))
    sSn)))))))
theorem sim_reads {X : Ctx} (ok : X.Ok) {fI : Addr} {ib : List Stmt} (co : CdO X fI ib) {P : Params} (hK : X.K = hd.heap_1 P) : SimF X 7 (Str.ofString "reads") m_reads := by
  refine sFg ok hK (d := 6) (nm := [Str.ofString "row", Str.ofString "first", Str.ofString "second"]) (k := 1) (n := 2) rfl rfl rfl ?_ (by intro _ h; apply len1 h; intros; rfl) (by kernel_rfl)
  exact (sSc (simS_unpack (cE ok (sim_shape_of ok co hK) yT (sL (sEu (fun _ _ => rfl) sv sEi) sLn yT) yT) ⟨(tg1 yT), (tg1 yT), trivial⟩ (fun _ _ => rfl) (envS fun _ => rfl))
    (sSc (sSr (sEb (add_ok ok) (cE ok (sim_mut ok co hK 5).2 yT (sL sv (sL (sEu (fun _ _ => rfl) sv sEi) sLn yT) yT) yT) (cE ok (sim_mut ok co hK 5).2 yT (sL sv (sL (sEu (fun _ _ => rfl) sv sEi) sLn yT) yT) yT)))
    sSn))
theorem sim_writes {X : Ctx} (ok : X.Ok) {fI : Addr} {ib : List Stmt} (co : CdO X fI ib) {P : Params} (hK : X.K = hd.heap_1 P) : SimF X 1 (Str.ofString "writes") m_writes := by
  refine sFg ok hK (d := 0) (nm := [Str.ofString "row", Str.ofString "op", Str.ofString "to", Str.ofString "a", Str.ofString "b", Str.ofString "found"]) (k := 1) (n := 5) rfl rfl rfl ?_ (by intro _ h; apply len1 h; intros; rfl) (by kernel_rfl)
  exact (sSc (simS_unpack sv ⟨(tg1 yT), (tg1 yT), (tg1 yT), (tg1 yT), trivial⟩ (fun _ _ => rfl) (envS fun _ => rfl))
    (sSc (sS (simE_if (sTc is_ok yF sv sEn) (sEl ok sLn) (sEl ok (sL sv sLn yT))) yT (fun _ _ => rfl))
    (sSc (sSi (sTc in_ok yF sv (sEt (sL (sEs (by rfl)) (sL (sEs (by rfl)) sLn yT) yT))) (sSc (sSd (sEp sv sv (ns rfl) (fun _ => rfl) rfl) (fun _ => rfl))
    sSn) sSn)
    (sSc (sSi (sTc eq_ok yF sv (sEs (by rfl))) (sSc (sSd (sEp sv sv (ns rfl) (fun _ => rfl) rfl) (fun _ => rfl))
    sSn) sSn)
    (sSc (sSi (simT_and (SimTs.cons (sTc eq_ok yF sv (sEs (by rfl))) (SimTs.cons (sTc isNot_ok yF (sEu (fun _ _ => rfl) sv sEi) sEn) SimTs.nil))) (sSc (sSd (sEp sv (sEu (fun _ _ => rfl) sv sEi) (ns rfl) (fun _ => rfl) rfl) (fun _ => rfl))
    sSn) sSn)
    (sSc (sSr sv)
    sSn))))))
theorem sNo {X : Ctx} (ok : X.Ok) {fI : Addr} {ib : List Stmt} (co : CdO X fI ib) {P : Params} (hK : X.K = hd.heap_1 P) : SimF X 1 (Str.ofString "new_operand") mNo := by
  refine sFg ok hK (d := 0) (nm := [Str.ofString "x", Str.ofString "book", Str.ofString "is_number"]) (k := 3) (n := 0) rfl rfl rfl ?_ (by intro _ h; apply len3 h; intros; rfl) (by kernel_rfl)
  exact (sSc (sSi (simT_or (SimTs.cons (sTc is_ok yF sv sEn) (SimTs.cons (sTc ne_ok yF (sEu (fun _ _ => rfl) sv sEi) (sEs (by rfl))) (SimTs.cons (sTc notIn_ok yF (sEu (fun _ _ => rfl) sv sEi) sv) SimTs.nil)))) (sSc (sSr sv)
    sSn) sSn)
    (sSc (sSr (simE_if (sTv sv (fun _ _ => rfl)) (sEt (sL (sEs (by rfl)) (sL (sEu (fun _ _ => rfl) sv (sEu (fun _ _ => rfl) sv sEi)) sLn yT) yT)) (sEu (fun _ _ => rfl) sv (sEu (fun _ _ => rfl) sv sEi))))
    sSn))
theorem sim_new_place {X : Ctx} (ok : X.Ok) {fI : Addr} {ib : List Stmt} (co : CdO X fI ib) {P : Params} (hK : X.K = hd.heap_1 P) : ∀ n : Nat, SimF X (2 + n) (Str.ofString "new_place") (m_new_place n)
  | 0 => simF_zero ok (by rw [hK]; rfl) (by rw [hK]; rfl) (by rfl)
  | n + 1 => by
    have ih := sim_new_place ok co hK n
    refine sFg ok hK (d := 2 + n) (nm := [Str.ofString "place", Str.ofString "book", Str.ofString "is_number", Str.ofString "kind"]) (k := 3) (n := 1) rfl rfl rfl ?_ (by intro _ h; apply len3 h; intros; rfl) (by kernel_rfl)
    exact (sSc (sS (sEu (fun _ _ => rfl) sv sEi) yT (fun _ _ => rfl))
    (sSc (sSi (sTc in_ok yF sv (sEt (sL (sEs (by rfl)) (sL (sEs (by rfl)) sLn yT) yT))) (sSc (sSr (sEt (sL sv (sL (sEc ok (sNo ok co hK) (by omega) (sL (sEu (fun _ _ => rfl) sv sEi) (sL sv (sL sv sLn yT) yT) yT) rfl yF (ns rfl)) sLn yT) yT)))
    sSn) sSn)
    (sSc (sSi (sTc eq_ok yF sv (sEs (by rfl))) (sSc (sSr (sEt (sL sv (sL (sEc ok (sNo ok co hK) (by omega) (sL (sEu (fun _ _ => rfl) sv sEi) (sL sv (sL sv sLn yT) yT) yT) rfl yF (ns rfl)) (sL (sEc ok (sNo ok co hK) (by omega) (sL (sEu (fun _ _ => rfl) sv sEi) (sL sv (sL sv sLn yT) yT) yT) rfl yF (ns rfl)) sLn yT) yT) yT)))
    sSn) sSn)
    (sSc (sSi (sTc in_ok yF sv (sEt (sL (sEs (by rfl)) (sL (sEs (by rfl)) sLn yT) yT))) (sSc (sSr (sEt (sL sv (sL (sEc ok ih (Nat.le_refl _) (sL (sEu (fun _ _ => rfl) sv sEi) (sL sv (sL sv sLn yT) yT) yT) rfl yF (ns rfl)) (sL (sEc ok (sNo ok co hK) (by omega) (sL (sEu (fun _ _ => rfl) sv sEi) (sL sv (sL sv sLn yT) yT) yT) rfl yF (ns rfl)) sLn yT) yT) yT)))
    sSn) sSn)
    (sSc (sSr sv)
    sSn)))))
theorem sim_new_part {X : Ctx} (ok : X.Ok) {fI : Addr} {ib : List Stmt} (co : CdO X fI ib) {P : Params} (hK : X.K = hd.heap_1 P) : ∀ n : Nat, SimF X (8 + n) (Str.ofString "new_part") (m_new_part n)
  | 0 => simF_zero ok (by rw [hK]; rfl) (by rw [hK]; rfl) (by rfl)
  | n + 1 => by
    have ih := sim_new_part ok co hK n
    refine sFg ok hK (d := 8 + n) (nm := [Str.ofString "shape", Str.ofString "part", Str.ofString "book", Str.ofString "is_number"]) (k := 4) (n := 0) rfl rfl rfl ?_ (by intro _ h; apply len4 h; intros; rfl) (by kernel_rfl)
    exact (sSc (sSi (simT_or (SimTs.cons (sTc in_ok yF sv (sEt (sL (sEs (by rfl)) (sL (sEs (by rfl)) sLn yT) yT))) (SimTs.cons (sTc is_ok yF sv sEn) SimTs.nil))) (sSc (sSr sv)
    sSn) sSn)
    (sSc (sSi (sTc eq_ok yF sv (sEs (by rfl))) (sSc (sSr (simE_tupleOf ok (sL (simE_comp ok (nmI := [Str.ofString "x", Str.ofString "book", Str.ofString "is_number"]) (cpO (by decide +kernel)) sv ⟨by rfl, rfl⟩ SimTs.nil (sEc ok (sNo ok co hK) (by omega) (sL sv (sL sv (sL sv sLn yT) yT) yT) rfl yF (ns rfl)) (fun _ _ => rfl)) sLn yT) rfl ⟨(ns rfl), trivial⟩))
    sSn) sSn)
    (sSc (sSi (sTc gt_ok yF (sEg ok (sL sv sLn yT) rfl ⟨(ns rfl), trivial⟩) sEi) (sSc (sSr (simE_tupleOf ok (sL (simE_comp ok (nmI := [Str.ofString "at", Str.ofString "book", Str.ofString "is_number", Str.ofString "shape", Str.ofString "part"]) (cpO (by decide +kernel)) (sEr ok (sL (sEg ok (sL sv sLn yT) rfl ⟨(ns rfl), trivial⟩) sLn yT) rfl ⟨(ns rfl), trivial⟩) ⟨by rfl, rfl⟩ SimTs.nil (sEc ok ih (Nat.le_refl _) (sL (sEu (fun _ _ => rfl) sv sv) (sL (sEu (fun _ _ => rfl) sv sv) (sL sv (sL sv sLn yT) yT) yT) yT) rfl yF (ns rfl)) (fun _ _ => rfl)) sLn yT) rfl ⟨(ns rfl), trivial⟩))
    sSn) sSn)
    (sSc (sSi (sTc eq_ok yF sv (sEs (by rfl))) (sSc (sSr (sEc ok (sim_new_place ok co hK 5) (by omega) (sL sv (sL sv (sL sv sLn yT) yT) yT) rfl yF (ns rfl)))
    sSn) sSn)
    (sSc (sSi (sTc in_ok yF sv (sEt (sL (sEs (by rfl)) (sL (sEs (by rfl)) sLn yT) yT))) (sSc (sSr (simE_if (sTv sv (fun _ _ => rfl)) (simE_get sv sv sv (ns rfl) (ns rfl) (fun _ => rfl) rfl) sv))
    sSn) sSn)
    (sSc (sSr (sEc ok (sNo ok co hK) (by omega) (sL sv (sL sv (sL sv sLn yT) yT) yT) rfl yF (ns rfl)))
    sSn))))))
theorem sim_with_operands {X : Ctx} (ok : X.Ok) {fI : Addr} {ib : List Stmt} (co : CdO X fI ib) {P : Params} (hK : X.K = hd.heap_1 P) : SimF X 14 (Str.ofString "with_operands") m_with_operands := by
  refine sFg ok hK (d := 13) (nm := [Str.ofString "row", Str.ofString "book", Str.ofString "op", Str.ofString "to", Str.ofString "a", Str.ofString "b", Str.ofString "first", Str.ofString "second"]) (k := 2) (n := 6) rfl rfl rfl ?_ (by intro _ h; apply len2 h; intros; rfl) (by kernel_rfl)
  exact (sSc (simS_unpack sv ⟨(tg1 yT), (tg1 yT), (tg1 yT), (tg1 yT), trivial⟩ (fun _ _ => rfl) (envS fun _ => rfl))
    (sSc (simS_unpack (cE ok (sim_shape_of ok co hK) yT (sL sv sLn yT) yT) ⟨(tg1 yT), (tg1 yT), trivial⟩ (fun _ _ => rfl) (envS fun _ => rfl))
    (sSc (sSr (sEt (sL sv (sL (simE_get sv sv sv (ns rfl) (ns rfl) (fun _ => rfl) rfl) (sL (cE ok (sim_new_part ok co hK 5) yT (sL sv (sL sv (sL sv (sL sEo sLn yT) yT) yT) yT) yT) (sL (cE ok (sim_new_part ok co hK 5) yT (sL sv (sL sv (sL sv (sL sEo sLn yT) yT) yT) yT) yT) sLn yT) yT) yT) yT)))
    sSn)))
theorem sim_target_of {X : Ctx} (ok : X.Ok) {fI : Addr} {ib : List Stmt} (co : CdO X fI ib) {P : Params} (hK : X.K = hd.heap_1 P) : SimF X 1 (Str.ofString "target_of") m_target_of := by
  refine sFg ok hK (d := 0) (nm := [Str.ofString "row", Str.ofString "jumps"]) (k := 1) (n := 1) rfl rfl rfl ?_ (by intro _ h; apply len1 h; intros; rfl) (by kernel_rfl)
  exact (sSc (sS (sEt (sL (sEs (by rfl)) (sL (sEs (by rfl)) (sL (sEs (by rfl)) (sL (sEs (by rfl)) (sL (sEs (by rfl)) (sL (sEs (by rfl)) (sL (sEs (by rfl)) (sL (sEs (by rfl)) (sL (sEs (by rfl)) (sL (sEs (by rfl)) sLn yT) yT) yT) yT) yT) yT) yT) yT) yT) yT)) yT (fun _ _ => rfl))
    (sSc (sSr (simE_if (sTc in_ok yF (sEu (fun _ _ => rfl) sv sEi) sv) (sEu (fun _ _ => rfl) sv sEi) sEn))
    sSn))
theorem sim_behind_calls {X : Ctx} (ok : X.Ok) {fI : Addr} {ib : List Stmt} (co : CdO X fI ib) {P : Params} (hK : X.K = hd.heap_1 P) : SimF X 1 (Str.ofString "behind_calls") m_behind_calls := by
  refine sFg ok hK (d := 0) (nm := [Str.ofString "code", Str.ofString "ret", Str.ofString "found", Str.ofString "at", Str.ofString "row"]) (k := 2) (n := 3) rfl rfl rfl ?_ (by intro _ h; apply len2 h; intros; rfl) (by kernel_rfl)
  exact (sSc (sS (sEl ok sLn) yT (fun _ _ => rfl))
    (sSc (sSf (sEr ok (sL (sEg ok (sL (sEa ok .rows sv (by rfl)) sLn yT) rfl ⟨(ns rfl), trivial⟩) sLn yT) rfl ⟨(ns rfl), trivial⟩) (tg1 yT) (sSc (sS (sEu (fun _ _ => rfl) (sEa ok .rows sv (by rfl)) sv) yT (fun _ _ => rfl))
    (sSc (sSi (simT_and (SimTs.cons (sTc eq_ok yF (sEu (fun _ _ => rfl) sv sEi) (sEs (by rfl))) (SimTs.cons (sTc eq_ok yF (sEu (fun _ _ => rfl) sv sEi) sv) SimTs.nil))) (sSc (sSd (sEp sv (sEb (add_ok ok) sv sEi) (ns rfl) (fun _ => rfl) rfl) (fun _ => rfl))
    sSn) sSn)
    sSn)) (fun _ _ => rfl))
    (sSc (sSr sv)
    sSn)))
theorem sim_nexts {X : Ctx} (ok : X.Ok) {fI : Addr} {ib : List Stmt} (co : CdO X fI ib) {P : Params} (hK : X.K = hd.heap_1 P) : SimF X 2 (Str.ofString "nexts") m_nexts := by
  refine sFg ok hK (d := 1) (nm := [Str.ofString "code", Str.ofString "at", Str.ofString "row", Str.ofString "target", Str.ofString "found", Str.ofString "made", Str.ofString "place"]) (k := 2) (n := 5) rfl rfl rfl ?_ (by intro _ h; apply len2 h; intros; rfl) (by kernel_rfl)
  exact (sSc (sS (sEu (fun _ _ => rfl) (sEa ok .rows sv (by rfl)) sv) yT (fun _ _ => rfl))
    (sSc (sS (cE ok (sim_target_of ok co hK) yT (sL sv sLn yT) yT) yT (fun _ _ => rfl))
    (sSc (sS (sEl ok sLn) yT (fun _ _ => rfl))
    (sSc (sSi (sTc notIn_ok yF (sEu (fun _ _ => rfl) sv sEi) (sEt (sL (sEs (by rfl)) (sL (sEs (by rfl)) (sL (sEs (by rfl)) (sL (sEs (by rfl)) (sL (sEs (by rfl)) (sL (sEs (by rfl)) sLn yT) yT) yT) yT) yT) yT))) (sSc (sSd (sEp sv (sEb (add_ok ok) sv sEi) (ns rfl) (fun _ => rfl) rfl) (fun _ => rfl))
    sSn) sSn)
    (sSc (sSi (sTc isNot_ok yF sv sEn) (sSc (sSd (sEp sv sv (ns rfl) (fun _ => rfl) rfl) (fun _ => rfl))
    sSn) sSn)
    (sSc (sSi (sTc eq_ok yF (sEu (fun _ _ => rfl) sv sEi) (sEs (by rfl))) (sSc (sS (sEb (add_ok ok) sv (cE ok (sim_behind_calls ok co hK) yT (sL sv (sL (sEu (fun _ _ => rfl) sv sEi) sLn yT) yT) yT)) yT (fun _ _ => rfl))
    sSn) sSn)
    (sSc (sS (sEl ok sLn) yT (fun _ _ => rfl))
    (sSc (sSf sv (tg1 yT) (sSc (sSi (simT_and (SimTs.cons (sTc lt_ok yF sv (sEg ok (sL (sEa ok .rows sv (by rfl)) sLn yT) rfl ⟨(ns rfl), trivial⟩)) (SimTs.cons (sTc notIn_ok yF sv sv) SimTs.nil))) (sSc (sSd (sEp sv sv (ns rfl) (fun _ => rfl) rfl) (fun _ => rfl))
    sSn) sSn)
    sSn) (fun _ _ => rfl))
    (sSc (sSr sv)
    sSn)))))))))
theorem sim_catchers {X : Ctx} (ok : X.Ok) {fI : Addr} {ib : List Stmt} (co : CdO X fI ib) {P : Params} (hK : X.K = hd.heap_1 P) : SimF X 1 (Str.ofString "catchers") m_catchers := by
  refine sFg ok hK (d := 0) (nm := [Str.ofString "code", Str.ofString "at", Str.ofString "found", Str.ofString "is_thrown", Str.ofString "is_stopped", Str.ofString "turn", Str.ofString "first", Str.ofString "catch", Str.ofString "final", Str.ofString "end", Str.ofString "ret"]) (k := 2) (n := 9) rfl rfl rfl ?_ (by intro _ h; apply len2 h; intros; rfl) (by kernel_rfl)
  exact (sSc (sS (sEl ok sLn) yT (fun _ _ => rfl))
    (sSc (sS sEo yT (fun _ _ => rfl))
    (sSc (sS (simE_cmp in_ok (by rfl) (sEu (fun _ _ => rfl) (sEu (fun _ _ => rfl) (sEa ok .rows sv (by rfl)) sv) sEi) (sEt (sL (sEs (by rfl)) (sL (sEs (by rfl)) (sL (sEs (by rfl)) sLn yT) yT) yT))) yT (fun _ _ => rfl))
    (sSc (sSf (sEr ok (sL (sEb sub_int_ok (sEg ok (sL (sEa ok .trys sv (by rfl)) sLn yT) rfl ⟨(ns rfl), trivial⟩) sEi) (sL (simE_un neg_ok sEi) (sL (simE_un neg_ok sEi) sLn yT) yT) yT) rfl ⟨(ns rfl), (ns rfl), (ns rfl), trivial⟩) (tg1 yT) (sSc (simS_unpack (sEu (fun _ _ => rfl) (sEa ok .trys sv (by rfl)) sv) ⟨(tg1 yT), (tg1 yT), (tg1 yT), (tg1 yT), (tg1 yT), trivial⟩ (fun _ _ => rfl) (envS fun _ => rfl))
    (sSc (sSi (simT_and (SimTs.cons (sTc isNot_ok yF sv sEn) (SimTs.cons (simT_chain le_ok lt_ok sv sv sv (by rfl)) SimTs.nil))) (sSc (sSi (sTv sv (fun _ _ => rfl)) (sSc (sSd (sEp sv sv (ns rfl) (fun _ => rfl) rfl) (fun _ => rfl))
    sSn) sSn)
    (sSc (sS sEo yT (fun _ _ => rfl))
    sSn)) sSn)
    (sSc (sSi (simT_and (SimTs.cons (sTc isNot_ok yF sv sEn) (SimTs.cons (simT_chain le_ok lt_ok sv sv sv (by rfl)) SimTs.nil))) (sSc (sSi (simT_or (SimTs.cons (sTv sv (fun _ _ => rfl)) (SimTs.cons (sTv sv (fun _ _ => rfl)) SimTs.nil))) (sSc (sSd (sEp sv sv (ns rfl) (fun _ => rfl) rfl) (fun _ => rfl))
    sSn) sSn)
    (sSc (sS sEo yT (fun _ _ => rfl))
    (sSc (sS sEo yT (fun _ _ => rfl))
    sSn))) sSn)
    sSn))) (fun _ _ => rfl))
    (sSc (sSr sv)
    sSn)))))
theorem sim_read_numbers {X : Ctx} (ok : X.Ok) {fI : Addr} {ib : List Stmt} (co : CdO X fI ib) {P : Params} (hK : X.K = hd.heap_1 P) : SimF X 8 (Str.ofString "read_numbers") m_read_numbers := by
  refine sFg ok hK (d := 7) (nm := [Str.ofString "row"]) (k := 1) (n := 0) rfl rfl rfl ?_ (by intro _ h; apply len1 h; intros; rfl) (by kernel_rfl)
  exact (sSc (sSr (simE_comp ok (nmI := [Str.ofString "x"]) (cpO (by decide +kernel)) (cE ok (sim_reads ok co hK) yT (sL sv sLn yT) yT) ⟨by rfl, rfl⟩ (SimTs.cons (sTc eq_ok yF (sEu (fun _ _ => rfl) sv sEi) (sEs (by rfl))) SimTs.nil) (sEu (fun _ _ => rfl) sv sEi) (fun _ _ => rfl)))
    sSn)
theorem sim_ret_at {X : Ctx} (ok : X.Ok) {fI : Addr} {ib : List Stmt} (co : CdO X fI ib) {P : Params} (hK : X.K = hd.heap_1 P) : SimF X 1 (Str.ofString "ret_at") m_ret_at := by
  refine sFg ok hK (d := 0) (nm := [Str.ofString "code", Str.ofString "at", Str.ofString "place", Str.ofString "last", Str.ofString "first", Str.ofString "catch", Str.ofString "final", Str.ofString "end", Str.ofString "ret"]) (k := 3) (n := 6) rfl rfl rfl ?_ (by intro _ h; apply len3 h; intros; rfl) (by kernel_rfl)
  exact (sSc (sS sEn yT (fun _ _ => rfl))
    (sSc (sSf (sEa ok .trys sv (by rfl)) ⟨(tg1 yT), (tg1 yT), (tg1 yT), (tg1 yT), (tg1 yT), trivial⟩ (sSc (sSi (simT_and (SimTs.cons (sTc eq_ok yF sv sv) (SimTs.cons (simT_chain le_ok lt_ok sv sv sv (by rfl)) SimTs.nil))) (sSc (sS sv yT (fun _ _ => rfl))
    sSn) sSn)
    sSn) (fun _ _ => rfl))
    (sSc (sSr sv)
    sSn)))
theorem sim_ways_of {X : Ctx} (ok : X.Ok) {fI : Addr} {ib : List Stmt} (co : CdO X fI ib) {P : Params} (hK : X.K = hd.heap_1 P) : SimF X 3 (Str.ofString "ways_of") m_ways_of := by
  refine sFg ok hK (d := 2) (nm := [Str.ofString "code", Str.ofString "at", Str.ofString "row", Str.ofString "ways", Str.ofString "place", Str.ofString "is_end", Str.ofString "ret"]) (k := 2) (n := 5) rfl rfl rfl ?_ (by intro _ h; apply len2 h; intros; rfl) (by kernel_rfl)
  exact (sSc (sS (sEu (fun _ _ => rfl) (sEa ok .rows sv (by rfl)) sv) yT (fun _ _ => rfl))
    (sSc (sS (sEl ok sLn) yT (fun _ _ => rfl))
    (sSc (sSf (cE ok (sim_nexts ok co hK) yT (sL sv (sL sv sLn yT) yT) yT) (tg1 yT) (sSc (sS (simE_and (simE_cmp eq_ok (by rfl) (sEu (fun _ _ => rfl) sv sEi) (sEs (by rfl))) (simE_cmp eq_ok (by rfl) sv (sEu (fun _ _ => rfl) sv sEi))) yT (fun _ _ => rfl))
    (sSc (sSd (sEp sv (sEt (sL sv (sL (simE_if (sTv sv (fun _ _ => rfl)) (sEl ok sLn) (cE ok (sim_writes ok co hK) yT (sL sv sLn yT) yT)) sLn yT) yT)) (ns rfl) (fun _ => rfl) rfl) (fun _ => rfl))
    sSn)) (fun _ _ => rfl))
    (sSc (sSf (cE ok (sim_catchers ok co hK) yT (sL sv (sL sv sLn yT) yT) yT) (tg1 yT) (sSc (sS (cE ok (sim_ret_at ok co hK) yT (sL sv (sL sv (sL sv sLn yT) yT) yT) yT) yT (fun _ _ => rfl))
    (sSc (sSd (sEp sv (sEt (sL sv (sL (simE_if (sTc is_ok yF sv sEn) (sEl ok sLn) (sEl ok (sL sv sLn yT))) sLn yT) yT)) (ns rfl) (fun _ => rfl) rfl) (fun _ => rfl))
    sSn)) (fun _ _ => rfl))
    (sSc (sSr sv)
    sSn)))))
theorem sim_live_ahead {X : Ctx} (ok : X.Ok) {fI : Addr} {ib : List Stmt} (co : CdO X fI ib) {P : Params} (hK : X.K = hd.heap_1 P) : SimF X 9 (Str.ofString "live_ahead") m_live_ahead := by
  refine sFg ok hK (d := 8) (nm := [Str.ofString "row", Str.ofString "ways", Str.ofString "live", Str.ofString "made", Str.ofString "place", Str.ofString "gone", Str.ofString "temp"]) (k := 3) (n := 4) rfl rfl rfl ?_ (by intro _ h; apply len3 h; intros; rfl) (by kernel_rfl)
  exact (sSc (sS (simE_empty ok) yT (fun _ _ => rfl))
    (sSc (sSf sv ⟨(tg1 yT), (tg1 yT), trivial⟩ (sSc (sSf (sEu (fun _ _ => rfl) sv sv) (tg1 yT) (sSc (sSi (sTc notIn_ok yF sv sv) (sSc (simS_put sEo sv sv (fun _ _ => rfl))
    sSn) sSn)
    sSn) (fun _ _ => rfl))
    sSn) (fun _ _ => rfl))
    (sSc (sSf (cE ok (sim_read_numbers ok co hK) yT (sL sv sLn yT) yT) (tg1 yT) (sSc (simS_put sEo sv sv (fun _ _ => rfl))
    sSn) (fun _ _ => rfl))
    (sSc (sSr sv)
    sSn))))
theorem sim_flown {X : Ctx} (ok : X.Ok) {fI : Addr} {ib : List Stmt} (co : CdO X fI ib) {P : Params} (hK : X.K = hd.heap_1 P) : SimF X 10 (Str.ofString "flown") m_flown := by
  refine sFg ok hK (d := 9) (nm := [Str.ofString "code", Str.ofString "ways", Str.ofString "live", Str.ofString "is_changed", Str.ofString "at", Str.ofString "made"]) (k := 1) (n := 5) rfl rfl rfl ?_ (by intro _ h; apply len1 h; intros; rfl) (by kernel_rfl)
  exact (sSc (simS_setComp ok (nmI := [Str.ofString "at", Str.ofString "code"]) (cpO (by decide +kernel)) (sEr ok (sL (sEg ok (sL (sEa ok .rows sv (by rfl)) sLn yT) rfl ⟨(ns rfl), trivial⟩) sLn yT) rfl ⟨(ns rfl), trivial⟩) ⟨by rfl, rfl⟩ SimTs.nil (cE ok (sim_ways_of ok co hK) yT (sL sv (sL sv sLn yT) yT) yT) (fun _ _ => rfl) (by rfl) rfl (envS fun _ => rfl))
    (sSc (simS_setComp ok (nmI := [Str.ofString "row"]) (cpO (by decide +kernel)) (sEa ok .rows sv (by rfl)) ⟨by rfl, rfl⟩ SimTs.nil (simE_empty ok) (fun _ _ => rfl) (by rfl) rfl (envS fun _ => rfl))
    (sSc (sS sEo yT (fun _ _ => rfl))
    (sSc (simS_while 100000 (sTv sv (fun _ _ => rfl)) (sSc (sS sEo yT (fun _ _ => rfl))
    (sSc (sSf (sEr ok (sL (sEb sub_int_ok (sEg ok (sL (sEa ok .rows sv (by rfl)) sLn yT) rfl ⟨(ns rfl), trivial⟩) sEi) (sL (simE_un neg_ok sEi) (sL (simE_un neg_ok sEi) sLn yT) yT) yT) rfl ⟨(ns rfl), (ns rfl), (ns rfl), trivial⟩) (tg1 yT) (sSc (sS (cE ok (sim_live_ahead ok co hK) yT (sL (sEu (fun _ _ => rfl) (sEa ok .rows sv (by rfl)) sv) (sL (sEu (fun _ _ => rfl) sv sv) (sL sv sLn yT) yT) yT) yT) yT (fun _ _ => rfl))
    (sSc (sSi (sTc gt_ok yF (sEg ok (sL sv sLn yT) rfl ⟨(ns rfl), trivial⟩) (sEg ok (sL (sEu (fun _ _ => rfl) sv sv) sLn yT) rfl ⟨(ns rfl), trivial⟩)) (sSc (simS_put sv sv sv (fun _ _ => rfl))
    (sSc (sS sEo yT (fun _ _ => rfl))
    sSn)) sSn)
    sSn)) (fun _ _ => rfl))
    sSn)))
    (sSc (sSr sv)
    sSn)))))
theorem sim_live_at {X : Ctx} (ok : X.Ok) {fI : Addr} {ib : List Stmt} (co : CdO X fI ib) {P : Params} (hK : X.K = hd.heap_1 P) : SimF X 11 (Str.ofString "live_at") m_live_at := by
  refine sFg ok hK (d := 10) (nm := [Str.ofString "code", Str.ofString "live", Str.ofString "first", Str.ofString "catch", Str.ofString "final", Str.ofString "end", Str.ofString "ret", Str.ofString "at", Str.ofString "temp", Str.ofString "behind", Str.ofString "sort"]) (k := 1) (n := 10) rfl rfl rfl ?_ (by intro _ h; apply len1 h; intros; rfl) (by kernel_rfl)
  exact (sSc (sS (cE ok (sim_flown ok co hK) yT (sL sv sLn yT) yT) yT (fun _ _ => rfl))
    (sSc (sSf (sEa ok .trys sv (by rfl)) ⟨(tg1 yT), (tg1 yT), (tg1 yT), (tg1 yT), (tg1 yT), trivial⟩ (sSc (sSi (sTc isNot_ok yF sv sEn) (sSc (sSf (sEr ok (sL sv (sL sv sLn yT) yT) rfl ⟨(ns rfl), (ns rfl), trivial⟩) (tg1 yT) (sSc (simS_put sEo (sEu (fun _ _ => rfl) sv sv) sv (fun _ _ => rfl))
    sSn) (fun _ _ => rfl))
    sSn) sSn)
    sSn) (fun _ _ => rfl))
    (sSc (sSf (sEa ok .lives sv (by rfl)) ⟨(tg1 yT), (tg1 yT), (tg1 yT), (tg1 yT), trivial⟩ (sSc (sSf (sEr ok (sL sv (sL sv sLn yT) yT) rfl ⟨(ns rfl), (ns rfl), trivial⟩) (tg1 yT) (sSc (simS_put sEo (sEu (fun _ _ => rfl) sv sv) sv (fun _ _ => rfl))
    sSn) (fun _ _ => rfl))
    sSn) (fun _ _ => rfl))
    (sSc (sSr sv)
    sSn))))
theorem sim_add_clashes {X : Ctx} (ok : X.Ok) {fI : Addr} {ib : List Stmt} (co : CdO X fI ib) {P : Params} (hK : X.K = hd.heap_1 P) : SimF X 1 (Str.ofString "add_clashes") m_add_clashes := by
  refine sFg ok hK (d := 0) (nm := [Str.ofString "clashes", Str.ofString "temps", Str.ofString "others", Str.ofString "temp", Str.ofString "other"]) (k := 3) (n := 2) rfl rfl rfl ?_ (by intro _ h; apply len3 h; intros; rfl) (by kernel_rfl)
  exact (sSc (sSf sv (tg1 yT) (sSc (sSf sv (tg1 yT) (sSc (sSi (sTc ne_ok yF sv sv) (sSc (simS_put sEo (sEu (fun _ _ => rfl) sv sv) sv (fun _ _ => rfl))
    (sSc (simS_put sEo (sEu (fun _ _ => rfl) sv sv) sv (fun _ _ => rfl))
    sSn)) sSn)
    sSn) (fun _ _ => rfl))
    sSn) (fun _ _ => rfl))
    sSn)
theorem sim_clashes_of {X : Ctx} (ok : X.Ok) {fI : Addr} {ib : List Stmt} (co : CdO X fI ib) {P : Params} (hK : X.K = hd.heap_1 P) : SimF X 12 (Str.ofString "clashes_of") m_clashes_of := by
  refine sFg ok hK (d := 11) (nm := [Str.ofString "code", Str.ofString "temps", Str.ofString "live", Str.ofString "clashes", Str.ofString "temp", Str.ofString "at", Str.ofString "fresh_temps", Str.ofString "place"]) (k := 2) (n := 6) rfl rfl rfl ?_ (by intro _ h; apply len2 h; intros; rfl) (by kernel_rfl)
  exact (sSc (sS (cE ok (sim_live_at ok co hK) yT (sL sv sLn yT) yT) yT (fun _ _ => rfl))
    (sSc (sS (simE_empty ok) yT (fun _ _ => rfl))
    (sSc (sSf sv (tg1 yT) (sSc (simS_put (simE_empty ok) sv sv (fun _ _ => rfl))
    sSn) (fun _ _ => rfl))
    (sSc (sSf (sEr ok (sL (sEg ok (sL (sEa ok .rows sv (by rfl)) sLn yT) rfl ⟨(ns rfl), trivial⟩) sLn yT) rfl ⟨(ns rfl), trivial⟩) (tg1 yT) (sSc (sSd (cE ok (sim_add_clashes ok co hK) yT (sL sv (sL (sEu (fun _ _ => rfl) sv sv) (sL (sEu (fun _ _ => rfl) sv sv) sLn yT) yT) yT) yT) (fun _ => rfl))
    (sSc (sS (cE ok (sim_writes ok co hK) yT (sL (sEu (fun _ _ => rfl) (sEa ok .rows sv (by rfl)) sv) sLn yT) yT) yT (fun _ _ => rfl))
    (sSc (sSd (cE ok (sim_add_clashes ok co hK) yT (sL sv (sL sv (sL sv sLn yT) yT) yT) yT) (fun _ => rfl))
    (sSc (sSf (cE ok (sim_nexts ok co hK) yT (sL sv (sL sv sLn yT) yT) yT) (tg1 yT) (sSc (sSd (cE ok (sim_add_clashes ok co hK) yT (sL sv (sL sv (sL (sEu (fun _ _ => rfl) sv sv) sLn yT) yT) yT) yT) (fun _ => rfl))
    sSn) (fun _ _ => rfl))
    sSn)))) (fun _ _ => rfl))
    (sSc (sSr sv)
    sSn)))))
theorem sim_temps_of {X : Ctx} (ok : X.Ok) {fI : Addr} {ib : List Stmt} (co : CdO X fI ib) {P : Params} (hK : X.K = hd.heap_1 P) : SimF X 9 (Str.ofString "temps_of") m_temps_of := by
  refine sFg ok hK (d := 8) (nm := [Str.ofString "code", Str.ofString "seen", Str.ofString "row", Str.ofString "temp", Str.ofString "first", Str.ofString "catch", Str.ofString "final", Str.ofString "end", Str.ofString "ret", Str.ofString "behind", Str.ofString "sort"]) (k := 1) (n := 10) rfl rfl rfl ?_ (by intro _ h; apply len1 h; intros; rfl) (by kernel_rfl)
  exact (sSc (sS (simE_empty ok) yT (fun _ _ => rfl))
    (sSc (sSf (sEa ok .rows sv (by rfl)) (tg1 yT) (sSc (sSf (cE ok (sim_writes ok co hK) yT (sL sv sLn yT) yT) (tg1 yT) (sSc (simS_put sEo sv sv (fun _ _ => rfl))
    sSn) (fun _ _ => rfl))
    sSn) (fun _ _ => rfl))
    (sSc (sSf (sEa ok .rows sv (by rfl)) (tg1 yT) (sSc (sSf (cE ok (sim_read_numbers ok co hK) yT (sL sv sLn yT) yT) (tg1 yT) (sSc (simS_put sEo sv sv (fun _ _ => rfl))
    sSn) (fun _ _ => rfl))
    sSn) (fun _ _ => rfl))
    (sSc (sSf (sEa ok .trys sv (by rfl)) ⟨(tg1 yT), (tg1 yT), (tg1 yT), (tg1 yT), (tg1 yT), trivial⟩ (sSc (sSi (sTc isNot_ok yF sv sEn) (sSc (simS_put sEo sv sv (fun _ _ => rfl))
    sSn) sSn)
    sSn) (fun _ _ => rfl))
    (sSc (sSf (sEa ok .lives sv (by rfl)) ⟨(tg1 yT), (tg1 yT), (tg1 yT), (tg1 yT), trivial⟩ (sSc (simS_put sEo sv sv (fun _ _ => rfl))
    sSn) (fun _ _ => rfl))
    (sSc (sSr (simE_listOf ok (sL sv sLn yT) rfl ⟨(ns rfl), trivial⟩))
    sSn))))))
theorem sim_numbered {X : Ctx} (ok : X.Ok) {fI : Addr} {ib : List Stmt} (co : CdO X fI ib) {P : Params} (hK : X.K = hd.heap_1 P) : SimF X 1 (Str.ofString "numbered") m_numbered := by
  refine sFg ok hK (d := 0) (nm := [Str.ofString "temps", Str.ofString "clashes", Str.ofString "book", Str.ofString "temp", Str.ofString "used", Str.ofString "other", Str.ofString "number"]) (k := 2) (n := 5) rfl rfl rfl ?_ (by intro _ h; apply len2 h; intros; rfl) (by kernel_rfl)
  exact (sSc (sS (simE_empty ok) yT (fun _ _ => rfl))
    (sSc (sSf sv (tg1 yT) (sSc (sS (simE_empty ok) yT (fun _ _ => rfl))
    (sSc (sSf (sEu (fun _ _ => rfl) sv sv) (tg1 yT) (sSc (sSi (sTc in_ok yF sv sv) (sSc (simS_put sEo sv (sEu (fun _ _ => rfl) sv sv) (fun _ _ => rfl))
    sSn) sSn)
    sSn) (fun _ _ => rfl))
    (sSc (sS sEi yT (fun _ _ => rfl))
    (sSc (simS_while 100000 (sTc in_ok yF sv sv) (sSc (simS_aug addI_ok sEi (by rfl) (.inl rfl) (by decide))
    sSn))
    (sSc (simS_put sv sv sv (fun _ _ => rfl))
    sSn))))) (fun _ _ => rfl))
    (sSc (sSr sv)
    sSn)))
theorem sim_joined {X : Ctx} (ok : X.Ok) {fI : Addr} {ib : List Stmt} (co : CdO X fI ib) {P : Params} (hK : X.K = hd.heap_1 P) : SimF X 15 (Str.ofString "joined") m_joined := by
  refine sFg ok hK (d := 14) (nm := [Str.ofString "code", Str.ofString "temps", Str.ofString "book", Str.ofString "rows", Str.ofString "trys", Str.ofString "first", Str.ofString "catch", Str.ofString "final", Str.ofString "end", Str.ofString "ret", Str.ofString "lives", Str.ofString "many", Str.ofString "temp"]) (k := 1) (n := 12) rfl rfl rfl ?_ (by intro _ h; apply len1 h; intros; rfl) (by kernel_rfl)
  exact (sSc (sS (cE ok (sim_temps_of ok co hK) yT (sL sv sLn yT) yT) yT (fun _ _ => rfl))
    (sSc (sS (cE ok (sim_numbered ok co hK) yT (sL sv (sL (cE ok (sim_clashes_of ok co hK) yT (sL sv (sL sv sLn yT) yT) yT) sLn yT) yT) yT) yT (fun _ _ => rfl))
    (sSc (simS_setComp ok (nmI := [Str.ofString "row", Str.ofString "book"]) (cpO (by decide +kernel)) (sEa ok .rows sv (by rfl)) ⟨by rfl, rfl⟩ SimTs.nil (cE ok (sim_with_operands ok co hK) yT (sL sv (sL sv sLn yT) yT) yT) (fun _ _ => rfl) (by rfl) rfl (envS fun _ => rfl))
    (sSc (sS (sEl ok sLn) yT (fun _ _ => rfl))
    (sSc (sSf (sEa ok .trys sv (by rfl)) ⟨(tg1 yT), (tg1 yT), (tg1 yT), (tg1 yT), (tg1 yT), trivial⟩ (sSc (sSd (sEp sv (sEt (sL sv (sL sv (sL sv (sL sv (sL (simE_if (sTc is_ok yF sv sEn) sEn (sEu (fun _ _ => rfl) sv sv)) sLn yT) yT) yT) yT) yT)) (ns rfl) (fun _ => rfl) rfl) (fun _ => rfl))
    sSn) (fun _ _ => rfl))
    (sSc (simS_setComp ok (nmI := [Str.ofString "temp", Str.ofString "first", Str.ofString "behind", Str.ofString "sort", Str.ofString "book"]) (cpO (by decide +kernel)) (sEa ok .lives sv (by rfl)) ⟨⟨by rfl, rfl⟩, ⟨by rfl, rfl⟩, ⟨by rfl, rfl⟩, ⟨by rfl, rfl⟩, trivial⟩ SimTs.nil (sEt (sL (sEu (fun _ _ => rfl) sv sv) (sL sv (sL sv (sL sv sLn yT) yT) yT) yT)) (fun _ _ => rfl) (by rfl) rfl (envS fun _ => rfl))
    (sSc (sS sEi yT (fun _ _ => rfl))
    (sSc (sSf sv (tg1 yT) (sSc (sS (simE_max ok (sL sv (sL (sEb (add_ok ok) (sEu (fun _ _ => rfl) sv sv) sEi) sLn yT) yT) rfl ⟨(ns rfl), (ns rfl), trivial⟩) yT (fun _ _ => rfl))
    sSn) (fun _ _ => rfl))
    (sSc (sSr (simE_new ok co (sL sv (sL (sEa ok .names sv (by rfl)) (sL sv (sL sv (sL sv sLn yT) yT) yT) yT) yT) rfl ⟨(ns rfl), (ns rfl), (ns rfl), (ns rfl), (ns rfl), trivial⟩))
    sSn)))))))))
theorem slD {X : Ctx} (ok : X.Ok) {fI : Addr} {ib : List Stmt} (co : CdO X fI ib) {P : Params} (hK : X.K = hd.heap_1 P) : SimF X 1 (Str.ofString "_law_draw") mlD := by
  refine sFg ok hK (d := 0) (nm := [Str.ofString "script", Str.ofString "at", Str.ofString "many", Str.ofString "place", Str.ofString "number"]) (k := 3) (n := 2) rfl rfl rfl ?_ (by intro _ h; apply len3 h; intros; rfl) (by kernel_rfl)
  exact (sSc (sS (sEu (fun _ _ => rfl) sv sEi) yT (fun _ _ => rfl))
    (sSc (simS_put (sEb (add_ok ok) sv sEi) sv sEi (fun _ _ => rfl))
    (sSc (sS (simE_if (sTc lt_ok yF sv (sEg ok (sL sv sLn yT) rfl ⟨(ns rfl), trivial⟩)) (sEu (fun _ _ => rfl) sv sv) (sEb mod_ok (sEb pow_ok sEi sv) sEi)) yT (fun _ _ => rfl))
    (sSc (sSr (sEb mod_ok sv sv))
    sSn))))
theorem sim_law_operand {X : Ctx} (ok : X.Ok) {fI : Addr} {ib : List Stmt} (co : CdO X fI ib) {P : Params} (hK : X.K = hd.heap_1 P) : SimF X 2 (Str.ofString "_law_operand") m_law_operand := by
  refine sFg ok hK (d := 1) (nm := [Str.ofString "script", Str.ofString "at", Str.ofString "which"]) (k := 2) (n := 1) rfl rfl rfl ?_ (by intro _ h; apply len2 h; intros; rfl) (by kernel_rfl)
  exact (sSc (sS (cE ok (slD ok co hK) yT (sL sv (sL sv (sL sEi sLn yT) yT) yT) yT) yT (fun _ _ => rfl))
    (sSc (sSi (sTc lt_ok yF sv sEi) (sSc (sSr (sEt (sL (sEs (by rfl)) (sL (sEu (fun _ _ => rfl) (sEl ok (sL (sEs (by rfl)) (sL sEn sLn yT) yT)) sv) sLn yT) yT)))
    sSn) sSn)
    (sSc (sSr (simE_if (sTc lt_ok yF sv sEi) (sEt (sL (sEs (by rfl)) (sL (sEb sub_int_ok sv sEi) sLn yT) yT)) (sEt (sL (sEs (by rfl)) (sL (sEb sub_int_ok sv sEi) sLn yT) yT))))
    sSn)))
theorem sim_law_row {X : Ctx} (ok : X.Ok) {fI : Addr} {ib : List Stmt} (co : CdO X fI ib) {P : Params} (hK : X.K = hd.heap_1 P) : SimF X 3 (Str.ofString "_law_row") m_law_row := by
  refine sFg ok hK (d := 2) (nm := [Str.ofString "script", Str.ofString "at", Str.ofString "many", Str.ofString "sort", Str.ofString "op", Str.ofString "x", Str.ofString "to"]) (k := 3) (n := 4) rfl rfl rfl ?_ (by intro _ h; apply len3 h; intros; rfl) (by kernel_rfl)
  exact (sSc (sS (cE ok (slD ok co hK) yT (sL sv (sL sv (sL sEi sLn yT) yT) yT) yT) yT (fun _ _ => rfl))
    (sSc (sSi (sTc gt_ok yF sv sEi) (sSc (sS (sEu (fun _ _ => rfl) (sEl ok (sL (sEs (by rfl)) (sL (sEs (by rfl)) (sL (sEs (by rfl)) sLn yT) yT) yT)) (sEb sub_int_ok sv sEi)) yT (fun _ _ => rfl))
    (sSc (sS (cE ok (sim_law_operand ok co hK) yT (sL sv (sL sv sLn yT) yT) yT) yT (fun _ _ => rfl))
    (sSc (sSr (sEt (sL sv (sL sEn (sL (simE_if (sTc eq_ok yF sv (sEs (by rfl))) sEn sv) (sL (cE ok (slD ok co hK) yT (sL sv (sL sv (sL (sEb (add_ok ok) sv sEi) sLn yT) yT) yT) yT) sLn yT) yT) yT) yT)))
    sSn))) sSn)
    (sSc (sSi (sTc gt_ok yF sv sEi) (sSc (sSr (sEt (sL (sEu (fun _ _ => rfl) (sEl ok (sL (sEs (by rfl)) (sL (sEs (by rfl)) (sL (sEs (by rfl)) sLn yT) yT) yT)) (sEb sub_int_ok sv sEi)) (sL sEn (sL (cE ok (sim_law_operand ok co hK) yT (sL sv (sL sv sLn yT) yT) yT) (sL sEn sLn yT) yT) yT) yT)))
    sSn) sSn)
    (sSc (sS (cE ok (slD ok co hK) yT (sL sv (sL sv (sL sEi sLn yT) yT) yT) yT) yT (fun _ _ => rfl))
    (sSc (sSi (sTc eq_ok yF sv sEi) (sSc (sSr (sEt (sL (sEs (by rfl)) (sL sv (sL sEn (sL sEn sLn yT) yT) yT) yT)))
    sSn) sSn)
    (sSc (sS (cE ok (sim_law_operand ok co hK) yT (sL sv (sL sv sLn yT) yT) yT) yT (fun _ _ => rfl))
    (sSc (sSi (sTc lt_ok yF sv sEi) (sSc (sSr (sEt (sL (sEu (fun _ _ => rfl) (sEl ok (sL (sEs (by rfl)) (sL (sEs (by rfl)) (sL (sEs (by rfl)) sLn yT) yT) yT)) (sEb sub_int_ok sv sEi)) (sL sv (sL sv (sL sEn sLn yT) yT) yT) yT)))
    sSn) sSn)
    (sSc (sSi (sTc lt_ok yF sv sEi) (sSc (sSr (sEt (sL (sEs (by rfl)) (sL sv (sL (sEt (sL sv (sL (cE ok (sim_law_operand ok co hK) yT (sL sv (sL sv sLn yT) yT) yT) sLn yT) yT)) (sL (sEs (by rfl)) sLn yT) yT) yT) yT)))
    sSn) sSn)
    (sSc (sSi (sTc eq_ok yF sv sEi) (sSc (sSr (sEt (sL (sEs (by rfl)) (sL sv (sL (sEt (sL sv (sL (sEt (sL (sEs (by rfl)) (sL sEi sLn yT) yT)) sLn yT) yT)) (sL sEn sLn yT) yT) yT) yT)))
    sSn) sSn)
    (sSc (sSr (sEt (sL (sEs (by rfl)) (sL (simE_if (sTc eq_ok yF sv sEi) sv sEn) (sL (sEt (sL (sEs (by rfl)) (sL (sEt (sL (sEs (by rfl)) (sL (sEt (sL (sEs (by rfl)) (sL (sEs (by rfl)) sLn yT) yT)) sLn yT) yT)) (sL sv sLn yT) yT) yT)) (sL (cE ok (sim_law_operand ok co hK) yT (sL sv (sL sv sLn yT) yT) yT) sLn yT) yT) yT) yT)))
    sSn))))))))))
theorem sim_law_trys {X : Ctx} (ok : X.Ok) {fI : Addr} {ib : List Stmt} (co : CdO X fI ib) {P : Params} (hK : X.K = hd.heap_1 P) : SimF X 2 (Str.ofString "_law_trys") m_law_trys := by
  refine sFg ok hK (d := 1) (nm := [Str.ofString "script", Str.ofString "at", Str.ofString "many", Str.ofString "way", Str.ofString "found", Str.ofString "first", Str.ofString "behind", Str.ofString "end", Str.ofString "start", Str.ofString "final", Str.ofString "last", Str.ofString "ret"]) (k := 3) (n := 9) rfl rfl rfl ?_ (by intro _ h; apply len3 h; intros; rfl) (by kernel_rfl)
  exact (sSc (simS_swap (names := [Str.ofString "way", Str.ofString "found"]) (sEt (sL (cE ok (slD ok co hK) yT (sL sv (sL sv (sL sEi sLn yT) yT) yT) yT) (sL (sEl ok sLn) sLn yT) yT)) ⟨(tg1 yT), (tg1 yT), trivial⟩ (fun _ _ => rfl) (envS fun _ => rfl))
    (sSc (sS (cE ok (slD ok co hK) yT (sL sv (sL sv (sL (sEb sub_int_ok sv sEi) sLn yT) yT) yT) yT) yT (fun _ _ => rfl))
    (sSc (sS (sEb (add_ok ok) (sEb (add_ok ok) sv sEi) (cE ok (slD ok co hK) yT (sL sv (sL sv (sL (sEb sub_int_ok (sEb sub_int_ok sv sEi) sv) sLn yT) yT) yT) yT)) yT (fun _ _ => rfl))
    (sSc (sS (sEb (add_ok ok) sv (cE ok (slD ok co hK) yT (sL sv (sL sv (sL (sEb (add_ok ok) (sEb sub_int_ok sv sv) sEi) sLn yT) yT) yT) yT)) yT (fun _ _ => rfl))
    (sSc (sSi (sTc in_ok yF sv (sEl ok (sL sEi (sL sEi sLn yT) yT))) (sSc (sSd (sEp sv (sEt (sL sv (sL sv (sL sEn (sL sv (sL sEn sLn yT) yT) yT) yT) yT)) (ns rfl) (fun _ => rfl) rfl) (fun _ => rfl))
    sSn) sSn)
    (sSc (sS (cE ok (slD ok co hK) yT (sL sv (sL sv (sL (sEb sub_int_ok sv sEi) sLn yT) yT) yT) yT) yT (fun _ _ => rfl))
    (sSc (sS (sEb (add_ok ok) (sEb (add_ok ok) sv sEi) (cE ok (slD ok co hK) yT (sL sv (sL sv (sL (sEb sub_int_ok (sEb sub_int_ok sv sEi) sv) sLn yT) yT) yT) yT)) yT (fun _ _ => rfl))
    (sSc (sS (sEb (add_ok ok) sv (cE ok (slD ok co hK) yT (sL sv (sL sv (sL (sEb (add_ok ok) (sEb sub_int_ok sv sv) sEi) sLn yT) yT) yT) yT)) yT (fun _ _ => rfl))
    (sSc (sS (cE ok (slD ok co hK) yT (sL sv (sL sv (sL sEi sLn yT) yT) yT) yT) yT (fun _ _ => rfl))
    (sSc (sSi (simT_or (SimTs.cons (sTc eq_ok yF sv sEi) (SimTs.cons (simT_and (SimTs.cons (sTc eq_ok yF sv sEi) (SimTs.cons (sTc ne_ok yF sv sv) SimTs.nil))) SimTs.nil))) (sSc (sSd (sEp sv (sEt (sL sv (sL sEn (sL sv (sL sv (sL sv sLn yT) yT) yT) yT) yT)) (ns rfl) (fun _ => rfl) rfl) (fun _ => rfl))
    sSn) sSn)
    (sSc (sSr sv)
    sSn)))))))))))
theorem sim_law_operands {X : Ctx} (ok : X.Ok) {fI : Addr} {ib : List Stmt} (co : CdO X fI ib) {P : Params} (hK : X.K = hd.heap_1 P) : SimF X 1 (Str.ofString "_law_operands") m_law_operands := by
  refine sFg ok hK (d := 0) (nm := [Str.ofString "row", Str.ofString "op", Str.ofString "to", Str.ofString "a", Str.ofString "b"]) (k := 1) (n := 4) rfl rfl rfl ?_ (by intro _ h; apply len1 h; intros; rfl) (by kernel_rfl)
  exact (sSc (simS_unpack sv ⟨(tg1 yT), (tg1 yT), (tg1 yT), (tg1 yT), trivial⟩ (fun _ _ => rfl) (envS fun _ => rfl))
    (sSc (sSi (sTc in_ok yF sv (sEl ok (sL (sEs (by rfl)) (sL (sEs (by rfl)) sLn yT) yT))) (sSc (sSr (simE_listOf ok (sL sv sLn yT) rfl ⟨(ns rfl), trivial⟩))
    sSn) sSn)
    (sSc (sSi (sTc eq_ok yF sv (sEs (by rfl))) (sSc (sSr (sEl ok (sL (sEu (fun _ _ => rfl) sv sEi) (sL sv sLn yT) yT)))
    sSn) sSn)
    (sSc (sSr (simE_if (sTc is_ok yF sv sEn) (sEl ok sLn) (sEl ok (sL sv sLn yT))))
    sSn))))
theorem sim_law_value {X : Ctx} (ok : X.Ok) {fI : Addr} {ib : List Stmt} (co : CdO X fI ib) {P : Params} (hK : X.K = hd.heap_1 P) : SimF X 1 (Str.ofString "_law_value") m_law_value := by
  refine sFg ok hK (d := 0) (nm := [Str.ofString "world", Str.ofString "x", Str.ofString "sort", Str.ofString "held"]) (k := 2) (n := 2) rfl rfl rfl ?_ (by intro _ h; apply len2 h; intros; rfl) (by kernel_rfl)
  exact (sSc (simS_unpack sv ⟨(tg1 yT), (tg1 yT), trivial⟩ (fun _ _ => rfl) (envS fun _ => rfl))
    (sSc (sSi (sTc eq_ok yF sv (sEs (by rfl))) (sSc (sSr (sEu (fun _ _ => rfl) (sEu (fun _ _ => rfl) sv (sEs (by rfl))) sv))
    sSn) sSn)
    (sSc (sSr (simE_if (sTc eq_ok yF sv (sEs (by rfl))) sv (sEu (fun _ _ => rfl) (sEu (fun _ _ => rfl) sv (sEs (by rfl))) (sEb mod_ok (sEb (add_ok ok) (sEg ok (sL (sEu (fun _ _ => rfl) sv (sEs (by rfl))) sLn yT) rfl ⟨(ns rfl), trivial⟩) sv) (sEg ok (sL (sEu (fun _ _ => rfl) sv (sEs (by rfl))) sLn yT) rfl ⟨(ns rfl), trivial⟩)))))
    sSn)))
theorem sim_law_given {X : Ctx} (ok : X.Ok) {fI : Addr} {ib : List Stmt} (co : CdO X fI ib) {P : Params} (hK : X.K = hd.heap_1 P) : SimF X 1 (Str.ofString "_law_given") m_law_given := by
  refine sFg ok hK (d := 0) (nm := [Str.ofString "op", Str.ofString "values", Str.ofString "place"]) (k := 3) (n := 0) rfl rfl rfl ?_ (by intro _ h; apply len3 h; intros; rfl) (by kernel_rfl)
  exact (sSc (sSi (sTc eq_ok yF sv (sEs (by rfl))) (sSc (sSr (sEu (fun _ _ => rfl) sv sEi))
    sSn) sSn)
    (sSc (sSi (sTc eq_ok yF sv (sEs (by rfl))) (sSc (sSr (simE_cmp isNot_ok (by rfl) (sEu (fun _ _ => rfl) sv sEi) sEn))
    sSn) sSn)
    (sSc (sSr (sEb (add_ok ok) sv (simE_strOf ok (sL sv sLn yT) rfl ⟨(ns rfl), trivial⟩)))
    sSn)))
theorem sim_law_handler {X : Ctx} (ok : X.Ok) {fI : Addr} {ib : List Stmt} (co : CdO X fI ib) {P : Params} (hK : X.K = hd.heap_1 P) : SimF X 1 (Str.ofString "_law_handler") m_law_handler := by
  refine sFg ok hK (d := 0) (nm := [Str.ofString "trys", Str.ofString "place", Str.ofString "first", Str.ofString "catch", Str.ofString "final", Str.ofString "end", Str.ofString "ret"]) (k := 2) (n := 5) rfl rfl rfl ?_ (by intro _ h; apply len2 h; intros; rfl) (by kernel_rfl)
  exact (sSc (sSf (simE_rev ok sv) ⟨(tg1 yT), (tg1 yT), (tg1 yT), (tg1 yT), (tg1 yT), trivial⟩ (sSc (sSi (simT_chain le_ok lt_ok sv sv (simE_if (sTc is_ok yF sv sEn) sv sv) (by rfl)) (sSc (sSr (sEl ok (sL (simE_if (sTc is_ok yF sv sEn) (sEt (sL sv (sL sEn sLn yT) yT)) (sEt (sL sv (sL sv sLn yT) yT))) sLn yT)))
    sSn) sSn)
    sSn) (fun _ _ => rfl))
    (sSc (sSr (sEl ok sLn))
    sSn))
theorem sim_law_next {X : Ctx} (ok : X.Ok) {fI : Addr} {ib : List Stmt} (co : CdO X fI ib) {P : Params} (hK : X.K = hd.heap_1 P) : SimF X 2 (Str.ofString "_law_next") m_law_next := by
  refine sFg ok hK (d := 1) (nm := [Str.ofString "world", Str.ofString "code", Str.ofString "place", Str.ofString "values", Str.ofString "op", Str.ofString "to", Str.ofString "a", Str.ofString "b", Str.ofString "is_so", Str.ofString "behind", Str.ofString "ret"]) (k := 4) (n := 7) rfl rfl rfl ?_ (by intro _ h; apply len4 h; intros; rfl) (by kernel_rfl)
  exact (sSc (simS_unpack (sEu (fun _ _ => rfl) (sEa ok .rows sv (by rfl)) sv) ⟨(tg1 yT), (tg1 yT), (tg1 yT), (tg1 yT), trivial⟩ (fun _ _ => rfl) (envS fun _ => rfl))
    (sSc (sSi (sTc eq_ok yF (simE_take sv (by rfl)) (sEs (by rfl))) (sSc (sS (simE_or (simE_cmp eq_ok (by rfl) sv (sEs (by rfl))) (simE_cmp eq_ok (by rfl) (simE_cmp is_ok (by rfl) (sEu (fun _ _ => rfl) sv sEi) sEn) (simE_cmp eq_ok (by rfl) sv (sEs (by rfl))))) yT (fun _ _ => rfl))
    (sSc (sSr (simE_if (sTv sv (fun _ _ => rfl)) sv (sEb (add_ok ok) sv sEi)))
    sSn)) sSn)
    (sSc (sSi (sTc eq_ok yF sv (sEs (by rfl))) (sSc (sSf (cE ok (sim_law_handler ok co hK) yT (sL (sEa ok .trys sv (by rfl)) (sL sv sLn yT) yT) yT) ⟨(tg1 yT), (tg1 yT), trivial⟩ (sSc (sSi (sTc isNot_ok yF sv sEn) (sSc (simS_put (sEb (add_ok ok) (sEs (by rfl)) (simE_strOf ok (sL (sEg ok (sL (sEu (fun _ _ => rfl) sv (sEs (by rfl))) sLn yT) rfl ⟨(ns rfl), trivial⟩) sLn yT) rfl ⟨(ns rfl), trivial⟩)) (sEu (fun _ _ => rfl) sv (sEs (by rfl))) sv (fun _ _ => rfl))
    sSn) sSn)
    (sSc (sSr sv)
    sSn)) (fun _ _ => rfl))
    (sSc (sSr (simE_un neg_ok sEi))
    sSn)) sSn)
    (sSc (sSi (sTc isNot_ok yF sv sEn) (sSc (simS_put (cE ok (sim_law_given ok co hK) yT (sL sv (sL sv (sL (sEg ok (sL (sEu (fun _ _ => rfl) sv (sEs (by rfl))) sLn yT) rfl ⟨(ns rfl), trivial⟩) sLn yT) yT) yT) yT) (sEu (fun _ _ => rfl) sv (sEs (by rfl))) sv (fun _ _ => rfl))
    sSn) sSn)
    (sSc (sSr (simE_if (sTc eq_ok yF sv (sEs (by rfl))) (simE_un neg_ok sEi) (sEb (add_ok ok) sv sEi)))
    sSn)))))
theorem sim_law_told {X : Ctx} (ok : X.Ok) {fI : Addr} {ib : List Stmt} (co : CdO X fI ib) {P : Params} (hK : X.K = hd.heap_1 P) : SimF X 3 (Str.ofString "_law_told") m_law_told := by
  refine sFg ok hK (d := 2) (nm := [Str.ofString "code", Str.ofString "tape", Str.ofString "world", Str.ofString "here", Str.ofString "turn", Str.ofString "values"]) (k := 2) (n := 4) rfl rfl rfl ?_ (by intro _ h; apply len2 h; intros; rfl) (by kernel_rfl)
  exact (sSc (sS (simE_dict ok (StrKeys.cons (by rfl) (StrKeys.cons (by rfl) (StrKeys.cons (by rfl) StrKeys.nil))) (SimEs.cons (sEl ok sLn) (SimEs.cons (sEb (mul_ok ok) (sEl ok (sL sEn sLn yT)) (sEa ok .temps sv (by rfl))) (SimEs.cons sv SimEs.nil))) (by rfl) (by simp) (by decide)) yT (fun _ _ => rfl))
    (sSc (sS sEi yT (fun _ _ => rfl))
    (sSc (sSf (sEr ok (sL sEi sLn yT) rfl ⟨(ns rfl), trivial⟩) (tg1 yT) (sSc (sSi (simT_chain le_ok lt_ok sEi sv (sEg ok (sL (sEa ok .rows sv (by rfl)) sLn yT) rfl ⟨(ns rfl), trivial⟩) (by rfl)) (sSc (simS_setComp ok (nmI := [Str.ofString "x", Str.ofString "world"]) (cpO (by decide +kernel)) (cE ok (sim_law_operands ok co hK) yT (sL (sEu (fun _ _ => rfl) (sEa ok .rows sv (by rfl)) sv) sLn yT) yT) ⟨by rfl, rfl⟩ SimTs.nil (cE ok (sim_law_value ok co hK) yT (sL sv (sL sv sLn yT) yT) yT) (fun _ _ => rfl) (by rfl) rfl (envS fun _ => rfl))
    (sSc (sSd (sEp (sEu (fun _ _ => rfl) sv (sEs (by rfl))) (sEt (sL sv (sL (simE_repr ok (sL sv sLn yT) rfl ⟨(ns rfl), trivial⟩) sLn yT) yT)) (ns rfl) (fun _ => rfl) rfl) (fun _ => rfl))
    (sSc (sS (cE ok (sim_law_next ok co hK) yT (sL sv (sL sv (sL sv (sL sv sLn yT) yT) yT) yT) yT) yT (fun _ _ => rfl))
    sSn))) sSn)
    sSn) (fun _ _ => rfl))
    (sSc (sSr (sEt (sL sv (sL (sEu (fun _ _ => rfl) sv (sEs (by rfl))) sLn yT) yT)))
    sSn))))
theorem sim_law_ways {X : Ctx} (ok : X.Ok) {fI : Addr} {ib : List Stmt} (co : CdO X fI ib) {P : Params} (hK : X.K = hd.heap_1 P) : SimF X 2 (Str.ofString "_law_ways") m_law_ways := by
  refine sFg ok hK (d := 1) (nm := [Str.ofString "code", Str.ofString "place", Str.ofString "op", Str.ofString "to", Str.ofString "a", Str.ofString "b", Str.ofString "found"]) (k := 2) (n := 5) rfl rfl rfl ?_ (by intro _ h; apply len2 h; intros; rfl) (by kernel_rfl)
  exact (sSc (simS_unpack (sEu (fun _ _ => rfl) (sEa ok .rows sv (by rfl)) sv) ⟨(tg1 yT), (tg1 yT), (tg1 yT), (tg1 yT), trivial⟩ (fun _ _ => rfl) (envS fun _ => rfl))
    (sSc (sS (simE_if (sTc in_ok yF sv (sEl ok (sL (sEs (by rfl)) (sL (sEs (by rfl)) (sL (sEs (by rfl)) sLn yT) yT) yT))) (sEl ok sLn) (sEl ok (sL (sEt (sL (sEb (add_ok ok) sv sEi) (sL sv sLn yT) yT)) sLn yT))) yT (fun _ _ => rfl))
    (sSc (sSi (sTc eq_ok yF (simE_take sv (by rfl)) (sEs (by rfl))) (sSc (sSd (sEp sv (sEt (sL sv (sL sv sLn yT) yT)) (ns rfl) (fun _ => rfl) rfl) (fun _ => rfl))
    sSn) sSn)
    (sSc (sSr (sEb (add_ok ok) sv (cE ok (sim_law_handler ok co hK) yT (sL (sEa ok .trys sv (by rfl)) (sL sv sLn yT) yT) yT)))
    sSn))))
theorem sim_law_is_wanted {X : Ctx} (ok : X.Ok) {fI : Addr} {ib : List Stmt} (co : CdO X fI ib) {P : Params} (hK : X.K = hd.heap_1 P) : SimF X 3 (Str.ofString "_law_is_wanted") m_law_is_wanted := by
  refine sFg ok hK (d := 2) (nm := [Str.ofString "code", Str.ofString "place", Str.ofString "temp", Str.ofString "left", Str.ofString "known", Str.ofString "here"]) (k := 3) (n := 3) rfl rfl rfl ?_ (by intro _ h; apply len3 h; intros; rfl) (by kernel_rfl)
  exact (sSc (simS_swap (names := [Str.ofString "left", Str.ofString "known"]) (sEt (sL (sEl ok (sL sv sLn yT)) (sL (sEl ok sLn) sLn yT) yT)) ⟨(tg1 yT), (tg1 yT), trivial⟩ (fun _ _ => rfl) (envS fun _ => rfl))
    (sSc (simS_while 100000 (sTc ne_ok yF sv (sEl ok sLn)) (sSc (sS (simE_pop sv  (fun _ => rfl) rfl) yT (fun _ _ => rfl))
    (sSc (sSi (simT_and (SimTs.cons (sTc lt_ok yF sv (sEg ok (sL (sEa ok .rows sv (by rfl)) sLn yT) rfl ⟨(ns rfl), trivial⟩)) (SimTs.cons (sTc notIn_ok yF sv sv) SimTs.nil))) (sSc (sSd (sEp sv sv (ns rfl) (fun _ => rfl) rfl) (fun _ => rfl))
    (sSc (sSi (sTc in_ok yF (sEt (sL (sEs (by rfl)) (sL sv sLn yT) yT)) (cE ok (sim_law_operands ok co hK) yT (sL (sEu (fun _ _ => rfl) (sEa ok .rows sv (by rfl)) sv) sLn yT) yT)) (sSc (sSr sEo)
    sSn) sSn)
    (sSc (sSd (simE_extend sv (simE_comp ok (nmI := [Str.ofString "behind", Str.ofString "written", Str.ofString "temp"]) (cpO (by decide +kernel)) (cE ok (sim_law_ways ok co hK) yT (sL sv (sL sv sLn yT) yT) yT) ⟨⟨by rfl, rfl⟩, ⟨by rfl, rfl⟩, trivial⟩ (SimTs.cons (sTc ne_ok yF sv sv) SimTs.nil) sv (fun _ _ => rfl)) (ns rfl) (fun _ => rfl) rfl) (fun _ => rfl))
    sSn))) sSn)
    sSn)))
    (sSc (sSr sEo)
    sSn)))
theorem sim_law_live {X : Ctx} (ok : X.Ok) {fI : Addr} {ib : List Stmt} (co : CdO X fI ib) {P : Params} (hK : X.K = hd.heap_1 P) : SimF X 4 (Str.ofString "_law_live") m_law_live := by
  refine sFg ok hK (d := 3) (nm := [Str.ofString "code", Str.ofString "place", Str.ofString "found", Str.ofString "first", Str.ofString "catch", Str.ofString "final", Str.ofString "end", Str.ofString "ret", Str.ofString "temp", Str.ofString "behind", Str.ofString "sort"]) (k := 2) (n := 9) rfl rfl rfl ?_ (by intro _ h; apply len2 h; intros; rfl) (by kernel_rfl)
  exact (sSc (simS_setComp ok (nmI := [Str.ofString "temp", Str.ofString "code", Str.ofString "place"]) (cpO (by decide +kernel)) (sEr ok (sL sEi sLn yT) rfl ⟨(ns rfl), trivial⟩) ⟨by rfl, rfl⟩ (SimTs.cons (sTv (cE ok (sim_law_is_wanted ok co hK) yT (sL sv (sL sv (sL sv sLn yT) yT) yT) yT) (fun _ _ => rfl)) SimTs.nil) sv (fun _ _ => rfl) (by rfl) rfl (envS fun _ => rfl))
    (sSc (sSf (sEa ok .trys sv (by rfl)) ⟨(tg1 yT), (tg1 yT), (tg1 yT), (tg1 yT), (tg1 yT), trivial⟩ (sSc (sSi (simT_and (SimTs.cons (sTc isNot_ok yF sv sEn) (SimTs.cons (simT_chain le_ok lt_ok sv sv sv (by rfl)) (SimTs.cons (sTc notIn_ok yF sv sv) SimTs.nil)))) (sSc (sSd (sEp sv sv (ns rfl) (fun _ => rfl) rfl) (fun _ => rfl))
    sSn) sSn)
    sSn) (fun _ _ => rfl))
    (sSc (sSf (sEa ok .lives sv (by rfl)) ⟨(tg1 yT), (tg1 yT), (tg1 yT), (tg1 yT), trivial⟩ (sSc (sSi (simT_and (SimTs.cons (simT_chain le_ok lt_ok sv sv sv (by rfl)) (SimTs.cons (sTc notIn_ok yF sv sv) SimTs.nil))) (sSc (sSd (sEp sv sv (ns rfl) (fun _ => rfl) rfl) (fun _ => rfl))
    sSn) sSn)
    sSn) (fun _ _ => rfl))
    (sSc (sSr (simE_sorted ok (sL sv sLn yT) rfl ⟨(ns rfl), trivial⟩))
    sSn))))
theorem sim_law_pairs {X : Ctx} (ok : X.Ok) {fI : Addr} {ib : List Stmt} (co : CdO X fI ib) {P : Params} (hK : X.K = hd.heap_1 P) : SimF X 2 (Str.ofString "_law_pairs") m_law_pairs := by
  refine sFg ok hK (d := 1) (nm := [Str.ofString "code", Str.ofString "made", Str.ofString "pairs", Str.ofString "place", Str.ofString "one", Str.ofString "two", Str.ofString "first", Str.ofString "second", Str.ofString "k"]) (k := 2) (n := 7) rfl rfl rfl ?_ (by intro _ h; apply len2 h; intros; rfl) (by kernel_rfl)
  exact (sSc (sS (sEl ok sLn) yT (fun _ _ => rfl))
    (sSc (sSf (sEr ok (sL (sEg ok (sL (sEa ok .rows sv (by rfl)) sLn yT) rfl ⟨(ns rfl), trivial⟩) sLn yT) rfl ⟨(ns rfl), trivial⟩) (tg1 yT) (sSc (simS_swap (names := [Str.ofString "one", Str.ofString "two"]) (sEt (sL (sEu (fun _ _ => rfl) (sEa ok .rows sv (by rfl)) sv) (sL (sEu (fun _ _ => rfl) (sEa ok .rows sv (by rfl)) sv) sLn yT) yT)) ⟨(tg1 yT), (tg1 yT), trivial⟩ (fun _ _ => rfl) (envS fun _ => rfl))
    (sSc (sSi (sTc isNot_ok yF (sEu (fun _ _ => rfl) sv sEi) sEn) (sSc (sSd (sEp sv (sEt (sL (sEu (fun _ _ => rfl) sv sEi) (sL (sEu (fun _ _ => rfl) sv sEi) sLn yT) yT)) (ns rfl) (fun _ => rfl) rfl) (fun _ => rfl))
    sSn) sSn)
    (sSc (simS_unpack (sEt (sL (cE ok (sim_law_operands ok co hK) yT (sL sv sLn yT) yT) (sL (cE ok (sim_law_operands ok co hK) yT (sL sv sLn yT) yT) sLn yT) yT)) ⟨(tg1 yT), (tg1 yT), trivial⟩ (fun _ _ => rfl) (envS fun _ => rfl))
    (sSc (sSd (simE_extend sv (simE_comp ok (nmI := [Str.ofString "k", Str.ofString "first", Str.ofString "second"]) (cpO (by decide +kernel)) (sEr ok (sL (sEg ok (sL sv sLn yT) rfl ⟨(ns rfl), trivial⟩) sLn yT) rfl ⟨(ns rfl), trivial⟩) ⟨by rfl, rfl⟩ (SimTs.cons (sTc eq_ok yF (sEu (fun _ _ => rfl) (sEu (fun _ _ => rfl) sv sv) sEi) (sEs (by rfl))) SimTs.nil) (sEt (sL (sEu (fun _ _ => rfl) (sEu (fun _ _ => rfl) sv sv) sEi) (sL (sEu (fun _ _ => rfl) (sEu (fun _ _ => rfl) sv sv) sEi) sLn yT) yT)) (fun _ _ => rfl)) (ns rfl) (fun _ => rfl) rfl) (fun _ => rfl))
    sSn)))) (fun _ _ => rfl))
    (sSc (sSf (sEr ok (sL (sEg ok (sL (sEa ok .trys sv (by rfl)) sLn yT) rfl ⟨(ns rfl), trivial⟩) sLn yT) rfl ⟨(ns rfl), trivial⟩) (tg1 yT) (sSc (sSi (sTc isNot_ok yF (sEu (fun _ _ => rfl) (sEu (fun _ _ => rfl) (sEa ok .trys sv (by rfl)) sv) sEi) sEn) (sSc (sSd (sEp sv (sEt (sL (sEu (fun _ _ => rfl) (sEu (fun _ _ => rfl) (sEa ok .trys sv (by rfl)) sv) sEi) (sL (sEu (fun _ _ => rfl) (sEu (fun _ _ => rfl) (sEa ok .trys sv (by rfl)) sv) sEi) sLn yT) yT)) (ns rfl) (fun _ => rfl) rfl) (fun _ => rfl))
    sSn) sSn)
    sSn) (fun _ _ => rfl))
    (sSc (sSr (sEb (add_ok ok) sv (simE_comp ok (nmI := [Str.ofString "k", Str.ofString "code", Str.ofString "made"]) (cpO (by decide +kernel)) (sEr ok (sL (sEg ok (sL (sEa ok .lives sv (by rfl)) sLn yT) rfl ⟨(ns rfl), trivial⟩) sLn yT) rfl ⟨(ns rfl), trivial⟩) ⟨by rfl, rfl⟩ SimTs.nil (sEt (sL (sEu (fun _ _ => rfl) (sEu (fun _ _ => rfl) (sEa ok .lives sv (by rfl)) sv) sEi) (sL (sEu (fun _ _ => rfl) (sEu (fun _ _ => rfl) (sEa ok .lives sv (by rfl)) sv) sEi) sLn yT) yT)) (fun _ _ => rfl))))
    sSn))))
theorem sim_law_renamed {X : Ctx} (ok : X.Ok) {fI : Addr} {ib : List Stmt} (co : CdO X fI ib) {P : Params} (hK : X.K = hd.heap_1 P) : SimF X 1 (Str.ofString "_law_renamed") m_law_renamed := by
  refine sFg ok hK (d := 0) (nm := [Str.ofString "book", Str.ofString "x"]) (k := 2) (n := 0) rfl rfl rfl ?_ (by intro _ h; apply len2 h; intros; rfl) (by kernel_rfl)
  exact (sSc (sSr (simE_if (sTc eq_ok yF (sEu (fun _ _ => rfl) sv sEi) (sEs (by rfl))) (sEt (sL (sEs (by rfl)) (sL (sEu (fun _ _ => rfl) sv (sEu (fun _ _ => rfl) sv sEi)) sLn yT) yT)) sv))
    sSn)
theorem sim_law_new_row {X : Ctx} (ok : X.Ok) {fI : Addr} {ib : List Stmt} (co : CdO X fI ib) {P : Params} (hK : X.K = hd.heap_1 P) : SimF X 2 (Str.ofString "_law_new_row") m_law_new_row := by
  refine sFg ok hK (d := 1) (nm := [Str.ofString "book", Str.ofString "row", Str.ofString "op", Str.ofString "to", Str.ofString "a", Str.ofString "b"]) (k := 2) (n := 4) rfl rfl rfl ?_ (by intro _ h; apply len2 h; intros; rfl) (by kernel_rfl)
  exact (sSc (simS_unpack sv ⟨(tg1 yT), (tg1 yT), (tg1 yT), (tg1 yT), trivial⟩ (fun _ _ => rfl) (envS fun _ => rfl))
    (sSc (sS (simE_if (sTc is_ok yF sv sEn) sEn (sEu (fun _ _ => rfl) sv sv)) yT (fun _ _ => rfl))
    (sSc (sSi (sTc in_ok yF sv (sEl ok (sL (sEs (by rfl)) (sL (sEs (by rfl)) sLn yT) yT))) (sSc (sSr (sEt (sL sv (sL sv (sL (simE_tupleOf ok (sL (simE_comp ok (nmI := [Str.ofString "x", Str.ofString "book"]) (cpO (by decide +kernel)) sv ⟨by rfl, rfl⟩ SimTs.nil (cE ok (sim_law_renamed ok co hK) yT (sL sv (sL sv sLn yT) yT) yT) (fun _ _ => rfl)) sLn yT) rfl ⟨(ns rfl), trivial⟩) (sL sv sLn yT) yT) yT) yT)))
    sSn) sSn)
    (sSc (sSi (sTc eq_ok yF sv (sEs (by rfl))) (sSc (sSr (sEt (sL sv (sL sv (sL (sEt (sL (sEu (fun _ _ => rfl) sv sEi) (sL (sEu (fun _ _ => rfl) sv sEi) (sL (cE ok (sim_law_renamed ok co hK) yT (sL sv (sL (sEu (fun _ _ => rfl) sv sEi) sLn yT) yT) yT) sLn yT) yT) yT)) (sL (cE ok (sim_law_renamed ok co hK) yT (sL sv (sL sv sLn yT) yT) yT) sLn yT) yT) yT) yT)))
    sSn) sSn)
    (sSc (sSr (sEt (sL sv (sL sv (sL (simE_if (sTc is_ok yF sv sEn) sv (cE ok (sim_law_renamed ok co hK) yT (sL sv (sL sv sLn yT) yT) yT)) (sL sv sLn yT) yT) yT) yT)))
    sSn)))))
theorem sim_law_are_apart {X : Ctx} (ok : X.Ok) {fI : Addr} {ib : List Stmt} (co : CdO X fI ib) {P : Params} (hK : X.K = hd.heap_1 P) : SimF X 1 (Str.ofString "_law_are_apart") m_law_are_apart := by
  refine sFg ok hK (d := 0) (nm := [Str.ofString "book", Str.ofString "temps", Str.ofString "numbers"]) (k := 2) (n := 1) rfl rfl rfl ?_ (by intro _ h; apply len2 h; intros; rfl) (by kernel_rfl)
  exact (sSc (sS (simE_comp ok (nmI := [Str.ofString "temp", Str.ofString "book"]) (cpO (by decide +kernel)) sv ⟨by rfl, rfl⟩ SimTs.nil (sEu (fun _ _ => rfl) sv sv) (fun _ _ => rfl)) yT (envS fun _ => rfl))
    (sSc (sSr (simE_cmp eq_ok (by rfl) (sEg ok (sL (simE_comp ok (nmI := [Str.ofString "number", Str.ofString "numbers"]) (cpO (by decide +kernel)) sv ⟨by rfl, rfl⟩ (SimTs.cons (sTc gt_ok yF (simE_count sv sv (ns rfl) (fun _ => rfl) rfl) sEi) SimTs.nil) sv (fun _ _ => rfl)) sLn yT) rfl ⟨(ns rfl), trivial⟩) sEi))
    sSn))
theorem sim_law_do_clash {X : Ctx} (ok : X.Ok) {fI : Addr} {ib : List Stmt} (co : CdO X fI ib) {P : Params} (hK : X.K = hd.heap_1 P) : SimF X 1 (Str.ofString "_law_do_clash") m_law_do_clash := by
  refine sFg ok hK (d := 0) (nm := [Str.ofString "code", Str.ofString "live", Str.ofString "one", Str.ofString "other", Str.ofString "place", Str.ofString "to", Str.ofString "behind"]) (k := 4) (n := 3) rfl rfl rfl ?_ (by intro _ h; apply len4 h; intros; rfl) (by kernel_rfl)
  exact (sSc (sSf (sEr ok (sL (sEg ok (sL (sEa ok .rows sv (by rfl)) sLn yT) rfl ⟨(ns rfl), trivial⟩) sLn yT) rfl ⟨(ns rfl), trivial⟩) (tg1 yT) (sSc (simS_swap (names := [Str.ofString "to", Str.ofString "behind"]) (sEt (sL (sEu (fun _ _ => rfl) (sEu (fun _ _ => rfl) (sEa ok .rows sv (by rfl)) sv) sEi) (sL (simE_if (sTc lt_ok yF (sEb (add_ok ok) sv sEi) (sEg ok (sL (sEa ok .rows sv (by rfl)) sLn yT) rfl ⟨(ns rfl), trivial⟩)) (sEu (fun _ _ => rfl) sv (sEb (add_ok ok) sv sEi)) (sEl ok sLn)) sLn yT) yT)) ⟨(tg1 yT), (tg1 yT), trivial⟩ (fun _ _ => rfl) (envS fun _ => rfl))
    (sSc (sSi (simT_or (SimTs.cons (simT_and (SimTs.cons (sTc in_ok yF sv (sEu (fun _ _ => rfl) sv sv)) (SimTs.cons (sTc in_ok yF sv (sEu (fun _ _ => rfl) sv sv)) SimTs.nil))) (SimTs.cons (simT_and (SimTs.cons (sTc eq_ok yF sv sv) (SimTs.cons (sTc in_ok yF sv sv) SimTs.nil))) SimTs.nil))) (sSc (sSr sEo)
    sSn) sSn)
    (sSc (sSi (simT_and (SimTs.cons (sTc eq_ok yF sv sv) (SimTs.cons (sTc in_ok yF sv sv) SimTs.nil))) (sSc (sSr sEo)
    sSn) sSn)
    sSn))) (fun _ _ => rfl))
    (sSc (sSr sEo)
    sSn))
theorem sim_law_is_joined {X : Ctx} (ok : X.Ok) {fI : Addr} {ib : List Stmt} (co : CdO X fI ib) {P : Params} (hK : X.K = hd.heap_1 P) : SimF X 3 (Str.ofString "_law_is_joined") m_law_is_joined := by
  refine sFg ok hK (d := 2) (nm := [Str.ofString "code", Str.ofString "made", Str.ofString "live", Str.ofString "pairs", Str.ofString "book", Str.ofString "place", Str.ofString "to", Str.ofString "temp", Str.ofString "number"]) (k := 3) (n := 6) rfl rfl rfl ?_ (by intro _ h; apply len3 h; intros; rfl) (by kernel_rfl)
  exact (sSc (sSi (simT_or (SimTs.cons (sTc ne_ok yF (sEg ok (sL (sEa ok .rows sv (by rfl)) sLn yT) rfl ⟨(ns rfl), trivial⟩) (sEg ok (sL (sEa ok .rows sv (by rfl)) sLn yT) rfl ⟨(ns rfl), trivial⟩)) (SimTs.cons (sTc ne_ok yF (sEg ok (sL (sEa ok .trys sv (by rfl)) sLn yT) rfl ⟨(ns rfl), trivial⟩) (sEg ok (sL (sEa ok .trys sv (by rfl)) sLn yT) rfl ⟨(ns rfl), trivial⟩)) (SimTs.cons (sTc ne_ok yF (sEg ok (sL (sEa ok .lives sv (by rfl)) sLn yT) rfl ⟨(ns rfl), trivial⟩) (sEg ok (sL (sEa ok .lives sv (by rfl)) sLn yT) rfl ⟨(ns rfl), trivial⟩)) SimTs.nil)))) (sSc (sSr sEo)
    sSn) sSn)
    (sSc (sS (cE ok (sim_law_pairs ok co hK) yT (sL sv (sL sv sLn yT) yT) yT) yT (fun _ _ => rfl))
    (sSc (sS (simE_dictOf ok (sL sv sLn yT) rfl ⟨(ns rfl), trivial⟩) yT (fun _ _ => rfl))
    (sSc (sSi (sTc ne_ok yF (simE_comp ok (nmI := [Str.ofString "pair", Str.ofString "book"]) (cpO (by decide +kernel)) sv ⟨by rfl, rfl⟩ (SimTs.cons (sTc ne_ok yF (sEu (fun _ _ => rfl) sv (sEu (fun _ _ => rfl) sv sEi)) (sEu (fun _ _ => rfl) sv sEi)) SimTs.nil) sv (fun _ _ => rfl)) (sEl ok sLn)) (sSc (sSr sEo)
    sSn) sSn)
    (sSc (sSi (sTc ne_ok yF (simE_sorted ok (sL (simE_comp ok (nmI := [Str.ofString "number", Str.ofString "book"]) (cpO (by decide +kernel)) (sEr ok (sL (sEa ok .temps sv (by rfl)) sLn yT) rfl ⟨(ns rfl), trivial⟩) ⟨by rfl, rfl⟩ (SimTs.cons (sTc in_ok yF sv (simE_values sv  (fun _ => rfl) rfl)) SimTs.nil) sv (fun _ _ => rfl)) sLn yT) rfl ⟨(ns rfl), trivial⟩) (simE_listOf ok (sL (sEr ok (sL (sEa ok .temps sv (by rfl)) sLn yT) rfl ⟨(ns rfl), trivial⟩) sLn yT) rfl ⟨(ns rfl), trivial⟩)) (sSc (sSr sEo)
    sSn) sSn)
    (sSc (sSi (sTc ne_ok yF (simE_comp ok (nmI := [Str.ofString "number", Str.ofString "made"]) (cpO (by decide +kernel)) (simE_values sv  (fun _ => rfl) rfl) ⟨by rfl, rfl⟩ (SimTs.cons (simT_not (simT_chain le_ok lt_ok sEi sv (sEa ok .temps sv (by rfl)) (by rfl))) SimTs.nil) sv (fun _ _ => rfl)) (sEl ok sLn)) (sSc (sSr sEo)
    sSn) sSn)
    (sSc (sSi (simT_or (SimTs.cons (sTc ne_ok yF (sEa ok .rows sv (by rfl)) (simE_comp ok (nmI := [Str.ofString "row", Str.ofString "book"]) (cpO (by decide +kernel)) (sEa ok .rows sv (by rfl)) ⟨by rfl, rfl⟩ SimTs.nil (cE ok (sim_law_new_row ok co hK) yT (sL sv (sL sv sLn yT) yT) yT) (fun _ _ => rfl))) (SimTs.cons (sTc ne_ok yF (sEa ok .names sv (by rfl)) (sEa ok .names sv (by rfl))) SimTs.nil))) (sSc (sSr sEo)
    sSn) sSn)
    (sSc (sSi (sTc ne_ok yF (simE_comp ok (nmI := [Str.ofString "held"]) (cpO (by decide +kernel)) (sEa ok .trys sv (by rfl)) ⟨by rfl, rfl⟩ SimTs.nil (simE_take sv (by rfl)) (fun _ _ => rfl)) (simE_comp ok (nmI := [Str.ofString "held"]) (cpO (by decide +kernel)) (sEa ok .trys sv (by rfl)) ⟨by rfl, rfl⟩ SimTs.nil (simE_take sv (by rfl)) (fun _ _ => rfl))) (sSc (sSr sEo)
    sSn) sSn)
    (sSc (sSi (sTc ne_ok yF (simE_comp ok (nmI := [Str.ofString "held"]) (cpO (by decide +kernel)) (sEa ok .lives sv (by rfl)) ⟨by rfl, rfl⟩ SimTs.nil (simE_drop sv (by rfl)) (fun _ _ => rfl)) (simE_comp ok (nmI := [Str.ofString "held"]) (cpO (by decide +kernel)) (sEa ok .lives sv (by rfl)) ⟨by rfl, rfl⟩ SimTs.nil (simE_drop sv (by rfl)) (fun _ _ => rfl))) (sSc (sSr sEo)
    sSn) sSn)
    (sSc (sSf (sEr ok (sL (sEg ok (sL (sEa ok .rows sv (by rfl)) sLn yT) rfl ⟨(ns rfl), trivial⟩) sLn yT) rfl ⟨(ns rfl), trivial⟩) (tg1 yT) (sSc (sS (sEu (fun _ _ => rfl) (sEu (fun _ _ => rfl) (sEa ok .rows sv (by rfl)) sv) sEi) yT (fun _ _ => rfl))
    (sSc (sSi (simT_not (sTv (cE ok (sim_law_are_apart ok co hK) yT (sL sv (sL (sEu (fun _ _ => rfl) sv sv) sLn yT) yT) yT) (fun _ _ => rfl))) (sSc (sSr sEo)
    sSn) sSn)
    (sSc (sSi (simT_and (SimTs.cons (sTc isNot_ok yF sv sEn) (SimTs.cons (sTc lt_ok yF (sEb (add_ok ok) sv sEi) (sEg ok (sL (sEa ok .rows sv (by rfl)) sLn yT) rfl ⟨(ns rfl), trivial⟩)) SimTs.nil))) (sSc (sSi (simT_not (sTv (cE ok (sim_law_are_apart ok co hK) yT (sL sv (sL (sEb (add_ok ok) (simE_comp ok (nmI := [Str.ofString "temp", Str.ofString "to"]) (cpO (by decide +kernel)) (sEu (fun _ _ => rfl) sv (sEb (add_ok ok) sv sEi)) ⟨by rfl, rfl⟩ (SimTs.cons (sTc ne_ok yF sv sv) SimTs.nil) sv (fun _ _ => rfl)) (sEl ok (sL sv sLn yT))) sLn yT) yT) yT) (fun _ _ => rfl))) (sSc (sSr sEo)
    sSn) sSn)
    sSn) sSn)
    sSn))) (fun _ _ => rfl))
    (sSc (sSf sv (tg1 yT) (sSc (sSf (sEr ok (sL (sEu (fun _ _ => rfl) sv sv) sLn yT) rfl ⟨(ns rfl), trivial⟩) (tg1 yT) (sSc (sSi (sTc eq_ok yF (simE_comp ok (nmI := [Str.ofString "other", Str.ofString "number", Str.ofString "code", Str.ofString "live", Str.ofString "temp", Str.ofString "book"]) (cpO (by decide +kernel)) sv ⟨by rfl, rfl⟩ (SimTs.cons (simT_and (SimTs.cons (sTc eq_ok yF (sEu (fun _ _ => rfl) sv sv) sv) (SimTs.cons (sTv (cE ok (sim_law_do_clash ok co hK) yT (sL sv (sL sv (sL sv (sL sv sLn yT) yT) yT) yT) yT) (fun _ _ => rfl)) SimTs.nil))) SimTs.nil) sv (fun _ _ => rfl)) (sEl ok sLn)) (sSc (sSr sEo)
    sSn) sSn)
    sSn) (fun _ _ => rfl))
    sSn) (fun _ _ => rfl))
    (sSc (sSr sEo)
    sSn))))))))))))
noncomputable def nm_law : List Str := [Str.ofString "script", Str.ofString "at", Str.ofString "many", Str.ofString "rows", Str.ofString "trys", Str.ofString "lives", Str.ofString "first", Str.ofString "tape", Str.ofString "code", Str.ofString "live", Str.ofString "made"]
theorem sim_law {X : Ctx} (ok : X.Ok) {fI : Addr} {ib : List Stmt} (co : CdO X fI ib) {P : Params} (hK : X.K = hd.heap_1 P) {sc : Scope} {st : Stmt} {body : List Stmt} {f : Addr} {o : Obj} {fd : FuncData} (hg : nsIn X.K mainGlobals (Str.ofString "law") = some (some (.ref f))) (ho : X.K.lookup f = some o) (hf : o.data = .func fd)
    (hbd : fd.body = .stmts (st :: body)) (hsc : fd.scope = sc) : SimSs X 16 nm_law sc body b_law.run := by
  rw [hK] at hg ho
  cases hg
  cases ho
  cases hf
  cases hbd
  cases hsc
  exact (sSc (sS (sEl ok (sL sEi sLn yT)) yT (fun _ _ => rfl))
    (sSc (sS (sEb (add_ok ok) sEi (cE ok (slD ok co hK) yT (sL sv (sL sv (sL sEi sLn yT) yT) yT) yT)) yT (fun _ _ => rfl))
    (sSc (simS_setComp ok (nmI := [Str.ofString "k", Str.ofString "script", Str.ofString "at", Str.ofString "many"]) (cpO (by decide +kernel)) (sEr ok (sL sv sLn yT) rfl ⟨(ns rfl), trivial⟩) ⟨by rfl, rfl⟩ SimTs.nil (cE ok (sim_law_row ok co hK) yT (sL sv (sL sv (sL sv sLn yT) yT) yT) yT) (fun _ _ => rfl) (by rfl) rfl (envS fun _ => rfl))
    (sSc (simS_swap (names := [Str.ofString "trys", Str.ofString "lives"]) (sEt (sL (cE ok (sim_law_trys ok co hK) yT (sL sv (sL sv (sL sv sLn yT) yT) yT) yT) (sL (sEl ok sLn) sLn yT) yT)) ⟨(tg1 yT), (tg1 yT), trivial⟩ (fun _ _ => rfl) (envS fun _ => rfl))
    (sSc (sSi (sTc eq_ok yF (cE ok (slD ok co hK) yT (sL sv (sL sv (sL sEi sLn yT) yT) yT) yT) sEi) (sSc (sS (cE ok (slD ok co hK) yT (sL sv (sL sv (sL sv sLn yT) yT) yT) yT) yT (fun _ _ => rfl))
    (sSc (sSd (sEp sv (sEt (sL (cE ok (slD ok co hK) yT (sL sv (sL sv (sL sEi sLn yT) yT) yT) yT) (sL sv (sL (sEb (add_ok ok) (sEb (add_ok ok) sv sEi) (cE ok (slD ok co hK) yT (sL sv (sL sv (sL (sEb sub_int_ok sv sv) sLn yT) yT) yT) yT)) (sL (sEs (by rfl)) sLn yT) yT) yT) yT)) (ns rfl) (fun _ => rfl) rfl) (fun _ => rfl))
    sSn)) sSn)
    (sSc (simS_setComp ok (nmI := [Str.ofString "k", Str.ofString "script", Str.ofString "at"]) (cpO (by decide +kernel)) (sEr ok (sL sEi sLn yT) rfl ⟨(ns rfl), trivial⟩) ⟨by rfl, rfl⟩ SimTs.nil (sEu (fun _ _ => rfl) (sEl ok (sL sEn (sL (sEs (by rfl)) sLn yT) yT)) (cE ok (slD ok co hK) yT (sL sv (sL sv (sL sEi sLn yT) yT) yT) yT)) (fun _ _ => rfl) (by rfl) rfl (envS fun _ => rfl))
    (sSc (sS (simE_new ok co (sL (simE_listOf ok (sL sv sLn yT) rfl ⟨(ns rfl), trivial⟩) (sL (sEl ok (sL (sEs (by rfl)) (sL (sEs (by rfl)) sLn yT) yT)) (sL sEi (sL (simE_listOf ok (sL sv sLn yT) rfl ⟨(ns rfl), trivial⟩) (sL (simE_listOf ok (sL sv sLn yT) rfl ⟨(ns rfl), trivial⟩) sLn yT) yT) yT) yT) yT) rfl ⟨(ns rfl), (ns rfl), (ns rfl), (ns rfl), (ns rfl), trivial⟩) yT (fun _ _ => rfl))
    (sSc (simS_setComp ok (nmI := [Str.ofString "place", Str.ofString "code"]) (cpO (by decide +kernel)) (sEr ok (sL sv sLn yT) rfl ⟨(ns rfl), trivial⟩) ⟨by rfl, rfl⟩ SimTs.nil (cE ok (sim_law_live ok co hK) yT (sL sv (sL sv sLn yT) yT) yT) (fun _ _ => rfl) (by rfl) rfl (envS fun _ => rfl))
    (sSc (sSi (sTc ne_ok yF (simE_comp ok (nmI := [Str.ofString "book"]) (cpO (by decide +kernel)) (cE ok (sim_live_at ok co hK) yT (sL sv sLn yT) yT) ⟨by rfl, rfl⟩ SimTs.nil (simE_sorted ok (sL sv sLn yT) rfl ⟨(ns rfl), trivial⟩) (fun _ _ => rfl)) sv) (sSc (sSr sEo)
    sSn) sSn)
    (sSc (sS (cE ok (sim_joined ok co hK) yT (sL sv sLn yT) yT) yT (fun _ _ => rfl))
    (sSc (sSi (simT_or (SimTs.cons (simT_not (sTv (cE ok (sim_law_is_joined ok co hK) yT (sL sv (sL sv (sL sv sLn yT) yT) yT) yT) (fun _ _ => rfl))) (SimTs.cons (sTc ne_ok yF (cE ok (sim_law_told ok co hK) yT (sL sv (sL sv sLn yT) yT) yT) (cE ok (sim_law_told ok co hK) yT (sL sv (sL sv sLn yT) yT) yT)) SimTs.nil))) (sSc (sSr sEo)
    sSn) sSn)
    (sSc (sSr (simE_and3 (simE_cmp eq_ok (by rfl) (sEa ok .rows sv (by rfl)) sv) (simE_cmp eq_ok (by rfl) (sEa ok .trys sv (by rfl)) sv) (simE_cmp eq_ok (by rfl) (sEa ok .lives sv (by rfl)) sv)))
    sSn))))))))))))
end
section
set_option maxRecDepth 20000
theorem c_true {a b : Prop} (h : a) : cond true a b := h
theorem c_false {a b : Prop} (h : b) : cond false a b := h
theorem cbo {c : Bool} {a b : Prop} (h : c = true → a) (g : c = false → b) : cond c a b := by cases c; exact g rfl; exact h rfl
theorem c_t {c : Bool} {a b : Prop} (h : c = true) (p : a) : cond c a b := by subst h; exact p
theorem c_f {c : Bool} {a b : Prop} (h : c = false) (p : b) : cond c a b := by subst h; exact p
theorem oV_i {o : Option V} {v σ} {Q : V → H → Prop} (h : o = some v) (q : Q v σ) : oV o σ Q := by subst h; exact q
theorem nth_ne {v} : ∀ {ρ : R} {i j : Nat}, i ≠ j → nth (ρ.set i v) j = nth ρ j := by
  intro ρ i j h
  rw [← nth_join, ← nth_join, List.getElem?_set_ne h]
theorem nth_self {v} {ρ : R} {i : Nat} (h : i < ρ.length) : nth (ρ.set i (some v)) i = some v := by
  rw [← nth_join, List.getElem?_set_self h]; rfl
theorem Wsq {a b : Sw} {ρ σ N T} (h : a ρ σ (kS b N T) T) : Wq a b ρ σ N T := ⟨h⟩
theorem Wsc {a b : Sw} {ρ σ N T} (M : R → H → Prop) (h : ∀ N', Imp M N' → a ρ σ N' T) (k : ∀ ρ σ, M ρ σ → b ρ σ N T) : Wq a b ρ σ N T := ⟨h _ k⟩
theorem Ws_for' {t : Tg} {src : Ew} {b : Sw} {ρ σ N T} (h : src ρ σ (For t b ρ N T)) : Wf t src b ρ σ N T := ⟨h⟩
theorem We_comp {k caps t} {src : Ew} {ts : Tw} {elt : Ew} {ρ σ Q} (h : src ρ σ (Cm t ts elt (cR k caps ρ) Q)) : Wc k caps t src ts elt ρ σ Q := ⟨h⟩
theorem for0 {t b ρ N T v σ kd} (h0 : itemsOf v σ = some (kd, [])) (h : N ρ σ) : For t b ρ N T v σ :=
  ⟨kd, [], fun _ ρ' σ' => ρ' = ρ ∧ σ' = σ, ⟨rfl, rfl⟩, fun _ _ _ e => (by rw [e.2]; exact h0), fun _ _ _ _ _ _ e => (by cases e), fun _ _ e => by rw [e.1, e.2]; exact h⟩
theorem for1 {t b ρ N T v σ kd} {x : V} (h0 : itemsOf v σ = some (kd, [x])) (h : ∀ N', Imp (fun ρ σ => itemsOf v σ = some (kd, [x]) ∧ N ρ σ) N' → Trn t b x ρ σ N' T) : For t b ρ N T v σ := by
  refine ⟨kd, [x], fun i ρ' σ' => itemsOf v σ' = some (kd, [x]) ∧ (i = 0 → ρ' = ρ ∧ σ' = σ) ∧ (i = 1 → N ρ' σ'), ⟨h0, fun _ => ⟨rfl, rfl⟩, nofun⟩, fun _ _ _ e => e.1, fun i y ρ' σ' N' hN hx e => ?_, fun _ _ e => e.2.2 rfl⟩
  match i, hx with
  | 0, hx =>
    cases hx
    obtain ⟨rfl, rfl⟩ := e.2.1 rfl
    exact h N' fun _ _ q => hN _ _ ⟨q.1, nofun, fun _ => q.2⟩
theorem for2 {t b ρ N T v σ kd} {x y : V} (h0 : ∀ σ, itemsOf v σ = some (kd, [x, y])) (h : ∀ N1, Imp (fun ρ σ => ∀ N2, Imp N N2 → Trn t b y ρ σ N2 T) N1 → Trn t b x ρ σ N1 T) : For t b ρ N T v σ := by
  refine ⟨kd, [x, y], fun i ρ' σ' => (i = 0 → ρ' = ρ ∧ σ' = σ) ∧ (i = 1 → ∀ N2, Imp N N2 → Trn t b y ρ' σ' N2 T) ∧ (i = 2 → N ρ' σ'), ⟨fun _ => ⟨rfl, rfl⟩, nofun, nofun⟩, fun _ _ _ _ => h0 _, fun i z ρ' σ' N' hN hx e => ?_, fun _ _ e => e.2.2 rfl⟩
  match i, hx with
  | 0, hx =>
    cases hx
    obtain ⟨rfl, rfl⟩ := e.1 rfl
    exact h N' fun _ _ q => hN _ _ ⟨nofun, fun _ => q, nofun⟩
  | 1, hx =>
    cases hx
    exact e.2.1 rfl N' fun _ _ q => hN _ _ ⟨nofun, nofun, fun _ => q⟩
noncomputable def kQc (Q : V → H → Prop) (acc : List V) (_ : R) (σ : H) : Prop := Q (.ref σ.length) (σ ++ [.list acc])
theorem cm2 {t ts elt ρ Q v σ kd} {x y : V} (h0 : ∀ σ, itemsOf v σ = some (kd, [x, y])) (h : ∀ J1, JImp (fun acc ρ σ => ∀ J2, JImp (kQc Q) J2 → oR (t.bind y ρ) σ (kC0 ts elt acc J2)) J1 → oR (t.bind x ρ) σ (kC0 ts elt [] J1)) : Cm t ts elt ρ Q v σ := by
  refine ⟨kd, [x, y], Nat.le_of_ble_eq_true rfl, fun i acc ρ' σ' => (i = 0 → acc = [] ∧ ρ' = ρ ∧ σ' = σ) ∧ (i = 1 → ∀ J2, JImp (kQc Q) J2 → oR (t.bind y ρ') σ' (kC0 ts elt acc J2)) ∧ (i = 2 → kQc Q acc ρ' σ'), ⟨fun _ => ⟨rfl, rfl, rfl⟩, nofun, nofun⟩, fun _ _ _ _ _ => h0 _, fun i z acc ρ' σ' N' hN hx e => ?_, fun _ _ _ e => e.2.2 rfl⟩
  match i, hx with
  | 0, hx =>
    cases hx
    obtain ⟨rfl, rfl, rfl⟩ := e.1 rfl
    exact h N' fun _ _ _ q => hN _ _ _ ⟨nofun, fun _ => q, nofun⟩
  | 1, hx =>
    cases hx
    exact e.2.1 rfl N' fun _ _ _ q => hN _ _ _ ⟨nofun, nofun, fun _ => q⟩
theorem Ws_wh {t : Tw} {b : Sw} {N T} (Inv : Nat → R → H → Prop) (hs : ∀ m ρ σ J, (∀ k, Imp (Inv k) (J k)) → Inv m ρ σ → t ρ σ (kWh b J N T m ρ)) (f m : Nat) (ρ : R) (σ : H) (hm : m < f) (h0 : Inv m ρ σ) : Ww t b f ρ σ N T :=
  ⟨Inv, m, hm, h0, fun m ρ σ h => hs m ρ σ Inv (fun _ => Imp.rfl) h⟩
theorem m1 {α : Type} {x : α} {l : List α} : x ∈ x :: l := .head _
theorem m2 {α : Type} {x y : α} {l : List α} : y ∈ x :: y :: l := .tail _ (.head _)
theorem no_to {P : Nat → Prop} : ∀ t, (none : Option Nat) = some t → P t := fun _ e => nosm e
theorem is_to {P : Nat → Prop} {k : Nat} (h : P k) : ∀ t, some k = some t → P t := fun _ e => so1 e h
theorem al0 {α : Type} {P : α → Prop} : ∀ o ∈ ([] : List α), P o := fun _ h => nomatch h
theorem al1 {α : Type} {P : α → Prop} {x : α} (h : P x) : ∀ o ∈ [x], P o := fun o ho => by rw [List.mem_singleton.mp ho]; exact h
theorem al2 {α : Type} {P : α → Prop} {x y : α} (h : P x) (g : P y) : ∀ o ∈ [x, y], P o := fun o ho => by
  rcases List.mem_cons.mp ho with e | e
  · rw [e]; exact h
  · exact al1 g o e
theorem cov_t {f k p : Nat} (h1 : decide ((f : Int) ≤ (p : Int)) = true) (h2 : decide ((p : Int) < (k : Int)) = true) : (decide (f ≤ p) && decide (p < k)) = true := by
  rw [decide_eq_true (Int.ofNat_le.mp (of_decide_eq_true h1)), decide_eq_true (Int.ofNat_lt.mp (of_decide_eq_true h2))]; rfl
theorem cov_1 {f k p : Nat} (h1 : decide ((f : Int) ≤ (p : Int)) = false) : (decide (f ≤ p) && decide (p < k)) = false := by
  rw [decide_eq_false fun h => of_decide_eq_false h1 (Int.ofNat_le.mpr h)]; rfl
theorem cov_2 {f k p : Nat} (h2 : decide ((p : Int) < (k : Int)) = false) : (decide (f ≤ p) && decide (p < k)) = false := by
  rw [decide_eq_false (p := p < k) fun h => of_decide_eq_false h2 (Int.ofNat_lt.mpr h), Bool.and_false]
noncomputable def Ext (σ σ' : H) : Prop := ∃ τ, σ' = σ ++ τ
theorem Ext.refl {σ} : Ext σ σ := ⟨[], by simp⟩
theorem Ext.trans {a b c : H} (x : Ext a b) (y : Ext b c) : Ext a c := by
  obtain ⟨t, rfl⟩ := x; obtain ⟨u, rfl⟩ := y; exact ⟨t ++ u, by simp⟩
theorem Ext.len {a b : H} (x : Ext a b) : a.length ≤ b.length := by obtain ⟨t, rfl⟩ := x; simp
theorem get_lt {σ : H} {n : Nat} {o} (h : σ[n]? = some o) : n < σ.length := (List.getElem?_eq_some_iff.mp h).1
theorem Ext.get {a b : H} (x : Ext a b) {n : Nat} {o} (h : a[n]? = some o) : b[n]? = some o := by
  obtain ⟨t, rfl⟩ := x; rw [List.getElem?_append_left (get_lt h)]; exact h
theorem Ext.snoc {a b : H} {o} (x : Ext a b) : Ext a (b ++ [o]) := x.trans ⟨_, rfl⟩
theorem Ext.one {a : H} {o} : Ext a (a ++ [o]) := ⟨_, rfl⟩
theorem Ext.set {a b : H} {n o} (x : Ext a b) (h : a.length ≤ n) : Ext a (b.set n o) := by
  obtain ⟨t, rfl⟩ := x
  exact ⟨t.set (n - a.length) o, by rw [List.set_append_right (h := h)]⟩
theorem Ext.same {a b : H} (x : Ext a b) {n : Nat} (h : n < a.length) : b[n]? = a[n]? := by
  obtain ⟨t, rfl⟩ := x; rw [List.getElem?_append_left h]
theorem sng {σ : H} {o} : (σ ++ [o])[σ.length]? = some o := by simp
theorem upg {σ : H} {n : Nat} {o o'} (h : σ[n]? = some o') : (σ.set n o)[n]? = some o := by rw [List.getElem?_set_self (get_lt h)]
theorem upd_ne {σ : H} {n m : Nat} {o} (h : n ≠ m) : (σ.set n o)[m]? = σ[m]? := by rw [List.getElem?_set_ne h]
theorem upd_ne' {σ : H} {n m : Nat} {o x} (h : n ≠ m) (e : σ[m]? = some x) : (σ.set n o)[m]? = some x := by rw [List.getElem?_set_ne h]; exact e
theorem We_tup {vs σ} {Q : V → H → Prop} (hl : vs.length ≤ 1000) (q : Q (.tup vs) σ) : We (vTup vs σ) Q := ⟨_, _, by unfold vTup; rw [if_pos hl], q⟩
theorem We_list {vs σ} {Q : V → H → Prop} (hl : vs.length ≤ 100000) (q : Q (.ref σ.length) (σ ++ [.list vs])) : We (vList vs σ) Q := ⟨_, _, by unfold vList; rw [if_pos hl], q⟩
theorem We_idxL {n σ} {k : Nat} {i : Int} {vs v} {Q : V → H → Prop} (h : σ[n]? = some (.list vs)) (hv : vs[k]? = some v) (hi : i = k) (hl : vs.length ≤ 100000) (q : Q v σ) : We (vIdx (.ref n) (.int i) σ) Q := by
  have hk := (List.getElem?_eq_some_iff.mp hv).1
  subst hi
  refine ⟨v, σ, ?_, q⟩
  show oLI σ[n]? _ _ = _
  rw [h]
  show (if _ then vs[(k : Int).toNat]?.bind (ret1 σ) else none) = _
  rw [if_pos ⟨by lia, by lia, hl⟩, Int.toNat_natCast, hv]; rfl
theorem We_idxT {σ} {k : Nat} {i : Int} {vs v} {Q : V → H → Prop} (hv : vs[k]? = some v) (hi : i = k) (hl : vs.length ≤ 100000) (q : Q v σ) : We (vIdx (.tup vs) (.int i) σ) Q := by
  have hk := (List.getElem?_eq_some_iff.mp hv).1
  subst hi
  refine ⟨v, σ, ?_, q⟩
  show (if _ then vs[(k : Int).toNat]?.bind (ret1 σ) else none) = _
  rw [if_pos ⟨by lia, by lia, hl⟩, Int.toNat_natCast, hv]; rfl
theorem We_idxD {n σ} {k : Int} {kvs v} {Q : V → H → Prop} (h : σ[n]? = some (.dictI kvs)) (hv : look kvs k = some v) (q : Q v σ) : We (vIdx (.ref n) (.int k) σ) Q :=
  ⟨v, σ, by show oLI σ[n]? _ _ = _; rw [h]; show (look kvs k).bind _ = _; rw [hv]; rfl, q⟩
theorem We_idxS {n σ} {k : List Nat} {kvs v} {Q : V → H → Prop} (h : σ[n]? = some (.dictS kvs)) (hv : look kvs k = some v) (q : Q v σ) : We (vIdx (.ref n) (.str k) σ) Q :=
  ⟨v, σ, by show oS σ[n]? _ = _; rw [h]; show (look kvs k).bind _ = _; rw [hv]; rfl, q⟩
theorem We_attr {f : Fd} {n k σ r nn t y l} {Q : V → H → Prop} (h : σ[n]? = some (.inst k)) (hk : σ[k]? = some (.attrs r nn t y l)) (q : Q (f.pick r nn t y l) σ) : We (vAttr f (.ref n) σ) Q :=
  ⟨_, σ, by show oK σ[n]? _ = _; rw [h]; show oA σ[k]? _ = _; rw [hk]; rfl, q⟩
theorem We_len {n σ vs} {Q : V → H → Prop} (h : σ[n]? = some (.list vs)) (hl : vs.length ≤ 100000) (q : Q (.int vs.length) σ) : We (vLen [.ref n] σ) Q := ⟨_, σ, by show oLI σ[n]? _ _ = _; rw [h]; exact if_pos hl, q⟩
theorem We_lenD {n σ kvs} {Q : V → H → Prop} (h : σ[n]? = some (.dictI kvs)) (hl : kvs.length ≤ 100000) (q : Q (.int kvs.length) σ) : We (vLen [.ref n] σ) Q := ⟨_, σ, by show oLI σ[n]? _ _ = _; rw [h]; exact if_pos hl, q⟩
theorem We_lenS {l : List Nat} {σ} {Q : V → H → Prop} (hl : l.length ≤ 100000) (q : Q (.int l.length) σ) : We (vLen [.str l] σ) Q := ⟨_, σ, if_pos hl, q⟩
theorem Wap {n σ vs v} {Q : V → H → Prop} (h : σ[n]? = some (.list vs)) (hl : vs.length ≤ 100000) (q : Q .none (σ.set n (.list (vs ++ [v])))) : We (vAppend (.ref n) [v] σ) Q := ⟨_, _, by show oL σ[n]? _ = _; rw [h]; exact if_pos hl, q⟩
theorem We_extend {n m σ vs us} {Q : V → H → Prop} (h : σ[n]? = some (.list vs)) (h' : σ[m]? = some (.list us)) (hn : n ≠ m) (hl : vs.length + us.length ≤ 100000) (q : Q .none (σ.set n (.list (vs ++ us)))) : We (vExtend (.ref n) [.ref m] σ) Q :=
  ⟨_, _, by show oL σ[n]? _ = _; rw [h]; show oL σ[m]? _ = _; rw [h']; exact if_pos ⟨hn, hl⟩, q⟩
theorem We_addL {n m σ vs us} {Q : V → H → Prop} (h : σ[n]? = some (.list vs)) (h' : σ[m]? = some (.list us)) (hl : vs.length + us.length ≤ 100000) (q : Q (.ref σ.length) (σ ++ [.list (vs ++ us)])) : We (vAdd (.ref n) (.ref m) σ) Q :=
  ⟨_, _, by show oL σ[n]? _ = _; rw [h]; show oL σ[m]? _ = _; rw [h']; exact if_pos hl, q⟩
theorem We_listOf {v σ kd xs} {Q : V → H → Prop} (h : itemsOf v σ = some (kd, xs)) (hl : xs.length ≤ 100000) (q : Q (.ref σ.length) (σ ++ [.list xs])) : We (vListOf [v] σ) Q := ⟨_, _, by show (itemsOf v σ).bind _ = _; rw [h]; exact if_pos hl, q⟩
theorem We_tupleOf {n σ xs} {Q : V → H → Prop} (h : σ[n]? = some (.list xs)) (hl : xs.length ≤ 1000) (q : Q (.tup xs) σ) : We (vTupleOf [.ref n] σ) Q := ⟨_, _, by show oL σ[n]? _ = _; rw [h]; exact if_pos hl, q⟩
theorem We_get {n σ kvs i dv} {Q : V → H → Prop} (h : σ[n]? = some (.dictI kvs)) (q : Q ((look kvs i).getD dv) σ) : We (vGet (.ref n) [.int i, dv] σ) Q := ⟨_, _, by show oIS σ[n]? _ _ = _; rw [h]; rfl, q⟩
theorem We_getN {n σ kvs dv} {Q : V → H → Prop} (h : σ[n]? = some (.dictI kvs)) (q : Q dv σ) : We (vGet (.ref n) [.none, dv] σ) Q := ⟨_, _, by show oIS σ[n]? _ _ = _; rw [h]; rfl, q⟩
theorem We_getS {n σ kvs} {x : List Nat} {dv} {Q : V → H → Prop} (h : σ[n]? = some (.dictS kvs)) (q : Q ((look kvs x).getD dv) σ) : We (vGet (.ref n) [.str x, dv] σ) Q := ⟨_, _, by show oIS σ[n]? _ _ = _; rw [h]; rfl, q⟩
theorem ty_list {n σ vs} (h : σ[n]? = some (.list vs)) : tyOf (.ref n) σ = some "list" := by show σ[n]?.bind _ = _; rw [h]; rfl
theorem ty_dict {n σ kvs} (h : σ[n]? = some (.dictI kvs)) : tyOf (.ref n) σ = some "dict" := by show σ[n]?.bind _ = _; rw [h]; rfl
theorem ty_dictS {n σ kvs} (h : σ[n]? = some (.dictS kvs)) : tyOf (.ref n) σ = some "dict" := by show σ[n]?.bind _ = _; rw [h]; rfl
theorem set_dict {n σ kvs} {k : Int} {v} (h : σ[n]? = some (.dictI kvs)) (hl : kvs.length ≤ 100000) : vSet (.ref n) (.int k) v σ = some (σ.set n (.dictI (put kvs k v))) := by show oLI σ[n]? _ _ = _; rw [h]; exact if_pos hl
theorem set_list {n σ vs} {k : Nat} {i : Int} {v} (h : σ[n]? = some (.list vs)) (hi : i = k) (hk : k < vs.length) (hl : vs.length ≤ 100000) : vSet (.ref n) (.int i) v σ = some (σ.set n (.list (vs.set k v))) := by
  subst hi
  show oLI σ[n]? _ _ = _
  rw [h]
  show (if _ then some (σ.set n (.list (vs.set (k : Int).toNat v))) else none) = _
  rw [if_pos ⟨by lia, by lia, hl⟩, Int.toNat_natCast]
theorem set_dictS {n σ kvs} {k : List Nat} {v} (h : σ[n]? = some (.dictS kvs)) (hl : kvs.length ≤ 100000) : vSet (.ref n) (.str k) v σ = some (σ.set n (.dictS (put kvs k v))) := by show oS σ[n]? _ = _; rw [h]; exact if_pos hl
theorem itl {n σ vs} (h : σ[n]? = some (.list vs)) : itemsOf (.ref n) σ = some (.list, vs) := by unfold itemsOf; dsimp only; rw [h]
theorem it_dict {n σ kvs} (h : σ[n]? = some (.dictI kvs)) : itemsOf (.ref n) σ = some (.dict, kvs.map fun p => .int p.1) := by unfold itemsOf; dsimp only; rw [h]
theorem it_vals {n σ kvs} (h : σ[n]? = some (.dictI kvs)) : itemsOf (.vals n) σ = some (.vals, kvs.map fun p => p.2) := by unfold itemsOf; dsimp only; rw [h]
theorem strOk_l (l : List Nat) : PyData.strOk (strV l) = l.all (· < 0x110000) := by simp [PyData.strOk, strV]
noncomputable def okS : List Nat → Bool
  | [] => true
  | c :: r => Nat.ble c 1114111 && okS r
theorem okS_eq : ∀ l : List Nat, okS l = l.all (· < 0x110000)
  | [] => rfl
  | c :: r => by
    rw [okS, okS_eq r, List.all_cons]
    congr 1
    rw [Bool.eq_iff_iff, Nat.ble_eq, decide_eq_true_iff]
    lia
theorem lay_str {l : List Nat} (h : okS l = true) : (PyData.str (strV l)).canLay0 = true := (strOk_l l).trans (okS_eq l ▸ h)
noncomputable def eqL : List Nat → List Nat → Bool
  | [], [] => true
  | a :: r, b :: s => Nat.beq a b && eqL r s
  | _, _ => false
theorem eqL_eq : ∀ a b : List Nat, eqL a b = (a == b)
  | [], [] => rfl
  | [], _ :: _ => rfl
  | _ :: _, [] => rfl
  | a :: r, b :: s => by
    rw [eqL, eqL_eq r s, List.cons_beq_cons]
    congr 1
    rw [Bool.eq_iff_iff, Nat.beq_eq, beq_iff_eq]
theorem toD_str {n σ l} : toD (n + 1) σ (.str l) = some (.str (strV l)) := rfl
theorem toD_int {n σ i} : toD (n + 1) σ (.int i) = some (.int i) := rfl
theorem strV_inj (a b : List Nat) : (strV a == strV b) = (a == b) := by
  have : strV a = strV b ↔ a = b := by constructor; intro h; simpa [strV] using h; rintro rfl; rfl
  rw [Bool.eq_iff_iff]; simp [this]
theorem eqB_str {a b : List Nat} {σ} (ha : okS a = true) (hb : okS b = true) : eqB σ (.str a) (.str b) = some (a == b) := by
  simp only [eqB, toD_str]
  rw [if_pos ⟨lay_str ha, lay_str hb⟩, PyData.eqv, strV_inj]
theorem neL {a b : List Nat} {P : Prop} (h : a = b) (e : eqL a b = false) : P := by
  subst h; rw [eqL_eq, beq_self_eq_true] at e; cases e
theorem We_eqS {a b : List Nat} {σ} {c : Bool} {Q : V → H → Prop} (ha : okS a = true) (hb : okS b = true) (hc : (a == b) = c) (q : Q (.bool c) σ) : We (vEq (.str a) (.str b) σ) Q := ⟨_, σ, by unfold vEq; rw [eqB_str ha hb, hc], q⟩
theorem We_neS {a b : List Nat} {σ} {c : Bool} {Q : V → H → Prop} (ha : okS a = true) (hb : okS b = true) (hc : (!(a == b)) = c) (q : Q (.bool c) σ) : We (vNe (.str a) (.str b) σ) Q := ⟨_, σ, by unfold vNe; rw [eqB_str ha hb]; dsimp only; rw [hc], q⟩
theorem eqB_int {a b : Int} {σ} : eqB σ (.int a) (.int b) = some (a == b) := by simp [eqB, toD, PyData.canLay0, PyData.eqv]
theorem We_eqI {a b : Int} {σ} {Q : V → H → Prop} (q : Q (.bool (a == b)) σ) : We (vEq (.int a) (.int b) σ) Q := ⟨_, σ, by unfold vEq; rw [eqB_int], q⟩
theorem We_neI {a b : Int} {σ} {Q : V → H → Prop} (q : Q (.bool !(a == b)) σ) : We (vNe (.int a) (.int b) σ) Q := ⟨_, σ, by unfold vNe; rw [eqB_int], q⟩
theorem We_eqN {b : Int} {σ} {Q : V → H → Prop} (q : Q (.bool false) σ) : We (vEq .none (.int b) σ) Q := ⟨_, σ, by simp [vEq, eqB, toD, PyData.canLay0, PyData.eqv], q⟩
theorem We_neN {b : Int} {σ} {Q : V → H → Prop} (q : Q (.bool true) σ) : We (vNe .none (.int b) σ) Q := ⟨_, σ, by simp [vNe, eqB, toD, PyData.canLay0, PyData.eqv], q⟩
theorem We_eqB {a b : Bool} {σ} {Q : V → H → Prop} (q : Q (.bool (a == b)) σ) : We (vEq (.bool a) (.bool b) σ) Q := ⟨_, σ, by simp [vEq, eqB, toD, PyData.canLay0, PyData.eqv], q⟩
theorem eqB_refl {σ a b d} (h1 : toD 16 σ a = some d) (h2 : toD 16 σ b = some d) (hc : d.canLay0 = true) : eqB σ a b = some true := by
  simp only [eqB, h1, h2, hc, and_self, if_true, SeqAt.eqv_refl d hc]
theorem We_neR {σ a b d} {Q : V → H → Prop} (h1 : toD 16 σ a = some d) (h2 : toD 16 σ b = some d) (hc : d.canLay0 = true) (q : Q (.bool false) σ) : We (vNe a b σ) Q := ⟨_, σ, by unfold vNe; rw [eqB_refl h1 h2 hc]; rfl, q⟩
theorem We_eqR {σ a b d} {Q : V → H → Prop} (h1 : toD 16 σ a = some d) (h2 : toD 16 σ b = some d) (hc : d.canLay0 = true) (q : Q (.bool true) σ) : We (vEq a b σ) Q := ⟨_, σ, by unfold vEq; rw [eqB_refl h1 h2 hc], q⟩
noncomputable def strsIn (a : List Nat) : List V → Option Bool
  | [] => some false
  | .str b :: r => match okS b, strsIn a r with
    | true, some c => some (eqL b a || c)
    | _, _ => none
  | _ :: _ => none
theorem strsIn_ok {a : List Nat} {n σ} : ∀ {vs : List V} {c}, strsIn a vs = some c → ∃ ds, toDs (toD (n + 1) σ) vs = some ds ∧ PyData.canLayAll0 ds = true ∧ (ds.any fun y => PyData.eqv y (.str (strV a))) = c
  | [], _, e => by cases e; exact ⟨[], rfl, rfl, rfl⟩
  | v :: r, c, e => by
    cases v <;> simp only [strsIn] at e <;> try (cases e; done)
    rename_i b
    split at e
    · rename_i c' hb hr
      cases e
      obtain ⟨ds, h1, h2, h3⟩ := strsIn_ok (n := n) (σ := σ) hr
      refine ⟨.str (strV b) :: ds, by simp only [toDs, toD_str, h1], ?_, ?_⟩
      · simp only [PyData.canLayAll0, lay_str hb, h2, Bool.and_true]
      · simp only [List.any_cons, PyData.eqv, strV_inj, h3, eqL_eq]
    · cases e
theorem vHas_i {x vs σ ds d b} (h1 : toDs (toD 15 σ) vs = some ds) (h2 : toD 16 σ x = some d) (c1 : PyData.canLayAll0 ds = true) (c2 : d.canLay0 = true) (h3 : (ds.any fun y => PyData.eqv y d) = b) : vHasO x vs σ = some b := by
  unfold vHasO
  rw [h1, h2]
  show vHas ds d = _
  unfold vHas
  rw [if_pos ⟨c1, c2⟩, h3]
theorem inB_strs {a : List Nat} {vs σ c} (ha : okS a = true) (h : strsIn a vs = some c) : vInB (.str a) (.tup vs) σ = some c := by
  obtain ⟨ds, h1, h2, h3⟩ := strsIn_ok (n := 14) (σ := σ) h
  exact vHas_i h1 toD_str h2 (lay_str ha) h3
theorem inB_strsL {a : List Nat} {n vs σ c} (hn : σ[n]? = some (.list vs)) (ha : okS a = true) (h : strsIn a vs = some c) : vInB (.str a) (.ref n) σ = some c := by
  obtain ⟨ds, h1, h2, h3⟩ := strsIn_ok (n := 14) (σ := σ) h
  show oLI σ[n]? _ _ = _
  rw [hn]
  exact vHas_i h1 toD_str h2 (lay_str ha) h3
theorem We_inS {a vs σ} (c : Bool) {Q : V → H → Prop} (ha : okS a = true) (h : strsIn a vs = some c) (q : Q (.bool c) σ) : We (vIn (.str a) (.tup vs) σ) Q := ⟨_, σ, by unfold vIn; rw [inB_strs ha h], q⟩
theorem We_niS {a vs σ} (c : Bool) {Q : V → H → Prop} (ha : okS a = true) (h : strsIn a vs = some c) (q : Q (.bool !c) σ) : We (vNotIn (.str a) (.tup vs) σ) Q := ⟨_, σ, by unfold vNotIn; rw [inB_strs ha h], q⟩
theorem We_inSL {a n vs σ} (c : Bool) {Q : V → H → Prop} (hn : σ[n]? = some (.list vs)) (ha : okS a = true) (h : strsIn a vs = some c) (q : Q (.bool c) σ) : We (vIn (.str a) (.ref n) σ) Q := ⟨_, σ, by unfold vIn; rw [inB_strsL hn ha h], q⟩
theorem We_inD {n kvs k σ} {Q : V → H → Prop} (hn : σ[n]? = some (.dictI kvs)) (q : Q (.bool (look kvs k).isSome) σ) : We (vIn (.int k) (.ref n) σ) Q := ⟨_, σ, by unfold vIn; rw [show vInB (.int k) (.ref n) σ = some (look kvs k).isSome by show oLI σ[n]? _ _ = _; rw [hn]; rfl], q⟩
theorem We_niD {n kvs k σ} {Q : V → H → Prop} (hn : σ[n]? = some (.dictI kvs)) (q : Q (.bool !(look kvs k).isSome) σ) : We (vNotIn (.int k) (.ref n) σ) Q := ⟨_, σ, by unfold vNotIn; rw [show vInB (.int k) (.ref n) σ = some (look kvs k).isSome by show oLI σ[n]? _ _ = _; rw [hn]; rfl], q⟩
theorem toDs_ints {n σ} : ∀ l : List Int, toDs (toD (n + 1) σ) (l.map .int) = some (l.map .int)
  | [] => rfl
  | i :: r => by simp only [List.map_cons, toDs, toD_int, toDs_ints r]
theorem lay_ints : ∀ l : List Int, PyData.canLayAll0 (l.map .int) = true
  | [] => rfl
  | i :: r => by rw [List.map_cons, PyData.canLayAll0, lay_ints r]; rfl
theorem any_ints (k : Int) : ∀ l : List Int, ((l.map PyData.int).any fun y => PyData.eqv y (.int k)) = l.contains k
  | [] => rfl
  | i :: r => by
    rw [List.map_cons, List.any_cons, any_ints k r, List.contains_cons, PyData.eqv, Bool.beq_comm]
theorem has_ints {k : Int} {l : List Int} {σ : H} : vHasO (.int k) (l.map .int) σ = some (l.contains k) := vHas_i (toDs_ints l) toD_int (lay_ints l) rfl (any_ints k l)
theorem inB_ints {n : Nat} {k : Int} {l : List Int} {σ : H} (hn : σ[n]? = some (.list (l.map .int))) : vInB (.int k) (.ref n) σ = some (l.contains k) := by
  show oLI σ[n]? _ _ = _
  rw [hn]
  exact has_ints
theorem inB_vals {n : Nat} {kvs} {l : List Int} {k : Int} {σ : H} (hn : σ[n]? = some (.dictI kvs)) (hv : kvs.map (·.2) = l.map V.int) : vInB (.int k) (.vals n) σ = some (l.contains k) := by
  show oI σ[n]? _ = _
  rw [hn]
  show vHasO _ (kvs.map (·.2)) _ = _
  rw [hv]
  exact has_ints
theorem We_inI {n : Nat} {k : Int} {l : List Int} {σ : H} {Q : V → H → Prop} (hn : σ[n]? = some (.list (l.map .int))) (q : Q (.bool (l.contains k)) σ) : We (vIn (.int k) (.ref n) σ) Q := ⟨_, σ, by unfold vIn; rw [inB_ints hn], q⟩
theorem We_niI {n : Nat} {k : Int} {l : List Int} {σ : H} {Q : V → H → Prop} (hn : σ[n]? = some (.list (l.map .int))) (q : Q (.bool !(l.contains k)) σ) : We (vNotIn (.int k) (.ref n) σ) Q := ⟨_, σ, by unfold vNotIn; rw [inB_ints hn], q⟩
theorem We_inVals {n : Nat} {kvs} {l : List Int} {k : Int} {σ : H} {Q : V → H → Prop} (hn : σ[n]? = some (.dictI kvs)) (hv : kvs.map (·.2) = l.map V.int) (q : Q (.bool (l.contains k)) σ) : We (vIn (.int k) (.vals n) σ) Q :=
  ⟨_, σ, by unfold vIn; rw [inB_vals hn hv], q⟩
theorem We_isN {v σ b} {Q : V → H → Prop} (h : isNone v = b) (q : Q (.bool b) σ) : We (vIs v .none σ) Q := ⟨_, σ, by cases v <;> exact congrArg (fun b => some (V.bool b, σ)) h, q⟩
theorem We_niN {v σ b} {Q : V → H → Prop} (h : isNone v = b) (q : Q (.bool !b) σ) : We (vIsNot v .none σ) Q := ⟨_, σ, by cases v <;> exact congrArg (fun b => some (V.bool !b, σ)) h, q⟩
theorem We_addI {a b σ} {Q : V → H → Prop} (q : Q (.int (a + b)) σ) : We (vAdd (.int a) (.int b) σ) Q := ⟨_, _, rfl, q⟩
theorem We_addI' {a b σ} {Q : V → H → Prop} (q : Q (.int (a + b)) σ) : We (vAddI (.int a) (.int b) σ) Q := ⟨_, _, rfl, q⟩
theorem We_subI {a b σ} {Q : V → H → Prop} (q : Q (.int (a - b)) σ) : We (vSub (.int a) (.int b) σ) Q := ⟨_, _, rfl, q⟩
theorem We_neg {a σ} {Q : V → H → Prop} (q : Q (.int (-a)) σ) : We (vNeg (.int a) σ) Q := ⟨_, _, rfl, q⟩
theorem We_lt {a b σ} {Q : V → H → Prop} (q : Q (.bool (decide (a < b))) σ) : We (vLt (.int a) (.int b) σ) Q := ⟨_, _, rfl, q⟩
theorem We_le {a b σ} {Q : V → H → Prop} (q : Q (.bool (decide (a ≤ b))) σ) : We (vLe (.int a) (.int b) σ) Q := ⟨_, _, rfl, q⟩
theorem We_gt {a b σ} {Q : V → H → Prop} (q : Q (.bool (decide (a > b))) σ) : We (vGt (.int a) (.int b) σ) Q := ⟨_, _, rfl, q⟩
theorem We_addS {a b σ} {Q : V → H → Prop} (h : a.length + b.length ≤ 100000) (q : Q (.str (a ++ b)) σ) : We (vAdd (.str a) (.str b) σ) Q := ⟨_, _, if_pos h, q⟩
theorem We_rng1 {n : Int} {σ} {Q : V → H → Prop} (h : n ≤ 100000 ∧ -100000 ≤ n) (q : Q (.range 0 n 1) σ) : We (vRange [.int n] σ) Q := ⟨_, _, if_pos h, q⟩
theorem We_rng2 {a b : Int} {σ} {Q : V → H → Prop} (q : Q (.range a b 1) σ) : We (vRange [.int a, .int b] σ) Q := ⟨_, _, rfl, q⟩
theorem We_rng3 {a b : Int} {σ} {Q : V → H → Prop} (h : (b - a).natAbs ≤ 100000) (q : Q (.range a b (-1)) σ) : We (vRange [.int a, .int b, .int (-1)] σ) Q := ⟨_, _, if_pos ⟨rfl, h⟩, q⟩
theorem T_eq {a b : List Nat} {σ} {Q : V → H → Prop} (c : Bool) (h : (okS a && (okS b && (eqL a b == c))) = true) (q : Q (.bool c) σ) : We (vEq (.str a) (.str b) σ) Q := by
  simp only [Bool.and_eq_true] at h
  exact We_eqS h.1 h.2.1 (eqL_eq a b ▸ eq_of_beq h.2.2) q
theorem T_ne {a b : List Nat} {σ} {Q : V → H → Prop} (c : Bool) (h : (okS a && (okS b && ((!eqL a b) == c))) = true) (q : Q (.bool c) σ) : We (vNe (.str a) (.str b) σ) Q := by
  simp only [Bool.and_eq_true] at h
  exact We_neS h.1 h.2.1 (eqL_eq a b ▸ eq_of_beq h.2.2) q
theorem We_dictS {ls vs σ} {Q : V → H → Prop} (q : Q (.ref σ.length) (σ ++ [.dictS (putAll [] (ls.zip vs))])) : We (vDictS ls vs σ) Q := ⟨_, _, rfl, q⟩
theorem sno {σ : H} {n : Nat} {o x} (h : σ[n]? = some x) : (σ ++ [o])[n]? = some x := Ext.one.get h
theorem We_idxStr {σ} {k : Nat} {i : Int} {l : List Nat} {c} {Q : V → H → Prop} (hv : l[k]? = some c) (hi : i = k) (hl : l.length ≤ 100000) (q : Q (.str [c]) σ) : We (vIdx (.str l) (.int i) σ) Q := by
  have hk := (List.getElem?_eq_some_iff.mp hv).1
  subst hi
  refine ⟨_, σ, ?_, q⟩
  show (if _ then l[(k : Int).toNat]?.bind (fun c => some (V.str [c], σ)) else none) = _
  rw [if_pos ⟨by lia, by lia, hl⟩, Int.toNat_natCast, hv]; rfl
noncomputable def bO (b : Bool) : Option Bool := b.rec (some false) (some true)
noncomputable def bA (g : Bool) (o : Option Bool) : Option Bool := g.rec none o
theorem bO_e {b c : Bool} : bO b = some c → b = c := by cases b <;> cases c <;> intro h <;> first | rfl | cases h
theorem bA_e {g c : Bool} {o : Option Bool} : bA g o = some c → g = true ∧ o = some c := by cases g <;> intro h; cases h; exact ⟨rfl, h⟩
noncomputable def inS (g e : Bool) (ih : Option Bool) : Option Bool := bA g (ih.rec none fun c => e.rec (some c) (some true))
noncomputable def inO (a : List Nat) (vs : List V) : Option Bool := vs.rec (some false) fun v _ ih => V.casesOn v none (fun _ => none) (fun _ => none) (fun b => inS (okS b) (eqL b a) ih) (fun _ => none) (fun _ => none) (fun _ _ _ => none) (fun _ => none) none
theorem inS_e {g e c : Bool} {o : Option Bool} (h : inS g e o = some c) : g = true ∧ ∃ d, o = some d ∧ (e || d) = c := by
  obtain ⟨a, h⟩ := bA_e h
  refine ⟨a, ?_⟩
  induction o
  · cases h
  · cases e <;> exact ⟨_, rfl, Option.some.inj h⟩
theorem inO_e {a : List Nat} : ∀ {vs : List V} {c : Bool}, inO a vs = some c → strsIn a vs = some c
  | [], _, h => h
  | v :: r, c, h => by
    induction v using V.casesOn
    case str b =>
      have h : inS (okS b) (eqL b a) (inO a r) = some c := h
      obtain ⟨g, d, e, q⟩ := inS_e h
      unfold strsIn
      rw [g, inO_e e]
      exact congrArg some q
    all_goals cases h
noncomputable def ixO (l : List Nat) (i : Int) : Option Nat := i.rec (fun k => (Nat.ble l.length 100000).rec none l[k]?) fun _ => none
theorem U_eq {a b : List Nat} {σ} {c : Bool} {Q : V → H → Prop} (h : bA (okS a) (bA (okS b) (bO (eqL a b))) = some c) (q : Q (.bool c) σ) : We (vEq (.str a) (.str b) σ) Q :=
  We_eqS (bA_e h).1 (bA_e (bA_e h).2).1 (eqL_eq a b ▸ bO_e (bA_e (bA_e h).2).2) q
theorem U_ne {a b : List Nat} {σ} {c : Bool} {Q : V → H → Prop} (h : bA (okS a) (bA (okS b) (bO (!eqL a b))) = some c) (q : Q (.bool c) σ) : We (vNe (.str a) (.str b) σ) Q :=
  We_neS (bA_e h).1 (bA_e (bA_e h).2).1 (eqL_eq a b ▸ bO_e (bA_e (bA_e h).2).2) q
theorem U_in {a vs σ} {c : Bool} {Q : V → H → Prop} (h : bA (okS a) (inO a vs) = some c) (q : Q (.bool c) σ) : We (vIn (.str a) (.tup vs) σ) Q := We_inS c (bA_e h).1 (inO_e (bA_e h).2) q
theorem U_ni {a vs σ} {c : Bool} {Q : V → H → Prop} (h : bA (okS a) (inO a vs) = some c) (q : Q (.bool !c) σ) : We (vNotIn (.str a) (.tup vs) σ) Q := We_niS c (bA_e h).1 (inO_e (bA_e h).2) q
theorem U_inL {a n vs σ} {c : Bool} {Q : V → H → Prop} (hn : σ[n]? = some (.list vs)) (h : bA (okS a) (inO a vs) = some c) (q : Q (.bool c) σ) : We (vIn (.str a) (.ref n) σ) Q := We_inSL c hn (bA_e h).1 (inO_e (bA_e h).2) q
theorem U_is {v σ} {c : Bool} {Q : V → H → Prop} (h : bO (isNone v) = some c) (q : Q (.bool c) σ) : We (vIs v .none σ) Q := We_isN (bO_e h) q
theorem U_isN {v σ} {c : Bool} {Q : V → H → Prop} (h : bO (isNone v) = some c) (q : Q (.bool !c) σ) : We (vIsNot v .none σ) Q := We_niN (bO_e h) q
theorem U_len {l : List Nat} {σ} {Q : V → H → Prop} (h : bO (Nat.ble l.length 100000) = some true) (q : Q (.int l.length) σ) : We (vLen [.str l] σ) Q := We_lenS (Nat.le_of_ble_eq_true (bO_e h)) q
theorem U_ixs {σ} {i : Int} {l : List Nat} {c} {Q : V → H → Prop} (h : ixO l i = some c) (q : Q (.str [c]) σ) : We (vIdx (.str l) (.int i) σ) Q := by
  induction i
  · rename_i k
    have h : (Nat.ble l.length 100000).rec none l[k]? = some c := h
    cases hb : Nat.ble l.length 100000 with
    | true => rw [hb] at h; exact We_idxStr h rfl (Nat.le_of_ble_eq_true hb) q
    | false => rw [hb] at h; cases h
  · cases h
noncomputable def CSp (y : Option V) (σ : H) (S : V → H → Prop) : Prop := ∀ u σ₃, Ext σ σ₃ ∧ y = some u → S u σ₃
theorem CSp.ap {y σ S} (h : CSp y σ S) {u σ₃} (q : Ext σ σ₃ ∧ y = some u) : S u σ₃ := h _ _ q
noncomputable def CFp (y : Option V) (σ : H) (F : H → Prop) : Prop := ∀ σ₂, Ext σ σ₂ ∧ y = none → F σ₂
theorem CFp.ap {y σ F} (h : CFp y σ F) {σ₂} (q : Ext σ σ₂ ∧ y = none) : F σ₂ := h _ q
noncomputable def kG (elt : Ew) (ρ : R) (S : V → H → Prop) (F : H → Prop) (c : Bool) (σ : H) : Prop := cond c (elt ρ σ S) (F σ)
noncomputable def CB (ts : Tw) (elt : Ew) (ρ : R) (σ : H) (y : Option V) : Prop := ∀ S F, CSp y σ S → CFp y σ F → ts ρ σ (kG elt ρ S F)
inductive CF (t : Tg) (ts : Tw) (elt : Ew) (v : V) (ρ : R) (σ : H) (P : R → Prop) (y : Option V) : Prop
  | mk (ρ₁ : R) (hb : t.bind v ρ = some ρ₁) (hP : P ρ₁) (h : CB ts elt ρ₁ σ y)
abbrev QL (σ : H) (L : List V) (Q : V → H → Prop) : Prop := ∀ n σ', Ext σ σ' → σ.length ≤ n → σ'[n]? = some (.list L) → Q (.ref n) σ'
inductive CmF {α : Type} (enc : α → V) (f : α → Option V) (L : List α) (P : R → Prop) (t : Tg) (ts : Tw) (elt : Ew) (ρ : R) (Q : V → H → Prop) (v : V) (σ : H) : Prop
  | mk (kd : Kd) (hl : L.length ≤ 100000) (hi : ∀ σ', Ext σ σ' → itemsOf v σ' = some (kd, L.map enc)) (h0 : P ρ)
    (hs : ∀ x ∈ L, ∀ ρ σ', P ρ → Ext σ σ' → CF t ts elt (enc x) ρ σ' P (f x)) (q : QL σ (L.filterMap f) Q)
theorem We_compF {α : Type} {enc : α → V} {f : α → Option V} {L : List α} {t ts elt ρ Q v σ} (P : R → Prop) (h : CmF enc f L P t ts elt ρ Q v σ) : Cm t ts elt ρ Q v σ := by
  obtain ⟨kd, hl, hi, hP, hs, q⟩ := h
  refine ⟨kd, L.map enc, by simpa using hl, fun i acc ρ σ1 => P ρ ∧ Ext σ σ1 ∧ acc = (L.take i).filterMap f, ⟨hP, Ext.refl, by simp⟩, fun i acc ρ σ h => hi _ h.2.1, fun i x acc ρ σ J hJ hx h => ?_, fun acc ρ σ h => ?_⟩
  · obtain ⟨hP, e, rfl⟩ := h
    rw [List.getElem?_map] at hx
    obtain ⟨y, hy, rfl⟩ := Option.map_eq_some_iff.mp hx
    obtain ⟨ρ₁, hb, hP₁, w⟩ := hs y (List.mem_of_getElem? hy) ρ σ hP e
    have ht : L.take (i + 1) = L.take i ++ [y] := by rw [List.take_add_one, hy]; rfl
    refine oR_i hb (w _ (J _ ρ₁) (fun u σ₃ p => hJ _ _ _ ⟨hP₁, e.trans p.1, ?_⟩) fun σ₂ p => hJ _ _ _ ⟨hP₁, e.trans p.1, ?_⟩) <;> (rw [ht, List.filterMap_append]; simp [p.2])
  · obtain ⟨hP, e, rfl⟩ := h
    rw [List.length_map, List.take_length]
    exact q _ _ (Ext.snoc e) e.len sng
noncomputable def CRp (Rl : V → H → Prop) (σ : H) (S : V → H → Prop) : Prop := ∀ u σ₃, Ext σ σ₃ ∧ Rl u σ₃ → S u σ₃
theorem CRp.ap {Rl σ S} (h : CRp Rl σ S) {u σ₃} (q : Ext σ σ₃ ∧ Rl u σ₃) : S u σ₃ := h _ _ q
noncomputable def CE (elt : Ew) (ρ : R) (σ : H) (Rl : V → H → Prop) : Prop := ∀ S, CRp Rl σ S → elt ρ σ S
inductive CR (t : Tg) (elt : Ew) (v : V) (ρ : R) (σ : H) (P : R → Prop) (Rl : V → H → Prop) : Prop
  | mk (ρ₁ : R) (hb : t.bind v ρ = some ρ₁) (hP : P ρ₁) (h : CE elt ρ₁ σ Rl)
inductive CmR {α : Type} (enc : α → V) (Rel : α → V → H → Prop) (L : List α) (P : R → Prop) (t : Tg) (elt : Ew) (ρ : R) (Q : V → H → Prop) (v : V) (σ : H) : Prop
  | mk (kd : Kd) (hl : L.length ≤ 100000) (hi : ∀ σ', Ext σ σ' → itemsOf v σ' = some (kd, L.map enc)) (h0 : P ρ)
    (hs : ∀ x ∈ L, ∀ ρ σ', P ρ → Ext σ σ' → CR t elt (enc x) ρ σ' P (Rel x))
    (q : ∀ (n : Nat) (σ' : H) (us : List V), Ext σ σ' → σ.length ≤ n → σ'[n]? = some (.list us) → us.length = L.length → (∀ (i : Nat) (x : α), L[i]? = some x → ∃ u : V, us[i]? = some u ∧ Rel x u σ') → Q (.ref n) σ')
theorem We_compR {α : Type} {enc : α → V} {Rel : α → V → H → Prop} {L : List α} {t elt ρ Q v σ} (P : R → Prop) (mono : ∀ x u σ σ', Rel x u σ → Ext σ σ' → Rel x u σ') (h : CmR enc Rel L P t elt ρ Q v σ) : Cm t (wAnd []) elt ρ Q v σ := by
  obtain ⟨kd, hl, hi, hP, hs, q⟩ := h
  refine ⟨kd, L.map enc, by simpa using hl, fun i acc ρ σ1 => P ρ ∧ Ext σ σ1 ∧ acc.length = i ∧ i ≤ L.length ∧ ∀ (j : Nat) (x : α), j < i → L[j]? = some x → ∃ u : V, acc[j]? = some u ∧ Rel x u σ1, ⟨hP, Ext.refl, rfl, Nat.zero_le _, fun j x h => by lia⟩, fun i acc ρ σ h => hi _ h.2.1, fun i x acc ρ σ J hJ hx h => ?_, fun acc ρ σ h => ?_⟩
  · obtain ⟨hP, e, hn, hil, ha⟩ := h
    rw [List.getElem?_map] at hx
    obtain ⟨y, hy, rfl⟩ := Option.map_eq_some_iff.mp hx
    obtain ⟨ρ₁, hb, hP₁, w⟩ := hs y (List.mem_of_getElem? hy) ρ σ hP e
    have hlt := (List.getElem?_eq_some_iff.mp hy).1
    refine oR_i hb (w _ fun u σ₃ p => hJ _ _ _ ⟨hP₁, e.trans p.1, by simp [hn], hlt, fun j x' hj hx' => ?_⟩)
    by_cases hji : j < i
    · obtain ⟨u', h1, h2⟩ := ha j x' hji hx'
      exact ⟨u', by rw [List.getElem?_append_left (by lia)]; exact h1, mono _ _ _ _ h2 p.1⟩
    · have : j = i := by lia
      subst this
      obtain rfl : y = x' := by rw [hy] at hx'; exact Option.some.inj hx'
      exact ⟨u, by subst hn; simp, p.2⟩
  · obtain ⟨hP, e, hn, hil, ha⟩ := h
    rw [List.length_map] at hn ha
    refine q _ _ acc (Ext.snoc e) e.len sng hn fun i x hx => ?_
    obtain ⟨u, h1, h2⟩ := ha i x (List.getElem?_eq_some_iff.mp hx).1 hx
    exact ⟨u, h1, mono _ _ _ _ h2 Ext.one⟩
noncomputable def Fm (pre : R) (k : Nat) (ρ : R) : Prop := ∃ xs : R, ρ = pre ++ xs ∧ xs.length = k
theorem len_c {xs : R} {k : Nat} (h : xs.length = k + 1) : ∃ x r, xs = x :: r ∧ r.length = k := by
  induction xs using List.casesOn with
  | nil => cases h
  | cons x r => exact ⟨x, r, rfl, Nat.succ.inj h⟩
theorem fmC {xs : R} {k : Nat} {P : R → Prop} (h : xs.length = k + 1) (q : ∀ x r, r.length = k → P (x :: r)) : P xs := by
  obtain ⟨x, r, rfl, h'⟩ := len_c h
  exact q x r h'
theorem fmZ {xs : R} {P : R → Prop} (h : xs.length = 0) (q : P []) : P xs := by
  obtain rfl := List.length_eq_zero_iff.mp h
  exact q
theorem fm2 {pre ρ : R} {P : R → Prop} (h : Fm pre 2 ρ) (q : ∀ x1 x2, P (pre ++ [x1, x2])) : P ρ := by
  obtain ⟨xs, rfl, h⟩ := h
  refine fmC (P := fun r => P (pre ++ r)) h fun x1 r h => ?_
  refine fmC (P := fun r => P (pre ++ x1 :: r)) h fun x2 r h => ?_
  exact fmZ (P := fun r => P (pre ++ x1 :: x2 :: r)) h (q x1 x2)
theorem fm3 {pre ρ : R} {P : R → Prop} (h : Fm pre 3 ρ) (q : ∀ x1 x2 x3, P (pre ++ [x1, x2, x3])) : P ρ := by
  obtain ⟨xs, rfl, h⟩ := h
  refine fmC (P := fun r => P (pre ++ r)) h fun x1 r h => ?_
  refine fmC (P := fun r => P (pre ++ x1 :: r)) h fun x2 r h => ?_
  refine fmC (P := fun r => P (pre ++ x1 :: x2 :: r)) h fun x3 r h => ?_
  exact fmZ (P := fun r => P (pre ++ x1 :: x2 :: x3 :: r)) h (q x1 x2 x3)
theorem fm4 {pre ρ : R} {P : R → Prop} (h : Fm pre 4 ρ) (q : ∀ x1 x2 x3 x4, P (pre ++ [x1, x2, x3, x4])) : P ρ := by
  obtain ⟨xs, rfl, h⟩ := h
  refine fmC (P := fun r => P (pre ++ r)) h fun x1 r h => ?_
  refine fmC (P := fun r => P (pre ++ x1 :: r)) h fun x2 r h => ?_
  refine fmC (P := fun r => P (pre ++ x1 :: x2 :: r)) h fun x3 r h => ?_
  refine fmC (P := fun r => P (pre ++ x1 :: x2 :: x3 :: r)) h fun x4 r h => ?_
  exact fmZ (P := fun r => P (pre ++ x1 :: x2 :: x3 :: x4 :: r)) h (q x1 x2 x3 x4)
theorem fm5 {pre ρ : R} {P : R → Prop} (h : Fm pre 5 ρ) (q : ∀ x1 x2 x3 x4 x5, P (pre ++ [x1, x2, x3, x4, x5])) : P ρ := by
  obtain ⟨xs, rfl, h⟩ := h
  refine fmC (P := fun r => P (pre ++ r)) h fun x1 r h => ?_
  refine fmC (P := fun r => P (pre ++ x1 :: r)) h fun x2 r h => ?_
  refine fmC (P := fun r => P (pre ++ x1 :: x2 :: r)) h fun x3 r h => ?_
  refine fmC (P := fun r => P (pre ++ x1 :: x2 :: x3 :: r)) h fun x4 r h => ?_
  refine fmC (P := fun r => P (pre ++ x1 :: x2 :: x3 :: x4 :: r)) h fun x5 r h => ?_
  exact fmZ (P := fun r => P (pre ++ x1 :: x2 :: x3 :: x4 :: x5 :: r)) h (q x1 x2 x3 x4 x5)
theorem fm6 {pre ρ : R} {P : R → Prop} (h : Fm pre 6 ρ) (q : ∀ x1 x2 x3 x4 x5 x6, P (pre ++ [x1, x2, x3, x4, x5, x6])) : P ρ := by
  obtain ⟨xs, rfl, h⟩ := h
  refine fmC (P := fun r => P (pre ++ r)) h fun x1 r h => ?_
  refine fmC (P := fun r => P (pre ++ x1 :: r)) h fun x2 r h => ?_
  refine fmC (P := fun r => P (pre ++ x1 :: x2 :: r)) h fun x3 r h => ?_
  refine fmC (P := fun r => P (pre ++ x1 :: x2 :: x3 :: r)) h fun x4 r h => ?_
  refine fmC (P := fun r => P (pre ++ x1 :: x2 :: x3 :: x4 :: r)) h fun x5 r h => ?_
  refine fmC (P := fun r => P (pre ++ x1 :: x2 :: x3 :: x4 :: x5 :: r)) h fun x6 r h => ?_
  exact fmZ (P := fun r => P (pre ++ x1 :: x2 :: x3 :: x4 :: x5 :: x6 :: r)) h (q x1 x2 x3 x4 x5 x6)
theorem fm7 {pre ρ : R} {P : R → Prop} (h : Fm pre 7 ρ) (q : ∀ x1 x2 x3 x4 x5 x6 x7, P (pre ++ [x1, x2, x3, x4, x5, x6, x7])) : P ρ := by
  obtain ⟨xs, rfl, h⟩ := h
  refine fmC (P := fun r => P (pre ++ r)) h fun x1 r h => ?_
  refine fmC (P := fun r => P (pre ++ x1 :: r)) h fun x2 r h => ?_
  refine fmC (P := fun r => P (pre ++ x1 :: x2 :: r)) h fun x3 r h => ?_
  refine fmC (P := fun r => P (pre ++ x1 :: x2 :: x3 :: r)) h fun x4 r h => ?_
  refine fmC (P := fun r => P (pre ++ x1 :: x2 :: x3 :: x4 :: r)) h fun x5 r h => ?_
  refine fmC (P := fun r => P (pre ++ x1 :: x2 :: x3 :: x4 :: x5 :: r)) h fun x6 r h => ?_
  refine fmC (P := fun r => P (pre ++ x1 :: x2 :: x3 :: x4 :: x5 :: x6 :: r)) h fun x7 r h => ?_
  exact fmZ (P := fun r => P (pre ++ x1 :: x2 :: x3 :: x4 :: x5 :: x6 :: x7 :: r)) h (q x1 x2 x3 x4 x5 x6 x7)
theorem fm8 {pre ρ : R} {P : R → Prop} (h : Fm pre 8 ρ) (q : ∀ x1 x2 x3 x4 x5 x6 x7 x8, P (pre ++ [x1, x2, x3, x4, x5, x6, x7, x8])) : P ρ := by
  obtain ⟨xs, rfl, h⟩ := h
  refine fmC (P := fun r => P (pre ++ r)) h fun x1 r h => ?_
  refine fmC (P := fun r => P (pre ++ x1 :: r)) h fun x2 r h => ?_
  refine fmC (P := fun r => P (pre ++ x1 :: x2 :: r)) h fun x3 r h => ?_
  refine fmC (P := fun r => P (pre ++ x1 :: x2 :: x3 :: r)) h fun x4 r h => ?_
  refine fmC (P := fun r => P (pre ++ x1 :: x2 :: x3 :: x4 :: r)) h fun x5 r h => ?_
  refine fmC (P := fun r => P (pre ++ x1 :: x2 :: x3 :: x4 :: x5 :: r)) h fun x6 r h => ?_
  refine fmC (P := fun r => P (pre ++ x1 :: x2 :: x3 :: x4 :: x5 :: x6 :: r)) h fun x7 r h => ?_
  refine fmC (P := fun r => P (pre ++ x1 :: x2 :: x3 :: x4 :: x5 :: x6 :: x7 :: r)) h fun x8 r h => ?_
  exact fmZ (P := fun r => P (pre ++ x1 :: x2 :: x3 :: x4 :: x5 :: x6 :: x7 :: x8 :: r)) h (q x1 x2 x3 x4 x5 x6 x7 x8)
theorem fm9 {pre ρ : R} {P : R → Prop} (h : Fm pre 9 ρ) (q : ∀ x1 x2 x3 x4 x5 x6 x7 x8 x9, P (pre ++ [x1, x2, x3, x4, x5, x6, x7, x8, x9])) : P ρ := by
  obtain ⟨xs, rfl, h⟩ := h
  refine fmC (P := fun r => P (pre ++ r)) h fun x1 r h => ?_
  refine fmC (P := fun r => P (pre ++ x1 :: r)) h fun x2 r h => ?_
  refine fmC (P := fun r => P (pre ++ x1 :: x2 :: r)) h fun x3 r h => ?_
  refine fmC (P := fun r => P (pre ++ x1 :: x2 :: x3 :: r)) h fun x4 r h => ?_
  refine fmC (P := fun r => P (pre ++ x1 :: x2 :: x3 :: x4 :: r)) h fun x5 r h => ?_
  refine fmC (P := fun r => P (pre ++ x1 :: x2 :: x3 :: x4 :: x5 :: r)) h fun x6 r h => ?_
  refine fmC (P := fun r => P (pre ++ x1 :: x2 :: x3 :: x4 :: x5 :: x6 :: r)) h fun x7 r h => ?_
  refine fmC (P := fun r => P (pre ++ x1 :: x2 :: x3 :: x4 :: x5 :: x6 :: x7 :: r)) h fun x8 r h => ?_
  refine fmC (P := fun r => P (pre ++ x1 :: x2 :: x3 :: x4 :: x5 :: x6 :: x7 :: x8 :: r)) h fun x9 r h => ?_
  exact fmZ (P := fun r => P (pre ++ x1 :: x2 :: x3 :: x4 :: x5 :: x6 :: x7 :: x8 :: x9 :: r)) h (q x1 x2 x3 x4 x5 x6 x7 x8 x9)
theorem and3 {p1 p2 p3 P : Prop} (h : p1 ∧ p2 ∧ p3) (q : p1 → p2 → p3 → P) : P := q h.1 h.2.1 h.2.2
theorem and4 {p1 p2 p3 p4 P : Prop} (h : p1 ∧ p2 ∧ p3 ∧ p4) (q : p1 → p2 → p3 → p4 → P) : P := q h.1 h.2.1 h.2.2.1 h.2.2.2
theorem and5 {p1 p2 p3 p4 p5 P : Prop} (h : p1 ∧ p2 ∧ p3 ∧ p4 ∧ p5) (q : p1 → p2 → p3 → p4 → p5 → P) : P := q h.1 h.2.1 h.2.2.1 h.2.2.2.1 h.2.2.2.2
theorem and6 {p1 p2 p3 p4 p5 p6 P : Prop} (h : p1 ∧ p2 ∧ p3 ∧ p4 ∧ p5 ∧ p6) (q : p1 → p2 → p3 → p4 → p5 → p6 → P) : P := q h.1 h.2.1 h.2.2.1 h.2.2.2.1 h.2.2.2.2.1 h.2.2.2.2.2
theorem and7 {p1 p2 p3 p4 p5 p6 p7 P : Prop} (h : p1 ∧ p2 ∧ p3 ∧ p4 ∧ p5 ∧ p6 ∧ p7) (q : p1 → p2 → p3 → p4 → p5 → p6 → p7 → P) : P := q h.1 h.2.1 h.2.2.1 h.2.2.2.1 h.2.2.2.2.1 h.2.2.2.2.2.1 h.2.2.2.2.2.2
theorem and8 {p1 p2 p3 p4 p5 p6 p7 p8 P : Prop} (h : p1 ∧ p2 ∧ p3 ∧ p4 ∧ p5 ∧ p6 ∧ p7 ∧ p8) (q : p1 → p2 → p3 → p4 → p5 → p6 → p7 → p8 → P) : P := q h.1 h.2.1 h.2.2.1 h.2.2.2.1 h.2.2.2.2.1 h.2.2.2.2.2.1 h.2.2.2.2.2.2.1 h.2.2.2.2.2.2.2
theorem and9 {p1 p2 p3 p4 p5 p6 p7 p8 p9 P : Prop} (h : p1 ∧ p2 ∧ p3 ∧ p4 ∧ p5 ∧ p6 ∧ p7 ∧ p8 ∧ p9) (q : p1 → p2 → p3 → p4 → p5 → p6 → p7 → p8 → p9 → P) : P := q h.1 h.2.1 h.2.2.1 h.2.2.2.1 h.2.2.2.2.1 h.2.2.2.2.2.1 h.2.2.2.2.2.2.1 h.2.2.2.2.2.2.2.1 h.2.2.2.2.2.2.2.2
theorem and10 {p1 p2 p3 p4 p5 p6 p7 p8 p9 p10 P : Prop} (h : p1 ∧ p2 ∧ p3 ∧ p4 ∧ p5 ∧ p6 ∧ p7 ∧ p8 ∧ p9 ∧ p10) (q : p1 → p2 → p3 → p4 → p5 → p6 → p7 → p8 → p9 → p10 → P) : P := q h.1 h.2.1 h.2.2.1 h.2.2.2.1 h.2.2.2.2.1 h.2.2.2.2.2.1 h.2.2.2.2.2.2.1 h.2.2.2.2.2.2.2.1 h.2.2.2.2.2.2.2.2.1 h.2.2.2.2.2.2.2.2.2
inductive Opd where
  | lx | ln | lz | lw
  | tmp (k : Nat)
  | cv (k : Nat)
noncomputable def Opd.hd : Opd → List Nat
  | .tmp _ => [116, 109, 112]
  | .cv _ => [99, 118]
  | _ => [108, 105, 116]
noncomputable def Opd.v : Opd → V
  | .lx => .str [120]
  | .ln => .none
  | .lz => .int 0
  | .lw => .str [119]
  | .tmp k => .int k
  | .cv k => .int k
noncomputable def Opd.e (o : Opd) : V := .tup [.str o.hd, o.v]
noncomputable def Opd.t? : Opd → Option Nat
  | .tmp k => some k
  | _ => none
noncomputable def optV : Option Nat → V
  | none => .none
  | some k => .int k
inductive Row where
  | jmp (t : Nat)
  | jif (x : Opd) (t : Nat)
  | jnl (x : Opd) (t : Nat)
  | thr (x : Opd)
  | ech (x : Opd)
  | ret (x : Opd)
  | arr (to : Nat)
  | mov (to : Nat) (x : Opd)
  | boo (to : Nat) (x : Opd)
  | bin (to : Nat) (x y : Opd)
  | elm (to : Nat) (x : Opd)
  | wri (to : Option Nat) (x y : Opd)
noncomputable def Row.op : Row → List Nat
  | .jmp _ => [106, 117, 109, 112]
  | .jif .. => [106, 117, 109, 112, 95, 105, 102]
  | .jnl .. => [106, 117, 109, 112, 95, 110, 117, 108, 108]
  | .thr _ => [116, 104, 114, 111, 119]
  | .ech _ => [101, 99, 104, 111]
  | .ret _ => [114, 101, 116, 117, 114, 110]
  | .arr _ => [97, 114, 114, 97, 121]
  | .mov .. => [109, 111, 118, 101]
  | .boo .. => [98, 111, 111, 108]
  | .bin .. => [98, 105, 110, 97, 114, 121]
  | .elm .. => [108, 105, 115, 116, 95, 101, 108, 101, 109]
  | .wri .. => [119, 114, 105, 116, 101]
noncomputable def Row.to : Row → Option Nat
  | .arr t | .mov t _ | .boo t _ | .bin t _ _ | .elm t _ => some t
  | .wri t _ _ => t
  | _ => none
noncomputable def Row.ops : Row → List Opd
  | .jmp _ | .arr _ => []
  | .jif x _ | .jnl x _ | .thr x | .ech x | .ret x | .mov _ x | .boo _ x => [x]
  | .bin _ x y => [x, y]
  | .elm _ x => [x, .lz]
  | .wri _ x y => [x, y]
noncomputable def Row.a : Row → V
  | .jmp _ | .arr _ => .none
  | .jif x _ | .jnl x _ | .thr x | .ech x | .ret x | .mov _ x | .boo _ x => x.e
  | .bin _ x y => .tup [x.e, y.e]
  | .elm _ x => .tup [x.e, Opd.lz.e]
  | .wri _ x _ => .tup [.str [100, 105, 109], .tup [.str [118, 97, 114], Opd.lw.e], x.e]
noncomputable def Row.tgt : Row → Option Nat
  | .jmp t | .jif _ t | .jnl _ t => some t
  | _ => none
noncomputable def Row.b : Row → V
  | .jmp t | .jif _ t | .jnl _ t => .int t
  | .bin .. => .str [43]
  | .wri _ _ y => y.e
  | _ => .none
noncomputable def Row.e (r : Row) : V := .tup [.str r.op, optV r.to, r.a, r.b]
noncomputable def Row.fall : Row → Bool
  | .jmp _ | .thr _ | .ret _ => false
  | _ => true
noncomputable def Row.rd (r : Row) : List Nat := r.ops.filterMap Opd.t?
noncomputable def Row.sh : Row → List Nat × List Nat
  | .jmp _ => ([45], [106])
  | .jif .. | .jnl .. => ([120], [106])
  | .thr _ | .ech _ | .mov .. | .boo .. => ([120], [45])
  | .ret _ => ([63], [45])
  | .arr _ => ([45], [45])
  | .bin .. | .elm .. => ([120, 120], [45])
  | .wri .. => ([84], [120])
theorem Row.okop (r : Row) : okS r.op = true := by induction r <;> rfl
theorem Row.h4 (r : Row) : (r.op.take 4 == [106, 117, 109, 112]) = r.tgt.isSome := by induction r <;> rfl
theorem Row.hl4 (r : Row) : 4 ≤ r.op.length ∧ r.op.length ≤ 1000 := by induction r <;> exact ⟨Nat.le_of_ble_eq_true rfl, Nat.le_of_ble_eq_true rfl⟩
theorem Row.hok4 (r : Row) : okS (r.op.take 4) = true := by induction r <;> rfl
theorem Row.hops (r : Row) : r.ops.length ≤ 2 := by induction r <;> exact Nat.le_of_ble_eq_true rfl
theorem opt_le {α : Type} (o : Option α) : o.toList.length ≤ 1 := by induction o <;> exact Nat.le_of_ble_eq_true rfl
theorem opt_is {α : Type} {o : Option α} (h : o.isSome = true) : ∃ t, o = some t := by induction o; cases h; exact ⟨_, rfl⟩
theorem opt_no {α : Type} {o : Option α} (h : o.isSome = false) : o = none := by induction o; rfl; cases h
theorem Row.to_fall {r : Row} {j} : r.to = some j → r.fall = true := by
  induction r <;> intro h <;> first | rfl | exact nosm h
theorem Row.to_tgt {r : Row} : r.to ≠ none → r.tgt = none := by
  induction r <;> intro h <;> first | rfl | exact absurd rfl h
theorem tgt_el {P : Row → Prop} {r : Row} {t : Nat} (h : r.tgt = some t) (h1 : P (.jmp t)) (h2 : ∀ x, P (.jif x t)) (h3 : ∀ x, P (.jnl x t)) : P r := by
  induction r <;> first | exact nosm h | (rw [← Option.some.inj h] at h1 h2 h3; first | exact h1 | exact h2 _ | exact h3 _)
theorem thr_el {P : Row → Prop} {r : Row} (h : r.op = [116, 104, 114, 111, 119]) (k : ∀ x, P (.thr x)) : P r := by
  induction r <;> first | exact k _ | exact neL h rfl
theorem Row.ret_fall {r : Row} (h : r.tgt = none) (g : r.op ≠ [116, 104, 114, 111, 119]) : (r.op == [114, 101, 116, 117, 114, 110]) = !r.fall := by
  induction r <;> first | rfl | exact absurd rfl g | exact nosm h.symm
theorem Row.b_t {r : Row} {t} : r.tgt = some t → r.b = .int t := by
  induction r <;> intro h <;> first | exact nosm h | (cases h; rfl)
set_option hygiene false in
local macro_rules | `(tactic| keq_hits) => `(tactic| first
  | assumption | exact sng | exact upg (by keq_hits) | exact sno (by keq_hits) | exact upd_ne' (by first | assumption | omega | fail) (by keq_hits) | fail)
set_option hygiene false in
local macro_rules | `(tactic| bits_by_make) => `(tactic| first
  | ((with_reducible show We ..); first
    | ((with_reducible first | apply U_eq | apply U_ne | apply U_in | apply U_ni | apply U_is | apply U_isN | apply U_len | apply U_ixs); exact Eq.refl (some _))
    | ((with_reducible apply U_inL); keq_hits; exact Eq.refl (some _))
    | (with_reducible first | apply We_eqI | apply We_neI | apply We_addI | apply We_addI' | apply We_subI | apply We_neg | apply We_lt | apply We_le | apply We_gt | apply We_dictS | fail)
    | fail)
  | ((with_reducible show CB ..); intro S F hS hF) | ((with_reducible show CE ..); intro S hS)
  | ((fail_if_success (with_reducible first | show We .. | show Wq .. | show Wf .. | show Ww .. | show Wc .. | show For .. | show Cm .. | show Wp .. | show And ..)); first
    | refine (?_ : We ..) | refine (?_ : Wq ..) | refine (?_ : And ..) | refine (?_ : Wf ..) | refine (?_ : Ww ..) | refine (?_ : Wc ..) | refine (?_ : For ..) | refine (?_ : Cm ..) | refine (?_ : Wp ..)
    | ((fail_if_success (with_reducible show cond ..)); refine (?_ : cond ..))
    | apply ‹Imp ..› | apply ‹CSp ..› | apply ‹CRp ..› | apply ‹CFp ..› | apply ‹JImp ..› | fail))
set_option hygiene false in
local macro_rules | `(tactic| walk) => `(tactic| repeat' (first | (with_reducible apply Wsq) | bits_by_make))
set_option hygiene false in
local macro_rules | `(tactic| lk) => `(tactic| repeat' bits_by_make)
theorem shape_sp (r : Row) {σ Q} (q : ∀ σ', Ext σ σ' → Q (.tup [.str r.sh.1, .str r.sh.2]) σ') : We (m_shape_of [.str r.op] σ) Q := by
  unfold m_shape_of b_shape_of
  refine runE rfl rfl ?_
  induction r
  all_goals (walk)
  all_goals first | exact q _ Ext.refl | skip
  all_goals refine ⟨ty_dictS (by keq_hits), ?_⟩
  all_goals (walk)
  all_goals refine We_getS (by keq_hits) ?_
  all_goals exact q _ Ext.one
theorem target_sp (r : Row) {σ} {Q : V → H → Prop} (q : Q (optV r.tgt) σ) : We (m_target_of [r.e] σ) Q := by
  unfold m_target_of b_target_of
  refine runE rfl rfl ?_
  induction r
  all_goals (walk)
  all_goals exact q
theorem writes_sp (r : Row) {σ} {Q : V → H → Prop} (q : ∀ n σ', Ext σ σ' → σ.length ≤ n → σ'[n]? = some (.list (r.to.toList.map fun k => .int (k : Nat))) → Q (.ref n) σ') : We (m_writes [r.e] σ) Q := by
  unfold m_writes b_writes
  refine runE rfl rfl ?_
  induction r
  case wri to x y =>
    cases to
    all_goals (walk)
    all_goals exact q _ _ Ext.one (Nat.le_refl _) sng
  all_goals (walk)
  all_goals exact q _ _ Ext.one (Nat.le_refl _) sng
theorem operands_sp (r : Row) {σ} {Q : V → H → Prop} (q : ∀ n σ', Ext σ σ' → σ.length ≤ n → σ'[n]? = some (.list (r.ops.map Opd.e)) → Q (.ref n) σ') : We (m_law_operands [r.e] σ) Q := by
  unfold m_law_operands b_law_operands
  refine runE rfl rfl ?_
  induction r
  all_goals (walk)
  all_goals try exact q _ _ (Ext.snoc Ext.one) (by simp) sng
  all_goals exact We_listOf (kd := .fix) rfl (Nat.le_of_ble_eq_true rfl) (q _ _ (Ext.snoc Ext.one) (by simp) sng)
noncomputable def Opd.ren (B : Nat → Nat) : Opd → Opd
  | .tmp k => .tmp (B k)
  | o => o
noncomputable def Row.ren (B : Nat → Nat) : Row → Row
  | .jmp t => .jmp t
  | .jif x t => .jif (x.ren B) t
  | .jnl x t => .jnl (x.ren B) t
  | .thr x => .thr (x.ren B)
  | .ech x => .ech (x.ren B)
  | .ret x => .ret (x.ren B)
  | .arr t => .arr (B t)
  | .mov t x => .mov (B t) (x.ren B)
  | .boo t x => .boo (B t) (x.ren B)
  | .bin t x y => .bin (B t) (x.ren B) (y.ren B)
  | .elm t x => .elm (B t) (x.ren B)
  | .wri t x y => .wri (t.map B) (x.ren B) (y.ren B)
noncomputable def Knows (kvs : List (Int × V)) (B : Nat → Nat) (k : Nat) : Prop := look kvs (k : Int) = some (.int (B k : Nat))
theorem nop_sp (o : Opd) {d kvs B σ} {Q : V → H → Prop} (hd : σ[d]? = some (.dictI kvs)) (hk : ∀ k, o.t? = some k → Knows kvs B k) (q : Q (o.ren B).e σ) : We (mNo [o.e, .ref d, .bool true] σ) Q := by
  unfold mNo b_new_operand
  refine runE rfl rfl ?_
  cases o
  case tmp k =>
    have hk := hk k rfl
    unfold Knows at hk
    unfold Opd.e
    walk
    refine We_niD hd ?_
    rw [show Opd.v (.tmp k) = .int k from rfl] at *
    rw [hk]
    walk
    exact We_idxD hd hk (by (walk); exact q)
  all_goals (unfold Opd.e; walk)
  all_goals exact q
theorem lren_sp (o : Opd) {d kvs B σ} {Q : V → H → Prop} (hd : σ[d]? = some (.dictI kvs)) (hk : ∀ k, o.t? = some k → Knows kvs B k) (q : Q (o.ren B).e σ) : We (m_law_renamed [.ref d, o.e] σ) Q := by
  unfold m_law_renamed b_law_renamed
  refine runE rfl rfl ?_
  cases o
  case tmp k =>
    have hk := hk k rfl
    unfold Opd.e
    walk
    exact We_idxD hd hk (by (walk); exact q)
  all_goals (unfold Opd.e; walk)
  all_goals exact q
theorem part_x (o : Opd) {n d kvs B σ} {Q : V → H → Prop} {sh : List Nat} (hs : sh = [120] ∨ sh = [63]) (hd : σ[d]? = some (.dictI kvs)) (hk : ∀ k, o.t? = some k → Knows kvs B k) (q : Q (o.ren B).e σ) : We (m_new_part (n + 1) [.str sh, o.e, .ref d, .bool true] σ) Q := by
  rw [m_new_part]
  refine runE rfl rfl ?_
  have h0 : isNone o.e = false := rfl
  rcases hs with rfl | rfl
  all_goals walk
  all_goals exact nop_sp o hd hk q
theorem part_n (v : V) {n b σ} {Q : V → H → Prop} {sh : List Nat} (hs : sh = [45] ∨ sh = [106]) (q : Q v σ) : We (m_new_part (n + 1) [.str sh, v, b, .bool true] σ) Q := by
  rw [m_new_part]
  refine runE rfl rfl ?_
  rcases hs with rfl | rfl
  all_goals walk
  all_goals exact q
theorem part_xx (o p : Opd) {n d kvs B σ} {Q : V → H → Prop} (hd : σ[d]? = some (.dictI kvs)) (hk : ∀ k, o.t? = some k → Knows kvs B k) (hk' : ∀ k, p.t? = some k → Knows kvs B k)
    (q : ∀ σ', Ext σ σ' → Q (.tup [(o.ren B).e, (p.ren B).e]) σ') : We (m_new_part (n + 2) [.str [120, 120], .tup [o.e, p.e], .ref d, .bool true] σ) Q := by
  rw [m_new_part]
  refine runE rfl rfl ?_
  walk
  refine We_comp ?_
  walk
  refine We_rng1 (by decide) ?_
  refine cm2 (x := .int 0) (y := .int 1) (fun _ => rfl) fun J hJ => ?_
  walk
  refine (part_x o (n := n) (.inl rfl) hd hk ?_)
  walk
  intro J hJ
  walk
  refine (part_x p (n := n) (.inl rfl) hd hk' ?_)
  walk
  exact We_tupleOf sng (Nat.le_of_ble_eq_true rfl) (q _ Ext.one)
noncomputable def Kn (kvs : List (Int × V)) (B : Nat → Nat) (r : Row) : Prop := (∀ o ∈ r.ops, ∀ k, o.t? = some k → Knows kvs B k) ∧ (∀ k, r.to = some k → Knows kvs B k)
theorem part_T (o : Opd) {n d kvs B σ} {Q : V → H → Prop} (hd : σ[d]? = some (.dictI kvs)) (hk : ∀ k, o.t? = some k → Knows kvs B k)
    (q : Q (.tup [.str [100, 105, 109], .tup [.str [118, 97, 114], Opd.lw.e], (o.ren B).e]) σ) : We (m_new_part (n + 1) [.str [84], .tup [.str [100, 105, 109], .tup [.str [118, 97, 114], Opd.lw.e], o.e], .ref d, .bool true] σ) Q := by
  rw [m_new_part]
  refine runE rfl rfl ?_
  walk
  rw [m_new_place]
  refine runE rfl rfl ?_
  walk
  rw [m_new_place]
  refine runE rfl rfl ?_
  walk
  refine nop_sp .lw (B := B) hd (by intro k h; cases h) ?_
  walk
  refine nop_sp o hd hk ?_
  walk
  exact q
set_option maxHeartbeats 2000000 in
theorem with_sp (r : Row) {d kvs B σ} {Q : V → H → Prop} (hd : σ[d]? = some (.dictI kvs)) (hk : Kn kvs B r) (q : ∀ σ', Ext σ σ' → Q (r.ren B).e σ') : We (m_with_operands [r.e, .ref d] σ) Q := by
  unfold m_with_operands b_with_operands
  refine runE rfl rfl ?_
  obtain ⟨ho, ht⟩ := hk
  unfold Row.e
  walk
  refine shape_sp r fun σ' e' => ?_
  have hd := e'.get hd
  walk
  refine ⟨ty_dict hd, ?_⟩
  walk
  induction r
  case jmp => exact We_getN hd (by (walk); refine part_n _ (.inl rfl) ?_; (walk); refine part_n _ (.inr rfl) ?_; (walk); exact q _ e')
  case jif => exact We_getN hd (by (walk); refine part_x _ (.inl rfl) hd (ho _ m1) ?_; (walk); refine part_n _ (.inr rfl) ?_; (walk); exact q _ e')
  case jnl => exact We_getN hd (by (walk); refine part_x _ (.inl rfl) hd (ho _ m1) ?_; (walk); refine part_n _ (.inr rfl) ?_; (walk); exact q _ e')
  case thr => exact We_getN hd (by (walk); refine part_x _ (.inl rfl) hd (ho _ m1) ?_; (walk); refine part_n _ (.inl rfl) ?_; (walk); exact q _ e')
  case ech => exact We_getN hd (by (walk); refine part_x _ (.inl rfl) hd (ho _ m1) ?_; (walk); refine part_n _ (.inl rfl) ?_; (walk); exact q _ e')
  case ret => exact We_getN hd (by (walk); refine part_x _ (.inr rfl) hd (ho _ m1) ?_; (walk); refine part_n _ (.inl rfl) ?_; (walk); exact q _ e')
  case arr t =>
    have := ht t rfl
    unfold Knows at this
    refine We_get hd ?_
    rw [this]
    ((walk); refine part_n _ (.inl rfl) ?_; (walk); refine part_n _ (.inl rfl) ?_; (walk); exact q _ e')
  case mov t x =>
    have := ht t rfl
    unfold Knows at this
    refine We_get hd ?_
    rw [this]
    ((walk); refine part_x _ (.inl rfl) hd (ho _ m1) ?_; (walk); refine part_n _ (.inl rfl) ?_; (walk); exact q _ e')
  case boo t x =>
    have := ht t rfl
    unfold Knows at this
    refine We_get hd ?_
    rw [this]
    ((walk); refine part_x _ (.inl rfl) hd (ho _ m1) ?_; (walk); refine part_n _ (.inl rfl) ?_; (walk); exact q _ e')
  case bin t x y =>
    have := ht t rfl
    unfold Knows at this
    refine We_get hd ?_
    rw [this]
    ((walk); refine part_xx _ _ hd (ho _ m1) (ho _ m2) fun σ2 e2 => ?_; (walk); refine part_n _ (.inl rfl) ?_; (walk); exact q _ (e'.trans e2))
  case elm t x =>
    have := ht t rfl
    unfold Knows at this
    refine We_get hd ?_
    rw [this]
    ((walk); refine part_xx _ .lz hd (ho _ m1) (ho _ m2) fun σ2 e2 => ?_; (walk); refine part_n _ (.inl rfl) ?_; (walk); exact q _ (e'.trans e2))
  case wri t x y =>
    induction t using Option.casesOn with
    | none => exact We_getN hd (by (walk); refine part_T _ hd (ho _ m1) ?_; (walk); refine part_x _ (.inl rfl) hd (ho _ m2) ?_; (walk); exact q _ e')
    | some t =>
      have := ht t rfl
      unfold Knows at this
      refine We_get hd ?_
      rw [this]
      ((walk); refine part_T _ hd (ho _ m1) ?_; (walk); refine part_x _ (.inl rfl) hd (ho _ m2) ?_; (walk); exact q _ e')
set_option maxHeartbeats 1000000 in
theorem newrow_sp (r : Row) {d kvs B σ} {Q : V → H → Prop} (hd : σ[d]? = some (.dictI kvs)) (hk : Kn kvs B r) (q : ∀ σ', Ext σ σ' → Q (r.ren B).e σ') : We (m_law_new_row [.ref d, r.e] σ) Q := by
  unfold m_law_new_row b_law_new_row
  refine runE rfl rfl ?_
  obtain ⟨ho, ht⟩ := hk
  have hd1 : ∀ x, (σ ++ [x])[d]? = some (.dictI kvs) := fun x => sno hd
  induction r
  case bin t x y =>
    walk
    refine We_idxD hd (ht t rfl) ?_
    walk
    refine We_comp ?_
    walk
    refine cm2 (kd := .fix) (x := x.e) (y := y.e) (fun _ => rfl) fun J hJ => ?_
    walk
    refine lren_sp x (hd1 _) (ho _ m1) ?_
    walk
    intro J hJ
    walk
    refine lren_sp y (hd1 _) (ho _ m2) ?_
    walk
    refine We_tupleOf sng (Nat.le_of_ble_eq_true rfl) ?_
    walk
    exact q _ (Ext.snoc Ext.one)
  case elm t x =>
    walk
    refine We_idxD hd (ht t rfl) ?_
    walk
    refine We_comp ?_
    walk
    refine cm2 (kd := .fix) (x := x.e) (y := Opd.lz.e) (fun _ => rfl) fun J hJ => ?_
    walk
    refine lren_sp x (hd1 _) (ho _ m1) ?_
    walk
    intro J hJ
    walk
    refine lren_sp .lz (hd1 _) (ho _ m2) ?_
    walk
    refine We_tupleOf sng (Nat.le_of_ble_eq_true rfl) ?_
    walk
    exact q _ (Ext.snoc Ext.one)
  case wri t x y =>
    induction t using Option.casesOn with
    | none =>
      walk
      refine lren_sp x (hd1 _) (ho _ m1) ?_
      walk
      refine lren_sp y (hd1 _) (ho _ m2) ?_
      walk
      exact q _ Ext.one
    | some t =>
      walk
      refine We_idxD hd (ht t rfl) ?_
      walk
      refine lren_sp x (hd1 _) (ho _ m1) ?_
      walk
      refine lren_sp y (hd1 _) (ho _ m2) ?_
      walk
      exact q _ Ext.one
  case arr t =>
    walk
    refine We_idxD hd (ht t rfl) ?_
    walk
    exact q _ Ext.one
  case mov t x =>
    walk
    refine We_idxD hd (ht t rfl) ?_
    walk
    refine lren_sp x (hd1 _) (ho _ m1) ?_
    walk
    exact q _ Ext.one
  case boo t x =>
    walk
    refine We_idxD hd (ht t rfl) ?_
    walk
    refine lren_sp x (hd1 _) (ho _ m1) ?_
    walk
    exact q _ Ext.one
  case jmp =>
    walk
    exact q _ Ext.one
  all_goals (walk)
  all_goals refine lren_sp _ (hd1 _) (ho _ m1) ?_
  all_goals walk
  all_goals exact q _ Ext.one
noncomputable def Row.rds : Row → List Opd
  | .wri _ x y => [.lw, x, y]
  | r => r.ops
theorem Row.rds_rd (r : Row) : r.rds.filterMap Opd.t? = r.rd := by induction r <;> rfl
theorem pr_n (v : V) {n σ} {Q : V → H → Prop} {sh : List Nat} (hs : sh = [45] ∨ sh = [106]) (q : QL σ [] Q) : We (mPr (n + 1) [.str sh, v] σ) Q := by
  rw [mPr]
  refine runE rfl rfl ?_
  rcases hs with rfl | rfl
  all_goals walk
  all_goals exact q _ _ Ext.one (Nat.le_refl _) sng
theorem pr_x (o : Opd) {n σ} {Q : V → H → Prop} {sh : List Nat} (hs : sh = [120] ∨ sh = [63]) (q : QL σ [o.e] Q) : We (mPr (n + 1) [.str sh, o.e] σ) Q := by
  rw [mPr]
  refine runE rfl rfl ?_
  rcases hs with rfl | rfl
  all_goals walk
  all_goals exact q _ _ Ext.one (Nat.le_refl _) sng
theorem pr_xx (o p : Opd) {n σ} {Q : V → H → Prop} (q : QL σ [o.e, p.e] Q) : We (mPr (n + 2) [.str [120, 120], .tup [o.e, p.e]] σ) Q := by
  rw [mPr]
  refine runE rfl rfl ?_
  walk
  refine Ws_for' ?_
  walk
  refine We_rng1 (by decide) ?_
  refine for2 (kd := .fix) (x := .int 0) (y := .int 1) (fun _ => rfl) fun N' hN => ?_
  walk
  refine pr_x o (.inl rfl) fun n1 σ1 e1 l1 h1 => ?_
  refine We_addL (e1.get sng) h1 (Nat.le_of_ble_eq_true rfl) ?_
  walk
  intro N' hN
  walk
  refine pr_x p (.inl rfl) fun n2 σ2 e2 l2 h2 => ?_
  refine We_addL (e2.get sng) h2 (Nat.le_of_ble_eq_true rfl) ?_
  walk
  refine q _ _ (Ext.snoc (Ext.trans (Ext.trans Ext.one e1) (Ext.trans Ext.one e2))) ?_ sng
  have := (Ext.trans (Ext.trans (Ext.one (a := σ)) e1) (Ext.trans Ext.one e2)).len
  exact this
theorem pr_T (o : Opd) {n σ} {Q : V → H → Prop} (q : QL σ [Opd.lw.e, o.e] Q) : We (mPr (n + 3) [.str [84], .tup [.str [100, 105, 109], .tup [.str [118, 97, 114], Opd.lw.e], o.e]] σ) Q := by
  rw [mPr]
  refine runE rfl rfl ?_
  walk
  rw [m_place_reads]
  refine runE rfl rfl ?_
  walk
  unfold Opd.e
  walk
  refine (We_eqS (c := false) ?_ rfl ?_ ?_)
  · cases o <;> rfl
  · cases o <;> rfl
  walk
  rw [m_place_reads]
  refine runE rfl rfl ?_
  walk
  refine We_addL sng (sno sng) (Nat.le_of_ble_eq_true rfl) ?_
  walk
  exact q _ _ (Ext.snoc (Ext.snoc Ext.one)) (by simp) sng
theorem reads_sp (r : Row) {σ} {Q : V → H → Prop} (q : QL σ (r.rds.map Opd.e) Q) : We (m_reads [r.e] σ) Q := by
  unfold m_reads b_reads
  refine runE rfl rfl ?_
  unfold Row.e
  walk
  refine shape_sp r fun σ1 e1 => ?_
  walk
  have fin : ∀ {L1 L2 : List V} {n1 n2 σ2 σ3}, Ext σ1 σ2 → σ1.length ≤ n1 → σ2[n1]? = some (.list L1) → Ext σ2 σ3 → σ2.length ≤ n2 → σ3[n2]? = some (.list L2) → L1.length + L2.length ≤ 100000 → r.rds.map Opd.e = L1 ++ L2 → We (vAdd (.ref n1) (.ref n2) σ3) Q := by
    intro L1 L2 n1 n2 σ2 σ3 x2 l2 h2 x3 l3 h3 hl he
    refine We_addL (x3.get h2) h3 hl ?_
    rw [← he]
    refine q _ _ (Ext.snoc ((e1.trans x2).trans x3)) ?_ sng
    exact ((e1.trans x2).trans x3).len
  induction r
  case jmp => exact pr_n _ (.inl rfl) fun n2 σ2 e2 l2 h2 => by (walk); exact pr_n _ (.inr rfl) fun n3 σ3 e3 l3 h3 => fin e2 l2 h2 e3 l3 h3 (Nat.le_of_ble_eq_true rfl) rfl
  case arr => exact pr_n _ (.inl rfl) fun n2 σ2 e2 l2 h2 => by (walk); exact pr_n _ (.inl rfl) fun n3 σ3 e3 l3 h3 => fin e2 l2 h2 e3 l3 h3 (Nat.le_of_ble_eq_true rfl) rfl
  case jif => exact pr_x _ (.inl rfl) fun n2 σ2 e2 l2 h2 => by (walk); exact pr_n _ (.inr rfl) fun n3 σ3 e3 l3 h3 => fin e2 l2 h2 e3 l3 h3 (Nat.le_of_ble_eq_true rfl) rfl
  case jnl => exact pr_x _ (.inl rfl) fun n2 σ2 e2 l2 h2 => by (walk); exact pr_n _ (.inr rfl) fun n3 σ3 e3 l3 h3 => fin e2 l2 h2 e3 l3 h3 (Nat.le_of_ble_eq_true rfl) rfl
  case ret => exact pr_x _ (.inr rfl) fun n2 σ2 e2 l2 h2 => by (walk); exact pr_n _ (.inl rfl) fun n3 σ3 e3 l3 h3 => fin e2 l2 h2 e3 l3 h3 (Nat.le_of_ble_eq_true rfl) rfl
  case bin => exact pr_xx _ _ fun n2 σ2 e2 l2 h2 => by (walk); exact pr_n _ (.inl rfl) fun n3 σ3 e3 l3 h3 => fin e2 l2 h2 e3 l3 h3 (Nat.le_of_ble_eq_true rfl) rfl
  case elm => exact pr_xx _ .lz fun n2 σ2 e2 l2 h2 => by (walk); exact pr_n _ (.inl rfl) fun n3 σ3 e3 l3 h3 => fin e2 l2 h2 e3 l3 h3 (Nat.le_of_ble_eq_true rfl) rfl
  case wri => exact pr_T _ fun n2 σ2 e2 l2 h2 => by (walk); exact pr_x _ (.inl rfl) fun n3 σ3 e3 l3 h3 => fin e2 l2 h2 e3 l3 h3 (Nat.le_of_ble_eq_true rfl) rfl
  all_goals exact pr_x _ (.inl rfl) fun n2 σ2 e2 l2 h2 => by (walk); exact pr_n _ (.inl rfl) fun n3 σ3 e3 l3 h3 => fin e2 l2 h2 e3 l3 h3 (Nat.le_of_ble_eq_true rfl) rfl
theorem Row.rds_le (r : Row) : (r.rds).length ≤ 100000 := by induction r <;> exact Nat.le_of_ble_eq_true rfl
theorem rItems_eq (c : Int) : ∀ (n : Nat) (a : Int), rItems a c n = (List.range n).map fun i => V.int (a + c * (i : Nat))
  | 0, _ => rfl
  | n + 1, a => by
    rw [rItems, rItems_eq c n, List.range_succ_eq_map, List.map_cons, List.map_map]
    congr 1
    · simp
    · apply List.map_congr_left; intro i _
      simp only [Function.comp, Nat.succ_eq_add_one, Int.natCast_add]
      congr 1
      rw [Int.mul_add, Int.add_assoc]; congr 1; rw [Int.add_comm]; simp
theorem rsz_up (a b : Nat) : Builtin.Range.rangeSize (a : Int) b 1 = ((b - a : Nat) : Int) := by
  unfold Builtin.Range.rangeSize
  simp only [show (1 : Int) > 0 by decide, if_true, Int.ediv_one]
  split <;> lia
theorem it_rng0 {a b c : Int} {σ} : itemsOf (.range a b c) σ = if Builtin.Range.small a b c = true then some (.fix, rItems a c (Builtin.Range.rangeSize a b c).toNat) else none := rfl
theorem it_range {a b : Nat} {σ} (ha : a ≤ 100000) (hb : b ≤ 100000) : itemsOf (.range a b 1) σ = some (.fix, (List.range (b - a)).map fun i => V.int ((a + i : Nat) : Int)) := by
  have hs : Builtin.Range.small (a : Int) b 1 = true := by
    refine small_one ?_ ?_ ?_ ?_ <;> lia
  rw [it_rng0, if_pos hs, rItems_eq, rsz_up, Int.toNat_natCast]
  refine congrArg (fun l => some (Kd.fix, l)) ?_
  apply List.map_congr_left
  intro i _
  refine congrArg V.int ?_
  lia
theorem it_range0 {b : Nat} {σ} (hb : b ≤ 100000) : itemsOf (.range 0 b 1) σ = some (.fix, (List.range b).map fun i => V.int (i : Nat)) := by
  have hs : Builtin.Range.small 0 b 1 = true := by
    refine small_one ?_ ?_ ?_ ?_ <;> lia
  have hz : Builtin.Range.rangeSize 0 b 1 = (b : Int) := by rw [rangeSize_one]; split <;> lia
  rw [it_rng0, if_pos hs, rItems_eq, hz, Int.toNat_natCast]
  refine congrArg (fun l => some (Kd.fix, l)) ?_
  apply List.map_congr_left
  intro i _
  refine congrArg V.int ?_
  lia
theorem it_down {n : Nat} {σ} (hb : n ≤ 100000) : itemsOf (.range ((n : Int) - 1) (-1) (-1)) σ = some (.fix, (List.range n).map fun i => V.int ((n - 1 - i : Nat) : Int)) := by
  have hs : Builtin.Range.small ((n : Int) - 1) (-1) (-1) = true := by
    refine small_down ?_ ?_ ?_ ?_ <;> lia
  rw [it_rng0, if_pos hs, rItems_eq]
  have : (Builtin.Range.rangeSize ((n : Int) - 1) (-1) (-1)).toNat = n := by
    rw [rangeSize_downNat]
    lia
  rw [this]
  refine congrArg (fun l => some (Kd.fix, l)) ?_
  apply List.map_congr_left
  intro i hi
  have := List.mem_range.mp hi
  refine congrArg V.int ?_
  refine n_el (P := fun k => (n : Int) - 1 + -1 * (i : Int) = (k : Int)) (Nat.le_sub_of_add_le this) fun d hd => ?_
  have hn := n_pred (Nat.lt_of_le_of_lt (Nat.zero_le _) this)
  rw [hd] at hn
  lia
inductive Tr where
  | cat (f c e : Nat)
  | fin (f m l r : Nat)
noncomputable def Tr.e : Tr → V
  | .cat f c e => .tup [.int f, .int c, .none, .int e, .none]
  | .fin f m l r => .tup [.int f, .none, .int m, .int l, .int r]
noncomputable def Tr.cov : Tr → Nat → Bool
  | .cat f c _, p => decide (f ≤ p) && decide (p < c)
  | .fin f m _ _, p => decide (f ≤ p) && decide (p < m)
noncomputable def Tr.to : Tr → Nat × Option Nat
  | .cat _ c _ => (c, none)
  | .fin _ m _ r => (m, some r)
structure Live where
  t : Nat
  f : Nat
  b : Nat
noncomputable def Live.e (l : Live) : V := .tup [.int l.t, .int l.f, .int l.b, .str [99, 97, 108, 108]]
structure Code where
  rows : List Row
  trys : List Tr
  lives : List Live
  temps : Nat
structure Code.Sm (C : Code) : Prop where
  rows : C.rows.length ≤ 100
  trys : C.trys.length ≤ 10
  lives : C.lives.length ≤ 10
  temps : C.temps ≤ 100
noncomputable def namesV : V := .none
structure IsC (σ : H) (c : Nat) (C : Code) : Prop where
  sm : C.Sm
  ex : ∃ k r nn y l : Nat, σ[c]? = some (.inst k) ∧ σ[k]? = some (.attrs (.ref r) (.ref nn) (.int C.temps) (.ref y) (.ref l)) ∧ σ[r]? = some (.list (C.rows.map Row.e)) ∧
    σ[nn]? = some (.list [.str [97], .str [98]]) ∧ σ[y]? = some (.list (C.trys.map Tr.e)) ∧ σ[l]? = some (.list (C.lives.map Live.e))
theorem IsC.ext {σ σ' c C} (h : IsC σ c C) (e : Ext σ σ') : IsC σ' c C := by
  obtain ⟨sm, k, r, nn, y, l, h1, h2, h3, h4, h5, h6⟩ := h
  exact ⟨sm, k, r, nn, y, l, e.get h1, e.get h2, e.get h3, e.get h4, e.get h5, e.get h6⟩
theorem We_rows {σ c C} {Q : V → H → Prop} (h : IsC σ c C) (q : ∀ r, σ[r]? = some (.list (C.rows.map Row.e)) → Q (.ref r) σ) : We (vAttr .rows (.ref c) σ) Q := by
  obtain ⟨sm, k, r, nn, y, l, h1, h2, h3, h4, h5, h6⟩ := h
  exact We_attr h1 h2 (q r h3)
theorem We_names {σ c C} {Q : V → H → Prop} (h : IsC σ c C) (q : ∀ r, σ[r]? = some (.list [.str [97], .str [98]]) → Q (.ref r) σ) : We (vAttr .names (.ref c) σ) Q := by
  obtain ⟨sm, k, r, nn, y, l, h1, h2, h3, h4, h5, h6⟩ := h
  exact We_attr h1 h2 (q nn h4)
theorem We_temps {σ c C} {Q : V → H → Prop} (h : IsC σ c C) (q : Q (.int C.temps) σ) : We (vAttr .temps (.ref c) σ) Q := by
  obtain ⟨sm, k, r, nn, y, l, h1, h2, h3, h4, h5, h6⟩ := h
  exact We_attr h1 h2 q
theorem We_trys {σ c C} {Q : V → H → Prop} (h : IsC σ c C) (q : ∀ r, σ[r]? = some (.list (C.trys.map Tr.e)) → Q (.ref r) σ) : We (vAttr .trys (.ref c) σ) Q := by
  obtain ⟨sm, k, r, nn, y, l, h1, h2, h3, h4, h5, h6⟩ := h
  exact We_attr h1 h2 (q y h5)
theorem We_lives {σ c C} {Q : V → H → Prop} (h : IsC σ c C) (q : ∀ r, σ[r]? = some (.list (C.lives.map Live.e)) → Q (.ref r) σ) : We (vAttr .lives (.ref c) σ) Q := by
  obtain ⟨sm, k, r, nn, y, l, h1, h2, h3, h4, h5, h6⟩ := h
  exact We_attr h1 h2 (q l h6)
theorem nums_sp (r : Row) {σ} {Q : V → H → Prop} (q : QL σ (r.rd.map fun k => .int (k : Nat)) Q) : We (m_read_numbers [r.e] σ) Q := by
  refine runE rfl rfl ?_
  walk
  refine We_comp ?_
  walk
  refine reads_sp r fun n σ₁ e₁ l₁ h₁ => ?_
  refine We_compF (α := Opd) (enc := Opd.e) (L := r.rds) (f := fun o => o.t?.map fun k => V.int (k : Nat)) (fun ρ => ∃ y, ρ = [y]) ⟨.list, ?_, fun σ' e => itl (e.get h₁), ⟨none, rfl⟩, ?_, ?_⟩
  · exact r.rds_le
  · rintro o _ ρ σ' ⟨y, hy⟩ e
    subst hy
    refine ⟨[some o.e], rfl, ⟨_, rfl⟩, ?_⟩
    cases o
    all_goals (walk)
    all_goals exact ⟨Ext.refl, rfl⟩
  · intro m σ' e' l' h'
    refine q m σ' (e₁.trans e') (Nat.le_trans e₁.len l') ?_
    rw [h', ← Row.rds_rd, ← List.filterMap_eq_map, List.filterMap_filterMap]
    congr 3
    funext o
    cases o <;> rfl
theorem We_rev {n σ vs} {Q : V → H → Prop} (h : σ[n]? = some (.list vs)) (hl : vs.length ≤ 1000) (q : Q (.ref σ.length) (σ ++ [.list vs.reverse])) : We (vRev (.ref n) σ) Q := ⟨_, _, by show oL σ[n]? _ = _; rw [h]; exact if_pos hl, q⟩
theorem QL.here {σ σ' : H} {L : List V} {Q : V → H → Prop} (q : QL σ L Q) (e : Ext σ σ') : Q (.ref σ'.length) (σ' ++ [.list L]) := q _ _ (Ext.snoc e) e.len sng
noncomputable def hdl (T : List Tr) (p : Nat) : Option (Nat × Option Nat) := (T.reverse.find? (·.cov p)).map Tr.to
noncomputable def wE (w : Nat × Option Nat) : V := .tup [.int w.1, optV w.2]
theorem find_drop {α} (f : α → Bool) {l : List α} {i : Nat} {x} (h : l[i]? = some x) : (l.drop i).find? f = if f x = true then some x else (l.drop (i + 1)).find? f := by
  have hlt := (List.getElem?_eq_some_iff.mp h).1
  have : l.drop i = x :: l.drop (i + 1) := by
    rw [List.drop_eq_getElem_cons hlt]; congr 1
    exact (List.getElem?_eq_some_iff.mp h).2
  rw [this, List.find?_cons]
  cases f x <;> rfl
theorem handler_sp {T : List Tr} {y p σ} {Q : V → H → Prop} (hy : σ[y]? = some (.list (T.map Tr.e))) (hT : T.length ≤ 10) (q : QL σ ((hdl T p).toList.map wE) Q) : We (m_law_handler [.ref y, .int (p : Nat)] σ) Q := by
  refine runE rfl rfl ?_
  refine Wsq ?_
  refine Ws_for' ?_
  walk
  refine We_rev hy (by simp; lia) ?_
  refine ⟨.list, T.reverse.map Tr.e, fun i ρ σ' => Fm [some (.ref y), some (.int (p : Nat))] 5 ρ ∧ Ext (σ ++ [.list (T.reverse.map Tr.e)]) σ' ∧ hdl T p = ((T.reverse.drop i).find? (·.cov p)).map Tr.to, ?_, ?_, ?_, ?_⟩
  · rw [List.map_reverse]
    exact ⟨⟨_, rfl, rfl⟩, Ext.refl, rfl⟩
  · intro i ρ σ' h
    exact itl (h.2.1.get sng)
  · rintro i x ρ σ' N' hN hx ⟨hρ, hE, hf⟩
    apply fm5 hρ; intro a b c d e
    rw [List.getElem?_map] at hx
    obtain ⟨t, ht, rfl⟩ := Option.map_eq_some_iff.mp hx
    rw [find_drop _ ht] at hf
    induction t using Tr.casesOn with
    | cat f c e =>
      walk
      refine cbo (fun h1 => ?_) fun h1 => ?_
      · walk
        refine cbo (fun h2 => ?_) fun h2 => ?_
        · walk
          have : (Tr.cat f c e).cov p = true := cov_t h1 h2
          rw [if_pos this] at hf
          rw [hf] at q
          exact q.here (Ext.one.trans hE)
        · walk
          have : ¬ (Tr.cat f c e).cov p = true := Bool.not_eq_true _ ▸ (cov_2 h2 : (Tr.cat f c e).cov p = false)
          rw [if_neg this] at hf
          exact ⟨⟨_, rfl, rfl⟩, hE, hf⟩
      · walk
        have : ¬ (Tr.cat f c e).cov p = true := Bool.not_eq_true _ ▸ (cov_1 h1 : (Tr.cat f c e).cov p = false)
        rw [if_neg this] at hf
        exact ⟨⟨_, rfl, rfl⟩, hE, hf⟩
    | fin f m l r =>
      walk
      refine cbo (fun h1 => ?_) fun h1 => ?_
      · walk
        refine cbo (fun h2 => ?_) fun h2 => ?_
        · walk
          have : (Tr.fin f m l r).cov p = true := cov_t h1 h2
          rw [if_pos this] at hf
          rw [hf] at q
          exact q.here (Ext.one.trans hE)
        · walk
          have : ¬ (Tr.fin f m l r).cov p = true := Bool.not_eq_true _ ▸ (cov_2 h2 : (Tr.fin f m l r).cov p = false)
          rw [if_neg this] at hf
          exact ⟨⟨_, rfl, rfl⟩, hE, hf⟩
      · walk
        have : ¬ (Tr.fin f m l r).cov p = true := Bool.not_eq_true _ ▸ (cov_1 h1 : (Tr.fin f m l r).cov p = false)
        rw [if_neg this] at hf
        exact ⟨⟨_, rfl, rfl⟩, hE, hf⟩
  · rintro ρ σ' ⟨_, hE, hf⟩
    try (show ‹R → H → Prop› _ _; refine Imp.ap ‹_› ?_)
    rw [List.length_map, List.drop_length] at hf
    walk
    rw [hf] at q
    exact q.here (Ext.one.trans hE)
theorem We_idxM {α : Type} {f : α → V} {L : List α} {n p : Nat} {x : α} {σ} {Q : V → H → Prop} (hn : σ[n]? = some (.list (L.map f))) (hp : L[p]? = some x) (hl : L.length ≤ 100000) (q : Q (f x) σ) : We (vIdx (.ref n) (.int (p : Nat)) σ) Q :=
  We_idxL (k := p) hn (by rw [List.getElem?_map, hp]; rfl) rfl (by rw [List.length_map]; exact hl) q
theorem We_lenM {α : Type} {f : α → V} {L : List α} {n : Nat} {σ} {Q : V → H → Prop} (hn : σ[n]? = some (.list (L.map f))) (hl : L.length ≤ 100000) (q : Q (.int (L.length : Nat)) σ) : We (vLen [.ref n] σ) Q :=
  We_len hn (by rw [List.length_map]; exact hl) (by rw [List.length_map]; exact q)
theorem Code.Sm.r {C : Code} (h : C.Sm) : C.rows.length ≤ 100000 := by have := h.rows; lia
theorem Code.Sm.t {C : Code} (h : C.Sm) : C.trys.length ≤ 100000 := by have := h.trys; lia
theorem Code.Sm.l {C : Code} (h : C.Sm) : C.lives.length ≤ 100000 := by have := h.lives; lia
noncomputable def ded (n : Nat) : List Nat → List Nat → List Nat
  | acc, [] => acc
  | acc, x :: r => if x < n ∧ x ∉ acc then ded n (acc ++ [x]) r else ded n acc r
theorem mem_ded (n x : Nat) : ∀ (l acc : List Nat), x ∈ ded n acc l ↔ x ∈ acc ∨ (x ∈ l ∧ x < n)
  | [], acc => by simp [ded]
  | y :: r, acc => by
    unfold ded
    split
    · rename_i h
      rw [mem_ded n x r]
      simp only [List.mem_append, List.mem_singleton, List.mem_cons, List.not_mem_nil, or_false]
      constructor
      · rintro ((h1 | rfl) | h1)
        · exact .inl h1
        · exact .inr ⟨.inl rfl, h.1⟩
        · exact .inr ⟨.inr h1.1, h1.2⟩
      · rintro (h1 | ⟨rfl | h1, h2⟩)
        · exact .inl (.inl h1)
        · exact .inl (.inr rfl)
        · exact .inr ⟨h1, h2⟩
    · rename_i h
      rw [mem_ded n x r]
      simp only [List.mem_cons]
      constructor
      · rintro (h1 | h1)
        · exact .inl h1
        · exact .inr ⟨.inr h1.1, h1.2⟩
      · rintro (h1 | ⟨rfl | h1, h2⟩)
        · exact .inl h1
        · by_cases hx : x ∈ acc
          · exact .inl hx
          · exact absurd ⟨h2, hx⟩ h
        · exact .inr ⟨h1, h2⟩
theorem ded_len (n : Nat) : ∀ (l acc : List Nat), (ded n acc l).length ≤ acc.length + l.length
  | [], acc => by simp [ded]
  | y :: r, acc => by
    unfold ded
    split
    · have := ded_len n r (acc ++ [y]); simp at this ⊢; lia
    · have := ded_len n r acc; simp at this ⊢; lia
noncomputable def Row.cand (r : Row) (p : Nat) : List Nat := (if r.fall = true then [p + 1] else []) ++ r.tgt.toList
noncomputable def Code.nx (C : Code) (r : Row) (p : Nat) : List Nat := ded C.rows.length [] (r.cand p)
theorem cand_len (r : Row) (p : Nat) : (r.cand p).length ≤ 2 := by induction r <;> exact Nat.le_of_ble_eq_true rfl
theorem optV_none (o : Option Nat) : isNone (optV o) = o.isNone := by cases o <;> rfl
noncomputable def intsV (l : List Nat) : List V := l.map fun k => V.int (k : Nat)
theorem intsV_eq (l : List Nat) : intsV l = (l.map fun k : Nat => (k : Int)).map V.int := by simp [intsV, Function.comp_def]
theorem contains_cast (k : Nat) (l : List Nat) : (l.map fun k : Nat => (k : Int)).contains (k : Int) = l.contains k := by
  rw [Bool.eq_iff_iff]
  simp only [List.contains_iff_mem, List.mem_map]
  constructor
  · rintro ⟨a, h, e⟩
    have : a = k := by lia
    exact this ▸ h
  · exact fun h => ⟨k, h, rfl⟩
theorem We_inN {n : Nat} {l : List Nat} {k : Nat} {σ} {Q : V → H → Prop} (hn : σ[n]? = some (.list (intsV l))) (q : Q (.bool (l.contains k)) σ) : We (vIn (.int (k : Nat)) (.ref n) σ) Q := by
  rw [intsV_eq] at hn
  exact We_inI hn (by rw [contains_cast]; exact q)
theorem We_niNl {n : Nat} {l : List Nat} {k : Nat} {σ} {Q : V → H → Prop} (hn : σ[n]? = some (.list (intsV l))) (q : Q (.bool !(l.contains k)) σ) : We (vNotIn (.int (k : Nat)) (.ref n) σ) Q := by
  rw [intsV_eq] at hn
  exact We_niI hn (by rw [contains_cast]; exact q)
theorem Row.fall_in (r : Row) : strsIn r.op [.str [106, 117, 109, 112], .str [99, 97, 108, 108, 95, 102, 105, 110, 97, 108, 108, 121], .str [114, 101, 116, 117, 114, 110], .str [116, 104, 114, 111, 119], .str [109, 97, 116, 99, 104, 95, 102, 97, 117, 108, 116], .str [108, 101, 102, 116]] = some (!r.fall) := by induction r <;> rfl
theorem Row.no_end (r : Row) : (r.op == [101, 110, 100, 95, 102, 105, 110, 97, 108, 108, 121]) = false := by induction r <;> rfl
theorem nexts_sp {C : Code} {c p : Nat} {r : Row} {σ} {Q : V → H → Prop} (hc : IsC σ c C) (hr : C.rows[p]? = some r) (q : QL σ (intsV (C.nx r p)) Q) : We (m_nexts [.ref c, .int (p : Nat)] σ) Q := by
  refine runE rfl rfl ?_
  lk
  refine We_rows hc fun nr hnr => ?_
  lk
  refine We_idxM hnr hr hc.sm.r ?_
  lk
  refine target_sp r ?_
  lk
  refine Wsc (fun ρ σ' => ρ = [some (.ref c), some (.int (p : Nat)), some r.e, some (optV r.tgt), some (.ref σ.length), none, none] ∧ Ext σ σ' ∧ σ'[σ.length]? = some (.list (intsV (if r.fall = true then [p + 1] else [])))) ?_ fun ρ σ1 hz => ?_
  · intro N' hN
    unfold Row.e
    walk
    refine We_niS _ r.okop r.fall_in ?_
    lk
    rw [Bool.not_not]
    refine cbo (fun hf => ?_) fun hf => ?_
    · walk
      refine ⟨ty_list sng, ?_⟩
      walk
      refine Wap sng (Nat.le_of_ble_eq_true rfl) ?_
      walk
      refine ⟨rfl, Ext.one.set (Nat.le_refl _), ?_⟩
      rw [hf]
      exact upg sng
    · walk
      refine ⟨rfl, Ext.one, ?_⟩
      rw [hf]
      exact sng
  apply and3 hz; clear hz; intro hρ e1 h1
  subst hρ
  refine Wsc (fun ρ σ' => ρ = [some (.ref c), some (.int (p : Nat)), some r.e, some (optV r.tgt), some (.ref σ.length), none, none] ∧ Ext σ σ' ∧ σ'[σ.length]? = some (.list (intsV (r.cand p)))) ?_ fun ρ σ2 hz => ?_
  · intro N' hN
    walk
    refine We_niN (optV_none _) ?_
    lk
    refine cbo (fun hf => ?_) fun hf => ?_
    · walk
      refine ⟨ty_list h1, ?_⟩
      walk
      refine Wap h1 (by split <;> exact Nat.le_of_ble_eq_true rfl) ?_
      walk
      refine ⟨rfl, e1.set (Nat.le_refl _), ?_⟩
      rw [upg h1]
      congr 2
      unfold Row.cand
      obtain ⟨t, ht⟩ : ∃ t, r.tgt = some t := by cases h : r.tgt <;> simp [h] at hf ⊢
      rw [ht]
      simp [intsV, optV]
    · walk
      refine ⟨rfl, e1, ?_⟩
      rw [h1]
      congr 2
      unfold Row.cand
      have ht : r.tgt = none := by cases h : r.tgt <;> simp [h] at hf ⊢
      rw [ht]
      simp
  apply and3 hz; clear hz; intro hρ e2 h2
  subst hρ
  refine Wsq ?_
  walk
  refine We_eqS r.okop rfl r.no_end ?_
  lk
  refine Wsc (fun ρ σ' => (∃ x, ρ = [some (.ref c), some (.int (p : Nat)), some r.e, some (optV r.tgt), some (.ref σ.length), some (.ref σ2.length), x]) ∧ Ext σ σ' ∧ σ'[σ2.length]? = some (.list (intsV (C.nx r p)))) ?_ fun ρ σ3 hz => ?_
  · intro N' hN
    refine Ws_for' ?_
    walk
    have hne : σ.length ≠ σ2.length := by have := get_lt h2; lia
    refine ⟨.list, intsV (r.cand p), fun i ρ σ' => (∃ x acc, ρ = [some (.ref c), some (.int (p : Nat)), some r.e, some (optV r.tgt), some (.ref σ.length), some (.ref σ2.length), x] ∧ Ext σ σ' ∧ σ'[σ.length]? = some (.list (intsV (r.cand p))) ∧ σ'[σ2.length]? = some (.list (intsV acc)) ∧
        acc.length ≤ i ∧ i ≤ 2 ∧ ded C.rows.length acc ((r.cand p).drop i) = C.nx r p), ?_, ?_, ?_, ?_⟩
    · exact ⟨_, [], rfl, e2.snoc, sno h2, sng, Nat.le_refl _, by lia, rfl⟩
    · rintro i ρ σ' ⟨_, _, _, _, h, _⟩
      exact itl h
    · rintro i x ρ σ' N' hN hx ⟨x0, acc, hz⟩
      apply and7 hz; clear hz; intro hρ he ha hb hl hl2 hd
      subst hρ
      unfold intsV at hx
      rw [List.getElem?_map] at hx
      obtain ⟨y, hy, rfl⟩ := Option.map_eq_some_iff.mp hx
      have hlt := (List.getElem?_eq_some_iff.mp hy).1
      have hc2 := cand_len r p
      have hdr : (r.cand p).drop i = y :: (r.cand p).drop (i + 1) := by
        rw [List.drop_eq_getElem_cons hlt]; congr 1
        exact (List.getElem?_eq_some_iff.mp hy).2
      rw [hdr] at hd
      unfold ded at hd
      walk
      refine We_rows (hc.ext he) fun nr hnr => ?_
      walk
      refine We_lenM hnr hc.sm.r ?_
      walk
      refine cbo (fun h1 => ?_) fun h1 => ?_
      · walk
        refine We_niNl hb ?_
        walk
        refine cbo (fun h2 => ?_) fun h2 => ?_
        · walk
          refine ⟨ty_list hb, ?_⟩
          walk
          refine Wap hb (by simp [intsV]; lia) ?_
          walk
          simp at h1 h2
          rw [if_pos ⟨h1, h2⟩] at hd
          refine ⟨_, acc ++ [y], rfl, he.set e2.len, upd_ne' (Ne.symm hne) ha, ?_, by simp; lia, by lia, hd⟩
          rw [upg hb]
          simp [intsV]
        · walk
          simp at h1 h2
          rw [if_neg (by simp [h2])] at hd
          exact ⟨_, acc, rfl, he, ha, hb, by lia, by lia, hd⟩
      · walk
        simp at h1
        rw [if_neg (by simp; lia)] at hd
        exact ⟨_, acc, rfl, he, ha, hb, by lia, by lia, hd⟩
    · rintro ρ σ' ⟨x0, acc, hz⟩
      try (show ‹R → H → Prop› _ _; refine Imp.ap ‹_› ?_)
      apply and7 hz; clear hz; intro hρ he ha hb hl hl2 hd
      have : (intsV (r.cand p)).length = (r.cand p).length := by simp [intsV]
      rw [this, List.drop_length] at hd
      unfold ded at hd
      exact ⟨⟨_, hρ⟩, he, by rw [hb, hd]⟩
  obtain ⟨⟨x, hρ⟩, e3, h3⟩ := hz
  subst hρ
  walk
  exact q _ _ e3 e2.len h3
theorem tsn {α} {l : List α} {i : Nat} {x} (h : l[i]? = some x) : l.take (i + 1) = l.take i ++ [x] := by rw [List.take_add_one, h]; rfl
theorem rev_get {α} {l : List α} {i : Nat} (h : i < l.length) : l.reverse[i]? = l[l.length - 1 - i]? := by rw [List.getElem?_reverse h]
theorem range_get {n i : Nat} {x : Nat} (h : (List.range n)[i]? = some x) : x = i ∧ i < n := by
  have hlt := (List.getElem?_eq_some_iff.mp h).1
  rw [List.length_range] at hlt
  rw [List.getElem?_range hlt] at h
  exact ⟨(Option.some.inj h).symm, hlt⟩
noncomputable def catL (o : Option Tr) : List V × Bool := match o with
  | none => ([], true)
  | some t => ([.int t.to.1], false)
theorem hdl_catL (T : List Tr) (p : Nat) : (catL (T.reverse.find? (·.cov p))).1 = (hdl T p).toList.map fun w => V.int (w.1 : Nat) := by
  unfold hdl
  cases T.reverse.find? (·.cov p) <;> rfl
theorem Row.no_stop (r : Row) : strsIn r.op [.str [121, 105, 101, 108, 100], .str [121, 105, 101, 108, 100, 95, 102, 114, 111, 109], .str [101, 110, 100, 95, 102, 105, 110, 97, 108, 108, 121]] = some false := by induction r <;> rfl
theorem catchers_sp {C : Code} {c p : Nat} {r : Row} {σ} {Q : V → H → Prop} (hc : IsC σ c C) (hr : C.rows[p]? = some r) (q : QL σ ((hdl C.trys p).toList.map fun w => V.int (w.1 : Nat)) Q) : We (m_catchers [.ref c, .int (p : Nat)] σ) Q := by
  refine runE rfl rfl ?_
  lk
  refine We_rows (hc.ext Ext.one) fun nr hnr => ?_
  lk
  refine We_idxM hnr hr hc.sm.r ?_
  lk
  refine We_inS false r.okop r.no_stop ?_
  refine Wsc (fun ρ σ' => Fm [some (.ref c), some (.int (p : Nat)), some (.ref σ.length)] 8 ρ ∧ Ext σ σ' ∧ σ'[σ.length]? = some (.list (catL (C.trys.reverse.find? (·.cov p))).1)) ?_ fun ρ σ1 hz => ?_
  · intro N' hN
    refine Ws_for' ?_
    lk
    refine We_trys (hc.ext Ext.one) fun ny hny => ?_
    lk
    refine We_lenM hny hc.sm.t ?_
    lk
    refine We_rng3 (by have := hc.sm.trys; lia) ?_
    have hcv : ∀ i, i ≤ C.trys.length → (C.trys.reverse.take i).length = i := by intro i hi; simp [hi]
    refine ⟨.fix, (List.range C.trys.length).map fun i => V.int ((C.trys.length - 1 - i : Nat) : Int), fun i ρ σ' => Fm [some (.ref c), some (.int (p : Nat)), some (.ref σ.length), some (.bool (catL ((C.trys.reverse.take i).find? (·.cov p))).2), some (.bool false)] 6 ρ ∧ Ext σ σ' ∧ σ'[σ.length]? = some (.list (catL ((C.trys.reverse.take i).find? (·.cov p))).1), ?_, ?_, ?_, ?_⟩
    · exact ⟨⟨_, rfl, rfl⟩, Ext.one, sng⟩
    · intro i ρ σ' _
      exact it_down hc.sm.t
    · rintro i x ρ σ' N' hN hx ⟨hρ, he, hl⟩
      apply fm6 hρ; intro x1 x2 x3 x4 x5 x6
      rw [List.getElem?_map] at hx
      obtain ⟨i', hi', rfl⟩ := Option.map_eq_some_iff.mp hx
      obtain ⟨rfl, hlt⟩ := range_get hi'
      have hlt' := n_sub1 hlt (rfl : C.trys.length - 1 - i' = _)
      obtain ⟨t, ht⟩ : ∃ t, C.trys[C.trys.length - 1 - i']? = some t := ⟨_, List.getElem?_eq_getElem hlt'⟩
      have ht' : C.trys.reverse[i']? = some t := by rw [rev_get hlt]; exact ht
      have htk := tsn ht'
      lk
      refine We_trys (hc.ext he) fun ny' hny' => ?_
      lk
      refine We_idxM hny' ht hc.sm.t ?_
      rw [htk, List.find?_append] at hN
      cases hf : (C.trys.reverse.take i').find? (·.cov p) with
      | some t0 =>
        rw [hf] at hl hN
        induction t using Tr.casesOn with
        | cat f k e =>
          walk
          refine cbo (fun h1 => ?_) fun h1 => ?_
          · walk
            refine cbo (fun h2 => ?_) fun h2 => ?_
            · (walk); exact ⟨⟨_, rfl, rfl⟩, he, hl⟩
            · (walk); exact ⟨⟨_, rfl, rfl⟩, he, hl⟩
          · (walk); exact ⟨⟨_, rfl, rfl⟩, he, hl⟩
        | fin f m l k =>
          walk
          refine cbo (fun h1 => ?_) fun h1 => ?_
          · walk
            refine cbo (fun h2 => ?_) fun h2 => ?_
            · (walk); exact ⟨⟨_, rfl, rfl⟩, he, hl⟩
            · (walk); exact ⟨⟨_, rfl, rfl⟩, he, hl⟩
          · (walk); exact ⟨⟨_, rfl, rfl⟩, he, hl⟩
      | none =>
        rw [hf] at hl hN
        induction t using Tr.casesOn with
        | cat f k e =>
          walk
          refine cbo (fun h1 => ?_) fun h1 => ?_
          · walk
            refine cbo (fun h2 => ?_) fun h2 => ?_
            · have : (Tr.cat f k e).cov p = true := cov_t h1 h2
              rw [List.find?_cons, this] at hN
              walk
              refine ⟨ty_list hl, ?_⟩
              walk
              refine Wap hl (Nat.le_of_ble_eq_true rfl) ?_
              (walk); exact ⟨⟨_, rfl, rfl⟩, he.set (Nat.le_refl _), upg hl⟩
            · have : (Tr.cat f k e).cov p = false := cov_2 h2
              rw [List.find?_cons, this] at hN
              (walk); exact ⟨⟨_, rfl, rfl⟩, he, hl⟩
          · have : (Tr.cat f k e).cov p = false := cov_1 h1
            rw [List.find?_cons, this] at hN
            (walk); exact ⟨⟨_, rfl, rfl⟩, he, hl⟩
        | fin f m l k =>
          walk
          refine cbo (fun h1 => ?_) fun h1 => ?_
          · walk
            refine cbo (fun h2 => ?_) fun h2 => ?_
            · have : (Tr.fin f m l k).cov p = true := cov_t h1 h2
              rw [List.find?_cons, this] at hN
              walk
              refine ⟨ty_list hl, ?_⟩
              walk
              refine Wap hl (Nat.le_of_ble_eq_true rfl) ?_
              (walk); exact ⟨⟨_, rfl, rfl⟩, he.set (Nat.le_refl _), upg hl⟩
            · have : (Tr.fin f m l k).cov p = false := cov_2 h2
              rw [List.find?_cons, this] at hN
              (walk); exact ⟨⟨_, rfl, rfl⟩, he, hl⟩
          · have : (Tr.fin f m l k).cov p = false := cov_1 h1
            rw [List.find?_cons, this] at hN
            (walk); exact ⟨⟨_, rfl, rfl⟩, he, hl⟩
    · rintro ρ σ' ⟨hρ, he, hl⟩
      try (show ‹R → H → Prop› _ _; refine Imp.ap ‹_› ?_)
      have hn : ((List.range C.trys.length).map fun i => V.int ((C.trys.length - 1 - i : Nat) : Int)).length = C.trys.reverse.length := by simp
      rw [hn, List.take_length] at hl
      apply fm6 hρ; intro x1 x2 x3 x4 x5 x6
      exact ⟨⟨_, rfl, rfl⟩, he, hl⟩
  obtain ⟨hρ, e1, h1⟩ := hz
  apply fm8 hρ; intro a b x1 x2 x3 x4 x5 x6
  lk
  rw [hdl_catL] at h1
  exact q _ _ e1 (Nat.le_refl _) h1
noncomputable def retF (p m : Nat) : Tr → Option Nat
  | .fin f m' _ r => if m' = m ∧ f ≤ p ∧ p < m' then some r else none
  | _ => none
noncomputable def retAt (T : List Tr) (p m : Nat) : Option Nat := (T.filterMap (retF p m)).getLast?
theorem ret_sp {C : Code} {c p m : Nat} {σ} {Q : V → H → Prop} (hc : IsC σ c C) (q : ∀ σ', Ext σ σ' → Q (optV (retAt C.trys p m)) σ') : We (m_ret_at [.ref c, .int (p : Nat), .int (m : Nat)] σ) Q := by
  refine runE rfl rfl ?_
  lk
  refine Wsc (fun ρ σ' => Fm [some (.ref c), some (.int (p : Nat)), some (.int (m : Nat)), some (optV (retAt C.trys p m))] 5 ρ ∧ Ext σ σ') ?_ fun ρ σ1 hz => ?_
  · intro N' hN
    refine Ws_for' ?_
    lk
    refine We_trys hc fun ny hny => ?_
    refine ⟨.list, C.trys.map Tr.e, fun i ρ σ' => Fm [some (.ref c), some (.int (p : Nat)), some (.int (m : Nat)), some (optV (retAt (C.trys.take i) p m))] 5 ρ ∧ Ext σ σ', ?_, ?_, ?_, ?_⟩
    · exact ⟨⟨_, rfl, rfl⟩, Ext.refl⟩
    · intro i ρ σ' h
      exact itl (h.2.get hny)
    · rintro i x ρ σ' N' hN hx ⟨hρ, he⟩
      apply fm5 hρ; intro x1 x2 x3 x4 x5
      rw [List.getElem?_map] at hx
      obtain ⟨t, ht, rfl⟩ := Option.map_eq_some_iff.mp hx
      unfold retAt at hN
      rw [tsn ht, List.filterMap_append] at hN
      induction t using Tr.casesOn with
      | cat f k e =>
        walk
        refine We_eqN ?_
        walk
        rw [show List.filterMap (retF p m) [Tr.cat f k e] = [] from rfl, List.append_nil]
        exact ⟨⟨_, rfl, rfl⟩, he⟩
      | fin f m' l k =>
        lk
        have hn : ∀ {ρ : R}, ρ = [some (V.ref c), some (V.int p), some (V.int m), some (optV ((C.trys.take i).filterMap (retF p m)).getLast?), some (V.int f), some V.none, some (V.int m'), some (V.int l), some (V.int k)] → ¬ (m' = m ∧ f ≤ p ∧ p < m') →
            Fm [some (V.ref c), some (V.int p), some (V.int m), some (optV ((C.trys.take i).filterMap (retF p m) ++ List.filterMap (retF p m) [Tr.fin f m' l k]).getLast?)] 5 ρ ∧ Ext σ σ' := by
          intro ρ hρ hno
          rw [show List.filterMap (retF p m) [Tr.fin f m' l k] = [] by simp [retF, hno], List.append_nil]
          exact ⟨⟨_, hρ, rfl⟩, he⟩
        walk
        refine cbo (fun h1 => ?_) fun h1 => ?_
        · walk
          refine cbo (fun h2 => ?_) fun h2 => ?_
          · walk
            refine cbo (fun h3 => ?_) fun h3 => ?_
            · walk
              have hh : m' = m ∧ f ≤ p ∧ p < m' := by simp at h1 h2 h3; lia
              have hg : retF p m (Tr.fin f m' l k) = some k := if_pos hh
              rw [List.filterMap_cons, hg, List.getLast?_append]
              exact ⟨⟨_, rfl, rfl⟩, he⟩
            · walk
              exact hn rfl (by simp at h1 h2 h3; lia)
          · walk
            exact hn rfl (by simp at h1 h2; lia)
        · walk
          exact hn rfl (by simp at h1; lia)
    · rintro ρ σ' ⟨hρ, he⟩
      try (show ‹R → H → Prop› _ _; refine Imp.ap ‹_› ?_)
      rw [List.length_map, List.take_length] at hρ
      exact ⟨hρ, he⟩
  obtain ⟨hρ, e1⟩ := hz
  apply fm5 hρ; intro x1 x2 x3 x4 x5
  lk
  exact q _ e1
theorem Row.stop3 (r : Row) : strsIn r.op [.str [106, 117, 109, 112], .str [114, 101, 116, 117, 114, 110], .str [116, 104, 114, 111, 119]] = some (!r.fall) := by induction r <;> rfl
theorem Row.nonext (r : Row) : (r.op == [110, 101, 120, 116]) = false := by induction r <;> rfl
noncomputable def Code.wy (C : Code) (r : Row) (p : Nat) : List (Nat × Option Nat) := (if r.fall = true then [(p + 1, r.to)] else []) ++ (r.tgt.toList.map fun t => (t, r.to)) ++ (hdl C.trys p).toList
theorem wE_one (a : Nat) (o : Option Nat) : V.tup [.int (a : Nat), optV o] = wE (a, o) := rfl
theorem lways_sp {C : Code} {c p : Nat} {r : Row} {σ} {Q : V → H → Prop} (hc : IsC σ c C) (hr : C.rows[p]? = some r) (q : QL σ ((C.wy r p).map wE) Q) : We (m_law_ways [.ref c, .int (p : Nat)] σ) Q := by
  refine runE rfl rfl ?_
  have hok := r.okop
  have hst := r.stop3
  have h4 := r.h4
  have hl4 := r.hl4
  have hok4 := r.hok4
  lk
  refine We_rows hc fun nr hnr => ?_
  lk
  refine We_idxM hnr hr hc.sm.r ?_
  lk
  refine We_inSL _ sng hok hst ?_
  lk
  have key : ∀ (n : Nat) (σ1 : H) (L : List (Nat × Option Nat)), Ext σ σ1 → σ.length ≤ n → L = (if r.fall = true then [(p + 1, r.to)] else []) → σ1[n]? = some (.list (L.map wE)) →
      Wq (PS.wp (pWhen (pB (p2 vEq (p1 (vTake 4) (pV 2)) (pC (.str [106, 117, 109, 112])))) (pSeq (pDo (pM "list" vAppend (pV 6) [pTup [pV 5, pV 3]])) pNil) pNil)) (PS.wp (pSeq (pRet (p2 vAdd (pV 6) (pN m_law_handler [p1 (vAttr .trys) (pV 0), pV 1]))) pNil))
        [some (.ref c), some (.int (p : Nat)), some (.str r.op), some (optV r.to), some r.a, some r.b, some (.ref n)] σ1 (kNone Q) Q := by
    intro n σ1 L e1 hn hL h1
    refine Wsc (fun ρ σ' => ρ = [some (.ref c), some (.int (p : Nat)), some (.str r.op), some (optV r.to), some r.a, some r.b, some (.ref n)] ∧ Ext σ σ' ∧ σ'[n]? = some (.list ((L ++ r.tgt.toList.map fun t => (t, r.to)).map wE))) ?_ fun ρ σ2 hz => ?_
    · intro N' hN
      walk
      refine ⟨.str (r.op.take 4), σ1, if_pos hl4, ?_⟩
      walk
      refine We_eqS hok4 rfl h4 ?_
      lk
      refine cbo (fun hf => ?_) fun hf => ?_
      · obtain ⟨t, ht⟩ : ∃ t, r.tgt = some t := by cases h : r.tgt <;> simp [h] at hf ⊢
        have hb := r.b_t ht
        walk
        refine ⟨ty_list h1, ?_⟩
        walk
        refine Wap h1 (by subst hL; split <;> exact Nat.le_of_ble_eq_true rfl) ?_
        walk
        refine ⟨rfl, e1.set hn, ?_⟩
        rw [upg h1, ht, hb]
        simp [wE]
      · have ht : r.tgt = none := by cases h : r.tgt <;> simp [h] at hf ⊢
        walk
        refine ⟨rfl, e1, ?_⟩
        rw [h1, ht]
        simp
    apply and3 hz; clear hz; intro hρ e2 h2
    subst hρ
    lk
    refine We_trys (hc.ext e2) fun ny hny => ?_
    lk
    refine handler_sp hny hc.sm.trys fun m σ3 e3 l3 h3 => ?_
    refine We_addL (e3.get h2) h3 ?_ ?_
    · have := opt_le r.tgt
      have h' : (hdl C.trys p).toList.length ≤ 1 := by cases hdl C.trys p <;> simp
      have : L.length ≤ 1 := by subst hL; split <;> simp
      simp; lia
    · rw [← List.map_append]
      subst hL
      exact q.here (e2.trans e3)
  refine cbo (fun hf => ?_) fun hf => ?_
  · lk
    refine key _ _ [] (Ext.snoc Ext.one) (by simp) ?_ sng
    simp at hf
    simp [hf]
  · lk
    refine key _ _ [(p + 1, r.to)] (Ext.snoc Ext.one) (by simp) ?_ sng
    simp at hf
    simp [hf]
noncomputable def WL (lo : Nat) (σ : H) (L : List V) (ws : List (Nat × Option Nat)) : Prop :=
  L.length = ws.length ∧ ∀ (i : Nat) (w : Nat × Option Nat), ws[i]? = some w → ∃ g, lo < g ∧ L[i]? = some (.tup [.int w.1, .ref g]) ∧ σ[g]? = some (.list (intsV w.2.toList))
theorem WL.nil {lo σ} : WL lo σ [] [] := ⟨rfl, fun i w h => by simp at h⟩
theorem WL.ext {lo σ σ' L ws} (h : WL lo σ L ws) (e : Ext σ σ') : WL lo σ' L ws := ⟨h.1, fun i w hi => let ⟨g, a, b, c⟩ := h.2 i w hi; ⟨g, a, b, e.get c⟩⟩
theorem WL.upd {lo σ o L ws} (h : WL lo σ L ws) : WL lo (σ.set lo o) L ws := ⟨h.1, fun i w hi => let ⟨g, a, b, c⟩ := h.2 i w hi; ⟨g, a, b, upd_ne' (by lia) c⟩⟩
theorem WL.snoc {lo σ L ws w g} (h : WL lo σ L ws) (hg : lo < g) (hs : σ[g]? = some (.list (intsV w.2.toList))) : WL lo σ (L ++ [.tup [.int w.1, .ref g]]) (ws ++ [w]) := by
  refine ⟨by simp [h.1], fun i x hi => ?_⟩
  by_cases hl : i < ws.length
  · rw [List.getElem?_append_left hl] at hi
    obtain ⟨g', a, b, c⟩ := h.2 i x hi
    exact ⟨g', a, by rw [List.getElem?_append_left (by rw [h.1]; exact hl)]; exact b, c⟩
  · have hi' := (List.getElem?_eq_some_iff.mp hi).1
    simp at hi'
    have : i = ws.length := by lia
    subst this
    simp at hi
    subst hi
    exact ⟨g, hg, by rw [← h.1]; simp, hs⟩
noncomputable def WaysV (ws : List (Nat × Option Nat)) (v : V) (σ : H) : Prop := ∃ n L, v = .ref n ∧ σ[n]? = some (.list L) ∧ WL n σ L ws
theorem WaysV.ext {ws v σ σ'} (h : WaysV ws v σ) (e : Ext σ σ') : WaysV ws v σ' := let ⟨n, L, a, b, c⟩ := h; ⟨n, L, a, e.get b, c.ext e⟩
noncomputable def Code.ways (C : Code) (r : Row) (p : Nat) : List (Nat × Option Nat) := ((C.nx r p).map fun q => (q, r.to)) ++ (hdl C.trys p).toList
theorem nx_len (C : Code) (r : Row) (p : Nat) : (C.nx r p).length ≤ 2 := by
  have := ded_len C.rows.length (r.cand p) []
  have := cand_len r p
  unfold Code.nx
  simp at *; lia
theorem ways_sp {C : Code} {c p : Nat} {r : Row} {σ} {Q : V → H → Prop} (hc : IsC σ c C) (hr : C.rows[p]? = some r) (hw : ∀ w, hdl C.trys p = some w → retAt C.trys p w.1 = w.2)
    (q : ∀ v σ', Ext σ σ' → WaysV (C.ways r p) v σ' → Q v σ') : We (m_ways_of [.ref c, .int (p : Nat)] σ) Q := by
  refine runE rfl rfl ?_
  have hok := r.okop
  have hnext := r.nonext
  lk
  refine We_rows hc fun nr hnr => ?_
  lk
  refine We_idxM hnr hr hc.sm.r ?_
  lk
  refine Wsc (fun ρ σ' => Fm [some (.ref c), some (.int (p : Nat)), some r.e, some (.ref σ.length)] 3 ρ ∧ Ext σ σ' ∧ ∃ L, σ'[σ.length]? = some (.list L) ∧ WL σ.length σ' L ((C.nx r p).map fun q => (q, r.to))) ?_ fun ρ σ1 hz => ?_
  · intro N' hN
    refine Ws_for' ?_
    lk
    refine nexts_sp (hc.ext Ext.one) hr fun nn σ2 e2 l2 h2 => ?_
    refine ⟨.list, intsV (C.nx r p), fun i ρ σ' => Fm [some (.ref c), some (.int (p : Nat)), some r.e, some (.ref σ.length)] 3 ρ ∧ Ext σ σ' ∧ σ'[nn]? = some (.list (intsV (C.nx r p))) ∧ ∃ L, σ'[σ.length]? = some (.list L) ∧ WL σ.length σ' L (((C.nx r p).take i).map fun q => (q, r.to)), ?_, ?_, ?_, ?_⟩
    · exact ⟨⟨_, rfl, rfl⟩, Ext.one.trans e2, h2, [], e2.get sng, WL.nil⟩
    · intro i ρ σ' h
      exact itl h.2.2.1
    · rintro i x ρ σ' N' hN hx ⟨hρ, he, hn, L, hL, hW⟩
      apply fm3 hρ; intro x1 x2 x3
      unfold intsV at hx
      rw [List.getElem?_map] at hx
      obtain ⟨y, hy, rfl⟩ := Option.map_eq_some_iff.mp hx
      have hlt := (List.getElem?_eq_some_iff.mp hy).1
      have hn2 := nx_len C r p
      walk
      refine We_eqS hok rfl hnext ?_
      walk
      refine ⟨ty_list hL, ?_⟩
      walk
      refine writes_sp r fun ng σ3 e3 l3 h3 => ?_
      walk
      have hLl : L.length ≤ 2 := by rw [hW.1]; simp; lia
      refine Wap (e3.get hL) (by lia) ?_
      walk
      have hlo : σ.length < ng := by have := get_lt hL; lia
      have hne : nn ≠ σ.length := by simp at l2; lia
      refine ⟨⟨_, rfl, rfl⟩, (he.trans e3).set (Nat.le_refl _), upd_ne' (Ne.symm hne) (e3.get hn), _, upg (e3.get hL), ?_⟩
      rw [tsn hy, List.map_append]
      exact WL.upd (WL.snoc (w := (y, r.to)) (hW.ext e3) hlo h3)
    · rintro ρ σ' ⟨hρ, he, hn, L, hL, hW⟩
      try (show ‹R → H → Prop› _ _; refine Imp.ap ‹_› ?_)
      have : (intsV (C.nx r p)).length = (C.nx r p).length := by simp [intsV]
      rw [this, List.take_length] at hW
      exact ⟨hρ, he, L, hL, hW⟩
  obtain ⟨hρ, e1, L1, h1, w1⟩ := hz
  apply fm3 hρ; intro x1 x2 x3
  refine Wsc (fun ρ σ' => Fm [some (.ref c), some (.int (p : Nat)), some r.e, some (.ref σ.length)] 3 ρ ∧ Ext σ σ' ∧ ∃ L, σ'[σ.length]? = some (.list L) ∧ WL σ.length σ' L (C.ways r p)) ?_ fun ρ σ2 hz => ?_
  · intro N' hN
    refine Ws_for' ?_
    lk
    refine catchers_sp (hc.ext e1) hr fun nc σ2 e2 l2 h2 => ?_
    lk
    unfold Code.ways at hN
    cases hh : hdl C.trys p with
    | none =>
      rw [hh] at h2 hN
      refine for0 (itl h2) (hN.ap ⟨⟨_, rfl, rfl⟩, e1.trans e2, L1, e2.get h1, ?_⟩)
      simpa using w1.ext e2
    | some w =>
      rw [hh] at h2 hN
      refine for1 (itl h2) fun N2 hN2 => ?_
      lk
      refine ret_sp (hc.ext (e1.trans e2)) fun σ3 e3 => ?_
      rw [hw w hh]
      have h1' := (e2.trans e3).get h1
      lk
      refine ⟨ty_list h1', ?_⟩
      lk
      refine We_isN (optV_none _) ?_
      lk
      have hLl : L1.length ≤ 2 := by rw [w1.1]; have := nx_len C r p; simp; lia
      have fin : ∀ (ρ : R) L, Fm [some (.ref c), some (.int (p : Nat)), some r.e, some (.ref σ.length)] 3 ρ → L = intsV w.2.toList → N2 ρ ((σ3 ++ [MO.list L] : H).set σ.length (MO.list (L1 ++ [V.tup [.int w.1, .ref σ3.length]]))) := by
        intro ρ L hρ hL
        have hne : nc ≠ σ.length := by have := get_lt h1; lia
        refine hN2.ap ⟨itl (upd_ne' (Ne.symm hne) (sno (e3.get h2))), hN.ap ⟨hρ, ((e1.trans (e2.trans e3)).snoc).set (Nat.le_refl _), _, upg (sno h1'), ?_⟩⟩
        refine WL.upd (WL.snoc (w1.ext ((e2.trans e3).trans Ext.one)) (by have := get_lt h1'; lia) ?_)
        rw [← hL]; exact sng
      refine cbo (fun hf => ?_) fun hf => ?_
      · lk
        refine Wap (sno h1') (by lia) ?_
        have : w.2 = none := by cases h : w.2 <;> simp [h] at hf ⊢
        exact fin _ _ ⟨_, rfl, rfl⟩ (by rw [this]; rfl)
      · lk
        refine Wap (sno h1') (by lia) ?_
        obtain ⟨t, ht⟩ : ∃ t, w.2 = some t := by cases h : w.2 <;> simp [h] at hf ⊢
        exact fin _ _ ⟨_, rfl, rfl⟩ (by rw [ht]; rfl)
  obtain ⟨hρ, e2, L2, h2, w2⟩ := hz
  apply fm3 hρ; intro x1 x2 x3
  lk
  exact q _ _ e2 ⟨_, _, rfl, h2, w2⟩
theorem sub_len {a b : List Nat} (h : a.Nodup) (s : ∀ x ∈ a, x ∈ b) : a.length ≤ b.length := by
  induction a generalizing b with
  | nil => simp
  | cons y a ih =>
    obtain ⟨h1, h2⟩ := List.nodup_cons.mp h
    have hy := s y (.head _)
    have := ih (b := b.erase y) h2 fun x hx => (List.mem_erase_of_ne (show x ≠ y from fun e => h1 (e ▸ hx))).mpr (s x (.tail _ hx))
    rw [List.length_erase_of_mem hy] at this
    have := List.length_pos_of_mem hy
    simp; lia
theorem sub_all {a b : List Nat} (h : a.Nodup) (s : ∀ x ∈ a, x ∈ b) (hl : b.length ≤ a.length) : ∀ x ∈ b, x ∈ a := by
  intro x hx
  apply Classical.byContradiction
  intro hn
  have := sub_len (a := x :: a) (b := b) (List.nodup_cons.mpr ⟨hn, h⟩) (by intro z hz; cases hz; exact hx; exact s _ (by assumption))
  simp at this; lia
noncomputable def addS (l : List Nat) (k : Nat) : List Nat := if k ∈ l then l else l ++ [k]
theorem mem_addS {l : List Nat} {k x : Nat} : x ∈ addS l k ↔ x ∈ l ∨ x = k := by
  unfold addS; split
  · constructor
    · exact .inl
    · rintro (h | rfl) <;> assumption
  · simp
theorem nodup_addS {l : List Nat} {k : Nat} (h : l.Nodup) : (addS l k).Nodup := by
  unfold addS; split
  · exact h
  · rename_i hk
    rw [List.nodup_append]
    refine ⟨h, by simp, fun a ha b hb => ?_⟩
    simp at hb; subst hb
    exact fun e => hk (e ▸ ha)
theorem mem_foldAdd {x : Nat} : ∀ (ks l : List Nat), x ∈ ks.foldl addS l ↔ x ∈ l ∨ x ∈ ks
  | [], l => by simp
  | k :: r, l => by rw [List.foldl_cons, mem_foldAdd r, mem_addS, List.mem_cons, or_assoc]
theorem nodup_foldAdd : ∀ (ks l : List Nat), l.Nodup → (ks.foldl addS l).Nodup
  | [], _, h => h
  | k :: r, l, h => nodup_foldAdd r _ (nodup_addS h)
noncomputable def encS (ks : List Nat) : List (Int × V) := ks.map fun k : Nat => ((k : Int), V.bool true)
theorem encS_len (ks) : (encS ks).length = ks.length := by simp [encS]
theorem encS_keys (ks : List Nat) : ((encS ks).map fun p => V.int p.1) = intsV ks := by simp [encS, intsV, Function.comp_def]
theorem put_encS (k : Nat) : ∀ ks : List Nat, put (encS ks) (k : Int) (.bool true) = encS (addS ks k)
  | [] => by simp [encS, put, addS]
  | a :: r => by
    have ih := put_encS k r
    unfold encS at ih ⊢
    rw [List.map_cons, put]
    by_cases h : a = k
    · subst h
      rw [if_pos rfl]
      simp [addS]
    · rw [if_neg (by lia), ih]
      unfold addS
      have : k ∈ a :: r ↔ k ∈ r := by
        rw [List.mem_cons]; constructor
        · rintro (e | e); exact absurd e.symm h; exact e
        · exact .inr
      by_cases hk : k ∈ r
      · rw [if_pos hk, if_pos (this.mpr hk)]; simp
      · rw [if_neg hk, if_neg (fun e => hk (this.mp e))]; simp
theorem look_encS (k : Nat) : ∀ ks : List Nat, (look (encS ks) (k : Int)).isSome = ks.contains k
  | [] => rfl
  | a :: r => by
    have ih := look_encS k r
    unfold encS at ih ⊢
    rw [List.map_cons, look, List.contains_cons]
    by_cases h : a = k
    · subst h; simp
    · rw [if_neg (by lia), ih]
      have : (k == a) = false := by simp; lia
      rw [this, Bool.false_or]
noncomputable def Bd (ks : List Nat) : Prop := ks.Nodup ∧ ∀ t ∈ ks, t < 5
theorem Bd.len {ks} (h : Bd ks) : ks.length ≤ 5 := by
  have := sub_len (b := List.range 5) h.1 (fun x hx => List.mem_range.mpr (h.2 x hx))
  simpa using this
theorem Bd.add {ks k} (h : Bd ks) (hk : k < 5) : Bd (addS ks k) := ⟨nodup_addS h.1, fun t ht => by rcases mem_addS.mp ht with h' | rfl; exact h.2 t h'; exact hk⟩
theorem Bd.nil : Bd [] := ⟨.nil, by simp⟩
noncomputable def addG (g : Option Nat) (acc : List Nat) (t : Nat) : List Nat := if g = some t then acc else addS acc t
noncomputable def ahead (rd : List Nat) (ws : List (Nat × Option Nat)) (F : List (List Nat)) : List Nat :=
  rd.foldl addS (ws.foldl (fun acc w => (F.getD w.1 []).foldl (addG w.2) acc) [])
theorem mem_foldG {g : Option Nat} {x : Nat} : ∀ (ks l : List Nat), x ∈ ks.foldl (addG g) l ↔ x ∈ l ∨ (x ∈ ks ∧ g ≠ some x)
  | [], l => by simp
  | k :: r, l => by
    rw [List.foldl_cons, mem_foldG r]
    unfold addG
    split
    · rename_i h; subst h
      simp only [List.mem_cons]
      constructor
      · rintro (h | ⟨h1, h2⟩); exact .inl h; exact .inr ⟨.inr h1, h2⟩
      · rintro (h | ⟨rfl | h1, h2⟩); exact .inl h; exact absurd rfl h2; exact .inr ⟨h1, h2⟩
    · rename_i h
      rw [mem_addS]
      simp only [List.mem_cons]
      constructor
      · rintro ((h1 | rfl) | ⟨h1, h2⟩)
        · exact .inl h1
        · exact .inr ⟨.inl rfl, h⟩
        · exact .inr ⟨.inr h1, h2⟩
      · rintro (h1 | ⟨rfl | h1, h2⟩)
        · exact .inl (.inl h1)
        · exact .inl (.inr rfl)
        · exact .inr ⟨h1, h2⟩
theorem bd_foldG {g : Option Nat} : ∀ (ks l : List Nat), (∀ t ∈ ks, t < 5) → Bd l → Bd (ks.foldl (addG g) l)
  | [], _, _, h => h
  | k :: r, l, hk, h => by
    refine bd_foldG r _ (fun t ht => hk t (.tail _ ht)) ?_
    unfold addG; split
    · exact h
    · exact h.add (hk k (.head _))
theorem mem_foldW {F : List (List Nat)} {x : Nat} : ∀ (ws : List (Nat × Option Nat)) (l : List Nat), x ∈ ws.foldl (fun acc w => (F.getD w.1 []).foldl (addG w.2) acc) l ↔ x ∈ l ∨ ∃ w ∈ ws, x ∈ F.getD w.1 [] ∧ w.2 ≠ some x
  | [], l => by simp
  | w :: r, l => by
    rw [List.foldl_cons, mem_foldW r, mem_foldG, or_assoc]
    simp
theorem bd_foldW {F : List (List Nat)} (hF : ∀ l ∈ F, ∀ t ∈ l, t < 5) : ∀ (ws : List (Nat × Option Nat)) (l : List Nat), Bd l → Bd (ws.foldl (fun acc w => (F.getD w.1 []).foldl (addG w.2) acc) l)
  | [], l, h => h
  | w :: r, l, h => by
    refine bd_foldW hF r _ (bd_foldG _ _ (fun t ht => ?_) h)
    rw [List.getD_eq_getElem?_getD] at ht
    cases hg : F[w.1]? with
    | none => rw [hg] at ht; simp at ht
    | some l' => rw [hg] at ht; exact hF l' (List.mem_of_getElem? hg) t ht
theorem mem_ahead {rd ws F x} : x ∈ ahead rd ws F ↔ x ∈ rd ∨ ∃ w ∈ ws, x ∈ F.getD w.1 [] ∧ w.2 ≠ some x := by
  unfold ahead
  rw [mem_foldAdd, mem_foldW]
  simp [or_comm]
theorem bd_foldA : ∀ (ks l : List Nat), (∀ t ∈ ks, t < 5) → Bd l → Bd (ks.foldl addS l)
  | [], _, _, h => h
  | k :: r, l, hk, h => bd_foldA r _ (fun t ht => hk t (.tail _ ht)) (h.add (hk k (.head _)))
theorem bd_ahead {rd ws F} (hr : ∀ t ∈ rd, t < 5) (hF : ∀ l ∈ F, ∀ t ∈ l, t < 5) : Bd (ahead rd ws F) := bd_foldA _ _ hr (bd_foldW hF _ _ .nil)
structure LvV (σ : H) (n : Nat) (ds : List Nat) (F : List (List Nat)) : Prop where
  l : σ[n]? = some (.list (ds.map V.ref))
  len : ds.length = F.length
  at' : ∀ (i d : Nat) (ks : List Nat), ds[i]? = some d → F[i]? = some ks → σ[d]? = some (.dictI (encS ks))
theorem LvV.ext {σ σ' n ds F} (h : LvV σ n ds F) (e : Ext σ σ') : LvV σ' n ds F := ⟨e.get h.l, h.len, fun i d ks a b => e.get (h.at' i d ks a b)⟩
theorem LvV.upd {σ n ds F m o} (h : LvV σ n ds F) (hn : m ≠ n) (hd : m ∉ ds) : LvV (σ.set m o) n ds F :=
  ⟨upd_ne' hn h.l, h.len, fun i d ks a b => upd_ne' (fun e => hd (e ▸ List.mem_of_getElem? a)) (h.at' i d ks a b)⟩
theorem LvV.get {σ n ds F} (h : LvV σ n ds F) {i : Nat} (hi : i < F.length) : ∃ d, ds[i]? = some d ∧ σ[d]? = some (.dictI (encS (F.getD i []))) := by
  have h1 : i < ds.length := by rw [h.len]; exact hi
  refine ⟨ds[i], List.getElem?_eq_getElem h1, ?_⟩
  refine h.at' i _ _ (List.getElem?_eq_getElem h1) ?_
  rw [List.getD_eq_getElem?_getD, List.getElem?_eq_getElem hi]; rfl
theorem LvV.lt {σ n ds F} (h : LvV σ n ds F) : n < σ.length ∧ ∀ d ∈ ds, d < σ.length := by
  refine ⟨get_lt h.l, fun d hd => ?_⟩
  obtain ⟨i, hi, rfl⟩ := List.getElem_of_mem hd
  exact get_lt (h.at' i _ _ (List.getElem?_eq_getElem hi) (List.getElem?_eq_getElem (by rw [← h.len]; exact hi)))
theorem We_live {σ n ds F} {Q : V → H → Prop} {i : Nat} (h : LvV σ n ds F) (hi : i < F.length) (hF : F.length ≤ 100000) (q : ∀ d, ds[i]? = some d → σ[d]? = some (.dictI (encS (F.getD i []))) → Q (.ref d) σ) : We (vIdx (.ref n) (.int (i : Nat)) σ) Q := by
  obtain ⟨d, h1, h2⟩ := h.get hi
  exact We_idxM h.l h1 (by rw [h.len]; exact hF) (q d h1 h2)
theorem intsV_get {l : List Nat} {i : Nat} {x : V} (h : (intsV l)[i]? = some x) : ∃ k, l[i]? = some k ∧ x = .int (k : Nat) := by
  unfold intsV at h
  rw [List.getElem?_map] at h
  obtain ⟨y, hy, rfl⟩ := Option.map_eq_some_iff.mp h
  exact ⟨y, hy, rfl⟩
theorem ivl (l) : (intsV l).length = l.length := by simp [intsV]
theorem intsV_opt (g : Option Nat) (t : Nat) : (g.toList.contains t) = decide (g = some t) := by cases g <;> simp [eq_comm]
theorem ahead_sp {r : Row} {ws : List (Nat × Option Nat)} {wv : V} {nl : Nat} {ds F σ} {Q : V → H → Prop} (hr : ∀ t ∈ r.rd, t < 5) (hF : ∀ l ∈ F, Bd l) (hw : WaysV ws wv σ) (hl : LvV σ nl ds F) (hq : ∀ w ∈ ws, w.1 < F.length) (hws : ws.length ≤ 100) (hFl : F.length ≤ 100)
    (q : ∀ d σ', Ext σ σ' → σ.length ≤ d → σ'[d]? = some (.dictI (encS (ahead r.rd ws F))) → Q (.ref d) σ') : We (m_live_ahead [r.e, wv, .ref nl] σ) Q := by
  refine runE rfl rfl ?_
  lk
  obtain ⟨nw, L, rfl, hwl, hwL⟩ := hw
  have hF' : ∀ l ∈ F, ∀ t ∈ l, t < 5 := fun l hl => (hF l hl).2
  refine Wsc (fun ρ σ' => Fm [some r.e, some (.ref nw), some (.ref nl), some (.ref σ.length)] 3 ρ ∧ Ext σ σ' ∧ σ'[σ.length]? = some (.dictI (encS (ws.foldl (fun acc w => (F.getD w.1 []).foldl (addG w.2) acc) [])))) ?_ fun ρ σ1 hz => ?_
  · intro N' hN
    refine Ws_for' ?_
    lk
    refine ⟨.list, L, fun i ρ σ' => Fm [some r.e, some (.ref nw), some (.ref nl), some (.ref σ.length)] 3 ρ ∧ Ext σ σ' ∧ σ'[σ.length]? = some (.dictI (encS ((ws.take i).foldl (fun acc w => (F.getD w.1 []).foldl (addG w.2) acc) []))), ?_, ?_, ?_, ?_⟩
    · exact ⟨⟨_, rfl, rfl⟩, Ext.one, sng⟩
    · intro i ρ σ' h
      exact itl (h.2.1.get hwl)
    · intro i x ρ σ' N' hN hx hz
      apply and3 hz; clear hz; intro hρ he hd
      apply fm3 hρ; intro x4 x5 x6
      have hil : i < ws.length := by have := (List.getElem?_eq_some_iff.mp hx).1; rw [hwL.1] at this; exact this
      obtain ⟨w, hwi⟩ : ∃ w, ws[i]? = some w := ⟨_, List.getElem?_eq_getElem hil⟩
      obtain ⟨g, hg, hLi, hgs⟩ := hwL.2 i w hwi
      rw [hx] at hLi
      cases hLi
      lk
      rw [tsn hwi, List.foldl_append, List.foldl_cons, List.foldl_nil] at hN
      generalize hacc : (ws.take i).foldl (fun acc w => (F.getD w.1 []).foldl (addG w.2) acc) [] = acc at hd hN
      have hbacc : Bd acc := hacc ▸ bd_foldW hF' _ _ .nil
      refine Wsq ?_
      refine Ws_for' ?_
      lk
      have hwm := hq w (List.mem_of_getElem? hwi)
      refine We_live (hl.ext he) hwm (by lia) fun d hd1 hd2 => ?_
      generalize hks : F.getD w.1 [] = ks at hd2 hN
      have hbk : Bd ks := by
        rw [← hks, List.getD_eq_getElem?_getD, List.getElem?_eq_getElem hwm]
        exact hF _ (List.getElem_mem hwm)
      have hdlt : d < σ.length := hl.lt.2 d (List.mem_of_getElem? hd1)
      refine ⟨.dict, intsV ks, fun j ρ σ' => (∃ x6, ρ = [some r.e, some (.ref nw), some (.ref nl), some (.ref σ.length), some (.int (w.1 : Nat)), some (.ref g), x6]) ∧ Ext σ σ' ∧ σ'[d]? = some (.dictI (encS ks)) ∧ σ'[σ.length]? = some (.dictI (encS ((ks.take j).foldl (addG w.2) acc))), ?_, ?_, ?_, ?_⟩
      · exact ⟨⟨_, rfl⟩, he, hd2, hd⟩
      · intro j ρ σ' h
        rw [it_dict h.2.2.1, encS_keys]
      · rintro j x ρ σ' N' hN hx ⟨⟨x6, hρ⟩, he', hdk, hda⟩
        subst hρ
        obtain ⟨t, ht, rfl⟩ := intsV_get hx
        have ht5 := hbk.2 t (List.mem_of_getElem? ht)
        lk
        rw [tsn ht, List.foldl_append, List.foldl_cons, List.foldl_nil] at hN
        have hbb : Bd ((ks.take j).foldl (addG w.2) acc) := bd_foldG _ _ (fun t ht => hbk.2 t (List.mem_of_mem_take ht)) hbacc
        lk
        refine Wsq ?_
        walk
        refine We_niNl (he'.get hgs) ?_
        lk
        rw [intsV_opt]
        refine cbo (fun hf => ?_) fun hf => ?_
        · simp at hf
          have : addG w.2 (List.foldl (addG w.2) acc (ks.take j)) t = addS (List.foldl (addG w.2) acc (ks.take j)) t := by unfold addG; rw [if_neg hf]
          rw [this] at hN
          walk
          have := hbb.len
          refine ⟨_, set_dict hda (by rw [encS_len]; lia), ?_⟩
          walk
          refine ⟨⟨_, rfl⟩, he'.set (Nat.le_refl _), upd_ne' (by lia) hdk, ?_⟩
          rw [upg hda, put_encS]
        · simp at hf
          have : addG w.2 (List.foldl (addG w.2) acc (ks.take j)) t = List.foldl (addG w.2) acc (ks.take j) := by unfold addG; rw [if_pos hf]
          rw [this] at hN
          walk
          exact ⟨⟨_, rfl⟩, he', hdk, hda⟩
      · rintro ρ σ' ⟨⟨x6, hρ⟩, he', hdk, hda⟩
        try (show ‹R → H → Prop› _ _; refine Imp.ap ‹_› ?_)
        subst hρ
        rw [ivl, List.take_length] at hda
        walk
        exact ⟨⟨_, rfl, rfl⟩, he', hda⟩
    · intro ρ σ' hz
      try (show ‹R → H → Prop› _ _; refine Imp.ap ‹_› ?_)
      apply and3 hz; clear hz; intro hρ he hd
      rw [hwL.1, List.take_length] at hd
      exact ⟨hρ, he, hd⟩
  apply and3 hz; clear hz; intro hρ e1 h1
  apply fm3 hρ; intro x4 x5 x6
  refine Wsc (fun ρ σ' => Fm [some r.e, some (.ref nw), some (.ref nl), some (.ref σ.length)] 3 ρ ∧ Ext σ σ' ∧ σ'[σ.length]? = some (.dictI (encS (ahead r.rd ws F)))) ?_ fun ρ σ2 hz => ?_
  · intro N' hN
    refine Ws_for' ?_
    lk
    refine nums_sp r fun nn σ2 e2 l2 h2 => ?_
    generalize hacc : ws.foldl (fun acc w => (F.getD w.1 []).foldl (addG w.2) acc) [] = acc at h1
    have hbacc : Bd acc := hacc ▸ bd_foldW hF' _ _ .nil
    refine ⟨.list, intsV r.rd, fun i ρ σ' => Fm [some r.e, some (.ref nw), some (.ref nl), some (.ref σ.length)] 3 ρ ∧ Ext σ σ' ∧ σ'[nn]? = some (.list (intsV r.rd)) ∧ σ'[σ.length]? = some (.dictI (encS ((r.rd.take i).foldl addS acc))), ?_, ?_, ?_, ?_⟩
    · exact ⟨⟨_, rfl, rfl⟩, e1.trans e2, h2, e2.get h1⟩
    · intro i ρ σ' h
      exact itl h.2.2.1
    · intro i x ρ σ' N' hN hx hz
      apply and4 hz; clear hz; intro hρ he' hn hda
      apply fm3 hρ; intro x4 x5 x6
      obtain ⟨t, ht, rfl⟩ := intsV_get hx
      lk
      rw [tsn ht, List.foldl_append, List.foldl_cons, List.foldl_nil] at hN
      have hbb : Bd ((r.rd.take i).foldl addS acc) := bd_foldA _ _ (fun t ht => hr t (List.mem_of_mem_take ht)) hbacc
      have := hbb.len
      walk
      refine ⟨_, set_dict hda (by rw [encS_len]; lia), ?_⟩
      walk
      have := get_lt h1
      refine ⟨⟨_, rfl, rfl⟩, he'.set (Nat.le_refl _), upd_ne' (by lia) hn, ?_⟩
      rw [upg hda, put_encS]
    · intro ρ σ' hz
      try (show ‹R → H → Prop› _ _; refine Imp.ap ‹_› ?_)
      apply and4 hz; clear hz; intro hρ he hn hd
      rw [ivl, List.take_length] at hd
      unfold ahead
      rw [hacc]
      exact ⟨hρ, he, hd⟩
  apply and3 hz; clear hz; intro hρ e2 h2
  apply fm3 hρ; intro x4 x5 x6
  lk
  exact q _ _ e2 (Nat.le_refl _) h2
structure Code.Wf (C : Code) : Prop where
  sm : C.Sm
  rd : ∀ r ∈ C.rows, ∀ t ∈ r.rd, t < 5
  to : ∀ r ∈ C.rows, ∀ t, r.to = some t → t < 5
  ht : ∀ p w, hdl C.trys p = some w → w.1 < C.rows.length ∧ retAt C.trys p w.1 = w.2
  fin : ∀ f m l r, Tr.fin f m l r ∈ C.trys → r < 5 ∧ m ≤ l ∧ l ≤ C.rows.length ∧ f ≤ 1000
  liv : ∀ x ∈ C.lives, x.t < 5 ∧ x.b ≤ C.rows.length ∧ x.f ≤ 1000
inductive Want (C : Code) (t : Nat) : Nat → Prop
  | here {p : Nat} {r : Row} : C.rows[p]? = some r → t ∈ r.rd → Want C t p
  | step {p : Nat} {r : Row} {w : Nat × Option Nat} : C.rows[p]? = some r → w ∈ C.wy r p → w.2 ≠ some t → Want C t w.1 → Want C t p
theorem Want.lt {C t p} (h : Want C t p) : p < C.rows.length := by
  cases h with
  | here h _ => exact (List.getElem?_eq_some_iff.mp h).1
  | step h _ _ _ => exact (List.getElem?_eq_some_iff.mp h).1
theorem mem_ways {C : Code} (W : C.Wf) {r : Row} {p : Nat} {w : Nat × Option Nat} : w ∈ C.ways r p ↔ w ∈ C.wy r p ∧ w.1 < C.rows.length := by
  unfold Code.ways Code.wy Code.nx
  simp only [List.mem_append, List.mem_map, mem_ded, Row.cand, List.not_mem_nil, false_or, Option.mem_toList]
  constructor
  · rintro (⟨q, ⟨h1, h2⟩, rfl⟩ | h)
    · refine ⟨.inl ?_, h2⟩
      rcases h1 with h1 | h1
      · split at h1
        · simp at h1; subst h1; left; rename_i h; simp [h]
        · simp at h1
      · right; exact ⟨q, h1, rfl⟩
    · exact ⟨.inr h, (W.ht p w h).1⟩
  · rintro ⟨(h1 | ⟨q, h1, rfl⟩) | h, h2⟩
    · split at h1
      · simp at h1; subst h1; left; rename_i h; exact ⟨p + 1, ⟨.inl (by simp [h]), h2⟩, rfl⟩
      · simp at h1
    · left; exact ⟨q, ⟨.inr h1, h2⟩, rfl⟩
    · exact .inr h
structure Good (C : Code) (F : List (List Nat)) : Prop where
  bd : ∀ l ∈ F, Bd l
  len : F.length = C.rows.length
  snd : ∀ p t, t ∈ F.getD p [] → Want C t p
  mono : ∀ p r, C.rows[p]? = some r → ∀ t ∈ F.getD p [], t ∈ ahead r.rd (C.ways r p) F
theorem getD_set {F : List (List Nat)} {p q : Nat} {l : List Nat} (hp : p < F.length) : (F.set p l).getD q [] = if p = q then l else F.getD q [] := by
  rw [List.getD_eq_getElem?_getD, List.getD_eq_getElem?_getD]
  split
  · rename_i h; subst h; rw [List.getElem?_set_self hp]; rfl
  · rename_i h; rw [List.getElem?_set_ne h]
theorem mem_bd {F : List (List Nat)} (h : ∀ l ∈ F, Bd l) (p : Nat) : Bd (F.getD p []) := by
  rw [List.getD_eq_getElem?_getD]
  cases hg : F[p]? with
  | none => exact .nil
  | some l => exact h l (List.mem_of_getElem? hg)
theorem Good.up {C F p r} (W : C.Wf) (G : Good C F) (hr : C.rows[p]? = some r) : Good C (F.set p (ahead r.rd (C.ways r p) F)) := by
  have hp : p < F.length := by rw [G.len]; exact (List.getElem?_eq_some_iff.mp hr).1
  have sub : ∀ q t, t ∈ F.getD q [] → t ∈ (F.set p (ahead r.rd (C.ways r p) F)).getD q [] := by
    intro q t ht
    rw [getD_set hp]
    split
    · rename_i h; subst h; exact G.mono _ r hr t ht
    · exact ht
  have mon : ∀ q r' t, t ∈ ahead r'.rd (C.ways r' q) F → t ∈ ahead r'.rd (C.ways r' q) (F.set p (ahead r.rd (C.ways r p) F)) := by
    intro q r' t ht
    rw [mem_ahead] at ht ⊢
    rcases ht with h | ⟨w, h1, h2, h3⟩
    · exact .inl h
    · exact .inr ⟨w, h1, sub _ _ h2, h3⟩
  refine ⟨fun l hl => ?_, by rw [List.length_set]; exact G.len, fun q t ht => ?_, fun q r' hr' t ht => ?_⟩
  · rcases List.mem_or_eq_of_mem_set hl with h | rfl
    · exact G.bd l h
    · exact bd_ahead (W.rd r (List.mem_of_getElem? hr)) fun l hl => (G.bd l hl).2
  · rw [getD_set hp] at ht
    split at ht
    · rename_i h; subst h
      rw [mem_ahead] at ht
      rcases ht with h | ⟨w, h1, h2, h3⟩
      · exact .here hr h
      · exact .step hr ((mem_ways W).mp h1).1 h3 (G.snd _ _ h2)
    · exact G.snd _ _ ht
  · rw [getD_set hp] at ht
    split at ht
    · rename_i h; subst h
      rw [hr] at hr'; cases hr'
      exact mon _ _ _ ht
    · exact mon _ _ _ (G.mono q r' hr' t ht)
noncomputable def tot (F : List (List Nat)) : Nat := (F.map List.length).sum
theorem tot_le : ∀ F : List (List Nat), (∀ l ∈ F, Bd l) → tot F ≤ 5 * F.length
  | [], _ => by simp [tot]
  | l :: r, h => by
    have := tot_le r fun x hx => h x (.tail _ hx)
    have := (h l (.head _)).len
    simp [tot] at *; lia
theorem tot_set : ∀ (F : List (List Nat)) (p : Nat) (l : List Nat), p < F.length → tot (F.set p l) + (F.getD p []).length = tot F + l.length
  | [], _, _, h => by simp at h
  | a :: r, 0, l, h => by simp [tot]; lia
  | a :: r, p + 1, l, h => by
    have := tot_set r p l (by simpa using h)
    simp [tot] at *; lia
theorem Good.fix {C F} (W : C.Wf) (G : Good C F) (hs : ∀ p r, C.rows[p]? = some r → (ahead r.rd (C.ways r p) F).length ≤ (F.getD p []).length) (p t : Nat) : t ∈ F.getD p [] ↔ Want C t p := by
  refine ⟨G.snd p t, fun h => ?_⟩
  have back : ∀ p r, C.rows[p]? = some r → ∀ t ∈ ahead r.rd (C.ways r p) F, t ∈ F.getD p [] := fun p r hr =>
    sub_all (mem_bd G.bd p).1 (G.mono p r hr) (hs p r hr)
  induction h with
  | here hr ht => exact back _ _ hr _ (mem_ahead.mpr (.inl ht))
  | step hr hw hg hn ih => exact back _ _ hr _ (mem_ahead.mpr (.inr ⟨_, (mem_ways W).mpr ⟨hw, hn.lt⟩, ih, hg⟩))
theorem LvV.put {σ n ds F p d ks} (h : LvV σ n ds F) (hp : p < F.length) (hd : σ[d]? = some (.dictI (encS ks))) (hdn : ∀ x ∈ ds, x ≠ n) (hn : d ≠ n) : LvV (σ.set n (.list ((ds.map V.ref).set p (.ref d)))) n (ds.set p d) (F.set p ks) := by
  refine ⟨?_, by simp [h.len], fun i e ks' a b => ?_⟩
  · rw [upg h.l, List.map_set]
  · have hp' : p < ds.length := by rw [h.len]; exact hp
    by_cases hi : p = i
    · subst hi
      rw [List.getElem?_set_self hp'] at a
      rw [List.getElem?_set_self hp] at b
      cases a; cases b
      exact upd_ne' (Ne.symm hn) hd
    · rw [List.getElem?_set_ne hi] at a b
      exact upd_ne' (Ne.symm (hdn e (List.mem_of_getElem? a))) (h.at' i e ks' a b)
theorem ways_len (C : Code) (r : Row) (p : Nat) : (C.ways r p).length ≤ 3 := by
  have := nx_len C r p
  have h' := opt_le (hdl C.trys p)
  unfold Code.ways
  simp; lia
theorem nodup_set {ds : List Nat} {p d : Nat} (h : ds.Nodup) (hd : d ∉ ds) : (ds.set p d).Nodup := by
  induction ds generalizing p with
  | nil => simp
  | cons a r ih =>
    obtain ⟨h1, h2⟩ := List.nodup_cons.mp h
    induction p using Nat.casesOn with
    | zero => exact List.nodup_cons.mpr ⟨fun hx => hd (.tail _ hx), h2⟩
    | succ p =>
      refine List.nodup_cons.mpr ⟨fun hx => ?_, ih h2 fun hx => hd (.tail _ hx)⟩
      rcases List.mem_or_eq_of_mem_set hx with hx | rfl
      · exact h1 hx
      · exact hd (.head _)
noncomputable def Sep (b nl : Nat) (ds : List Nat) : Prop := ∀ d ∈ ds, b ≤ d ∧ d ≠ nl
noncomputable def Fx (C : Code) (F : List (List Nat)) (p : Nat) : Prop := ∀ r, C.rows[p]? = some r → (ahead r.rd (C.ways r p) F).length ≤ (F.getD p []).length
noncomputable def LF (C : Code) (σ1 : H) (nl : Nat) (ds : List Nat) (F : List (List Nat)) (σ' : H) : Prop := Ext σ1 σ' ∧ Sep σ1.length nl ds ∧ ds.Nodup ∧ LvV σ' nl ds F ∧ Good C F
noncomputable def flA (C : Code) (c nw nl : Nat) (σ1 : H) (ρ : R) (σ' : H) : Prop := ∃ ds F, Fm [some (.ref c), some (.ref nw), some (.ref nl)] 3 ρ ∧ LF C σ1 nl ds F σ' ∧ ∀ p, Fx C F p
noncomputable def flB (C : Code) (c nw nl : Nat) (σ1 : H) (m : Nat) (ρ : R) (σ' : H) : Prop := ∃ ch ds F, Fm [some (.ref c), some (.ref nw), some (.ref nl), some (.bool ch)] 2 ρ ∧ LF C σ1 nl ds F σ' ∧ (ch = false → ∀ p, Fx C F p) ∧ (ch = true → 5 * C.rows.length < m + tot F)
noncomputable def flC (C : Code) (c nw nl : Nat) (σ1 : H) (F : List (List Nat)) (i : Nat) (ρ : R) (σ' : H) : Prop := ∃ ch ds F', Fm [some (.ref c), some (.ref nw), some (.ref nl), some (.bool ch)] 2 ρ ∧ LF C σ1 nl ds F' σ' ∧ (ch = false → F' = F ∧ ∀ p, C.rows.length - i ≤ p → Fx C F p) ∧ (ch = true → tot F < tot F')
theorem flA.op {C c nw nl σ1 ρ σ'} {P : R → Prop} (h : flA C c nw nl σ1 ρ σ') (k : ∀ ds F x3 x4 x5, Ext σ1 σ' → Sep σ1.length nl ds → ds.Nodup → LvV σ' nl ds F → Good C F → (∀ p, Fx C F p) → P [some (.ref c), some (.ref nw), some (.ref nl), x3, x4, x5]) : P ρ := by
  obtain ⟨ds, F, h, ⟨a, b, c, d, e⟩, f⟩ := h
  exact fm3 h fun x y z => k ds F x y z a b c d e f
theorem flB.op {C c nw nl σ1 m ρ σ'} {P : R → Prop} (h : flB C c nw nl σ1 m ρ σ') (k : ∀ ch ds F x4 x5, Ext σ1 σ' → Sep σ1.length nl ds → ds.Nodup → LvV σ' nl ds F → Good C F → (ch = false → ∀ p, Fx C F p) → (ch = true → 5 * C.rows.length < m + tot F) → P [some (.ref c), some (.ref nw), some (.ref nl), some (.bool ch), x4, x5]) : P ρ := by
  obtain ⟨ch, ds, F, h, ⟨a, b, c, d, e⟩, f, g⟩ := h
  exact fm2 h fun x y => k ch ds F x y a b c d e f g
theorem flC.op {C c nw nl σ1 F i ρ σ'} {P : R → Prop} (h : flC C c nw nl σ1 F i ρ σ') (k : ∀ ch ds F' x4 x5, Ext σ1 σ' → Sep σ1.length nl ds → ds.Nodup → LvV σ' nl ds F' → Good C F' → (ch = false → F' = F ∧ ∀ p, C.rows.length - i ≤ p → Fx C F p) → (ch = true → tot F < tot F') → P [some (.ref c), some (.ref nw), some (.ref nl), some (.bool ch), x4, x5]) : P ρ := by
  obtain ⟨ch, ds, F, h, ⟨a, b, c, d, e⟩, f, g⟩ := h
  exact fm2 h fun x y => k ch ds F x y a b c d e f g
theorem flown_sp {C : Code} (W : C.Wf) {c σ} {Q : V → H → Prop} (hc : IsC σ c C)
    (q : ∀ n ds F σ', Ext σ σ' → σ.length ≤ n → (∀ d ∈ ds, σ.length ≤ d ∧ d ≠ n) → ds.Nodup → LvV σ' n ds F → Good C F → (∀ p t, t ∈ F.getD p [] ↔ Want C t p) → Q (.ref n) σ') : We (m_flown [.ref c] σ) Q := by
  refine runE rfl rfl ?_
  have hr100 := W.sm.rows
  lk
  refine We_comp ?_
  lk
  refine We_rows hc fun nr hnr => ?_
  lk
  refine We_lenM hnr hc.sm.r ?_
  lk
  refine We_rng1 (by lia) ?_
  refine We_compR (α := Nat) (enc := fun i => V.int (i : Nat)) (L := List.range C.rows.length) (Rel := fun p v σ => ∃ r, C.rows[p]? = some r ∧ WaysV (C.ways r p) v σ) (fun ρ => ∃ x, ρ = [x, some (.ref c)]) (fun x u σ σ' ⟨r, a, b⟩ e => ⟨r, a, b.ext e⟩) ⟨.fix, by simp; lia, fun σ' _ => it_range0 (by lia), ⟨_, rfl⟩, fun p hp ρ σ' hz he => ?_, ?_⟩
  · obtain ⟨x, hρ⟩ := hz
    subst hρ
    have hp' := List.mem_range.mp hp
    refine ⟨[some (.int (p : Nat)), some (.ref c)], rfl, ⟨_, rfl⟩, ?_⟩
    lk
    refine ways_sp (hc.ext he) (List.getElem?_eq_getElem hp') (fun w hw => (W.ht p w hw).2) fun v σ'' e hv => ?_
    lk
    exact ⟨e, _, List.getElem?_eq_getElem hp', hv⟩
  intro nw σ1 us e1 l1 h1 hlen hus
  rw [List.length_range] at hlen
  lk
  refine We_comp ?_
  lk
  refine We_rows (hc.ext e1) fun nr1 hnr1 => ?_
  lk
  refine ⟨.list, C.rows.map Row.e, by simp; lia, fun i acc ρ σ' => (∃ x, ρ = [x]) ∧ Ext σ1 σ' ∧ ∃ ds : List Nat, acc = ds.map V.ref ∧ ds.length = i ∧ ds.Nodup ∧ (∀ d ∈ ds, σ1.length ≤ d ∧ d < σ'.length) ∧ ∀ d ∈ ds, σ'[d]? = some (.dictI (encS [])), ?_, ?_, ?_, ?_⟩
  · exact ⟨⟨_, rfl⟩, Ext.refl, [], rfl, rfl, .nil, by simp, by simp⟩
  · intro i acc ρ σ' h
    exact itl (h.2.1.get hnr1)
  · rintro i x acc ρ σ' J hJ hx ⟨⟨y, hρ⟩, he, ds, hacc, hl, hnd, hlt, hat⟩
    subst hρ hacc
    lk
    refine ⟨⟨_, rfl⟩, he.snoc, ds ++ [σ'.length], by simp, by simp [hl], ?_, ?_, ?_⟩
    · rw [List.nodup_append]
      refine ⟨hnd, by simp, fun a ha b hb => ?_⟩
      simp at hb; subst hb
      have := (hlt a ha).2; exact Nat.ne_of_lt this
    · intro d hd
      have := he.len
      rcases List.mem_append.mp hd with h | h
      · have := hlt d h; simp; lia
      · simp at h; subst h; simp; lia
    · intro d hd
      rcases List.mem_append.mp hd with h | h
      · exact sno (hat d h)
      · simp at h; subst h; exact sng
  rintro acc ρ σ2 ⟨_, e2, ds, hacc, hdl', hnd, hlt, hat⟩
  subst hacc
  rw [List.length_map] at hdl'
  generalize hnl : σ2.length = nl
  have lv0 : LvV (σ2 ++ [.list (ds.map V.ref)]) nl ds (List.replicate C.rows.length []) := by
    refine ⟨hnl ▸ sng, by simp [hdl'], fun i d ks a b => ?_⟩
    have : ks = [] := by rw [List.getElem?_replicate] at b; split at b; cases b; rfl; cases b
    subst this
    exact sno (hat d (List.mem_of_getElem? a))
  have gd0 : ∀ p : Nat, (List.replicate C.rows.length ([] : List Nat)).getD p [] = [] := by
    intro p; rw [List.getD_eq_getElem?_getD, List.getElem?_replicate]; split <;> rfl
  have g0 : Good C (List.replicate C.rows.length []) := by
    refine ⟨fun l hl => ?_, by simp, fun p t ht => ?_, fun p r hr t ht => ?_⟩
    · rw [List.mem_replicate] at hl; rw [hl.2]; exact .nil
    · rw [gd0] at ht; simp at ht
    · rw [gd0] at ht; simp at ht
  have e12 : Ext σ1 (σ2 ++ [.list (ds.map V.ref)]) := e2.snoc
  have hnl1 : σ1.length ≤ nl := hnl ▸ e2.len
  have hds0 : ∀ d ∈ ds, σ1.length ≤ d ∧ d ≠ nl := fun d hd => ⟨(hlt d hd).1, by have := (hlt d hd).2; lia⟩
  generalize hσ3 : σ2 ++ [.list (ds.map V.ref)] = σ3 at lv0 e12
  lk
  clear hlt hat hσ3
  refine Wsc (flA C c nw nl σ1) ?_ fun ρ σ4 hz => ?_
  · intro N' hN
    refine Ws_wh (flB C c nw nl σ1) (fun m ρ σ' J hJ h => ?_) _ (5 * C.rows.length + 1) _ _ (by lia) ⟨true, ds, _, ⟨_, rfl, rfl⟩, ⟨e12, hds0, hnd, lv0, g0⟩, nofun, fun _ => by lia⟩
    apply h.op; clear h; intro ch ds F x4 x5 he hds hnd lv g hf ht
    lk
    induction ch using Bool.casesOn with
    | false => exact c_false (hN.ap ⟨ds, F, ⟨_, rfl, rfl⟩, ⟨he, hds, hnd, lv, g⟩, hf rfl⟩)
    | true =>
      refine c_true ?_
      have htot := tot_le F g.bd
      rw [g.len] at htot
      have ht := ht rfl
      refine ⟨m - 1, n_pred (by lia), fun N2 hN2 => ?_⟩
      lk
      refine Wsq ?_
      refine Ws_for' ?_
      lk
      refine We_rows (hc.ext (e1.trans he)) fun nr hnr => ?_
      lk
      refine We_lenM hnr hc.sm.r ?_
      lk
      refine We_rng3 (by lia) ?_
      refine ⟨.fix, (List.range C.rows.length).map fun i => V.int ((C.rows.length - 1 - i : Nat) : Int), flC C c nw nl σ1 F, ?_, ?_, ?_, ?_⟩
      · refine ⟨false, ds, F, ⟨_, rfl, rfl⟩, ⟨he, hds, hnd, lv, g⟩, fun _ => ⟨rfl, fun p hp r hr => ?_⟩, nofun⟩
        have := (List.getElem?_eq_some_iff.mp hr).1; lia
      · intro i ρ σ' _
        exact it_down hc.sm.r
      · rintro i x ρ σ5 N' hN hx hz
        apply hz.op; clear hz; intro ch ds F' x4 x5 he hds hnd lv g' hf ht'
        rw [List.getElem?_map] at hx
        obtain ⟨i', hi', rfl⟩ := Option.map_eq_some_iff.mp hx
        obtain ⟨rfl, hlt⟩ := range_get hi'
        generalize hp : C.rows.length - 1 - i' = p
        have hpl := n_sub1 hlt hp
        obtain ⟨r, hr⟩ : ∃ r, C.rows[p]? = some r := ⟨_, List.getElem?_eq_getElem hpl⟩
        obtain ⟨u, hu, r', hr', hwv⟩ := hus p p (by rw [List.getElem?_range hpl])
        rw [hr] at hr'; cases hr'
        lk
        refine We_rows (hc.ext (e1.trans he)) fun nr hnr => ?_
        lk
        refine We_idxM hnr hr hc.sm.r ?_
        lk
        refine We_idxL (k := p) (he.get h1) hu rfl (by lia) ?_
        lk
        have hFl : F'.length ≤ 100 := by rw [g'.len]; lia
        refine ahead_sp (W.rd r (List.mem_of_getElem? hr)) g'.bd (hwv.ext he) lv (fun w hw => by rw [g'.len]; exact ((mem_ways W).mp hw).2) (by have := ways_len C r p; lia) hFl fun d σ6 e6 l6 h6 => ?_
        have hba : Bd (ahead r.rd (C.ways r p) F') := bd_ahead (W.rd r (List.mem_of_getElem? hr)) fun l hl => (g'.bd l hl).2
        have hbl := hba.len
        refine Wsq ?_
        walk
        refine We_lenD h6 (by rw [encS_len]; lia) ?_
        rw [encS_len]
        walk
        have hpF : p < F'.length := by rw [g'.len]; exact hpl
        refine We_live (lv.ext e6) hpF (by lia) fun d0 hd0 hd0' => ?_
        walk
        refine We_lenD hd0' (by rw [encS_len]; have := (mem_bd g'.bd p).len; lia) ?_
        rw [encS_len]
        walk
        refine cbo (fun hg => ?_) fun hg => ?_
        · have hg := of_decide_eq_true hg
          walk
          refine ⟨_, set_list (lv.ext e6).l rfl (by rw [List.length_map, lv.len]; exact hpF) (by rw [List.length_map, lv.len]; lia), ?_⟩
          walk
          have hdn : d ≠ nl := by have := lv.lt.1; lia
          have hdd : d ∉ ds := fun hx => by have := lv.lt.2 d hx; lia
          refine ⟨true, ds.set p d, F'.set p (ahead r.rd (C.ways r p) F'), ⟨_, rfl, rfl⟩, ⟨(he.trans e6).set hnl1, ?_, nodup_set hnd hdd, (lv.ext e6).put hpF h6 (fun x hx => (hds x hx).2) hdn, g'.up W hr⟩, nofun, fun _ => ?_⟩
          · intro x hx
            rcases List.mem_or_eq_of_mem_set hx with hx | rfl
            · exact hds x hx
            · exact ⟨by have := he.len; lia, hdn⟩
          · have := tot_set F' p (ahead r.rd (C.ways r p) F') hpF
            induction ch using Bool.casesOn with
            | false => have := (hf rfl).1; subst this; lia
            | true => have := ht' rfl; lia
        · have hg := of_decide_eq_false hg
          walk
          refine ⟨ch, ds, F', ⟨_, rfl, rfl⟩, ⟨he.trans e6, hds, hnd, lv.ext e6, g'⟩, fun hch => ?_, ht'⟩
          obtain ⟨rfl, hall⟩ := hf hch
          refine ⟨rfl, fun p' hp' r' hr' => ?_⟩
          by_cases hpp : p' = p
          · subst hpp; rw [hr] at hr'; cases hr'; lia
          · exact hall p' (by lia) r' hr'
      · intro ρ σ5 hz
        apply hz.op; clear hz; intro ch ds F' x4 x5 he hds hnd lv g' hf ht'
        walk
        refine ⟨m - 1, Nat.le_refl _, (hJ _).ap ⟨ch, ds, F', ⟨_, rfl, rfl⟩, ⟨he, hds, hnd, lv, g'⟩, fun hch => ?_, fun hch => ?_⟩⟩
        · obtain ⟨rfl, hall⟩ := hf hch
          exact fun p => hall p (by simp)
        · have := ht' hch; lia
  apply hz.op; clear hz; intro ds4 F4 x3 x4 x5 e4 hd4 hn4 lv4 g4 hfix
  lk
  exact q _ _ _ _ (e1.trans e4) (by have := e1.len; lia) (fun d hd => ⟨by have := e1.len; have := (hd4 d hd).1; lia, (hd4 d hd).2⟩) hn4 lv4 g4 (g4.fix W hfix)
theorem We_trysE {σ₀ σ c C} {Q : V → H → Prop} (h : IsC σ₀ c C) (e : Ext σ₀ σ) (q : ∀ r, σ₀[r]? = some (.list (C.trys.map Tr.e)) → Q (.ref r) σ) : We (vAttr .trys (.ref c) σ) Q := by
  obtain ⟨sm, k, r, nn, y, l, h1, h2, h3, h4, h5, h6⟩ := h
  exact We_attr (e.get h1) (e.get h2) (q y h5)
theorem We_livesE {σ₀ σ c C} {Q : V → H → Prop} (h : IsC σ₀ c C) (e : Ext σ₀ σ) (q : ∀ r, σ₀[r]? = some (.list (C.lives.map Live.e)) → Q (.ref r) σ) : We (vAttr .lives (.ref c) σ) Q := by
  obtain ⟨sm, k, r, nn, y, l, h1, h2, h3, h4, h5, h6⟩ := h
  exact We_attr (e.get h1) (e.get h2) (q l h6)
theorem We_rowsE {σ₀ σ c C} {Q : V → H → Prop} (h : IsC σ₀ c C) (e : Ext σ₀ σ) (q : ∀ r, σ₀[r]? = some (.list (C.rows.map Row.e)) → Q (.ref r) σ) : We (vAttr .rows (.ref c) σ) Q := by
  obtain ⟨sm, k, r, nn, y, l, h1, h2, h3, h4, h5, h6⟩ := h
  exact We_attr (e.get h1) (e.get h2) (q r h3)
theorem it_rangeN {a b : Nat} {σ} (ha : a ≤ 100000) (hb : b ≤ 100000) : itemsOf (.range (a : Nat) (b : Nat) 1) σ = some (.fix, (List.range (b - a)).map fun i => V.int ((a + i : Nat) : Int)) := it_range ha hb
theorem LvV.addAt {σ n ds F p t d} (h : LvV σ n ds F) (hnd : ds.Nodup) (hdn : ∀ x ∈ ds, x ≠ n) (hd : ds[p]? = some d) : LvV (σ.set d (.dictI (encS (addS (F.getD p []) t)))) n ds (F.set p (addS (F.getD p []) t)) := by
  have hp : p < F.length := by rw [← h.len]; exact (List.getElem?_eq_some_iff.mp hd).1
  refine ⟨upd_ne' (hdn d (List.mem_of_getElem? hd)) h.l, by rw [List.length_set]; exact h.len, fun i e ks a b => ?_⟩
  by_cases hi : p = i
  · subst hi
    rw [hd] at a; cases a
    rw [List.getElem?_set_self hp] at b; cases b
    obtain ⟨d', h1, h2⟩ := h.get hp
    rw [hd] at h1; cases h1
    exact upg h2
  · rw [List.getElem?_set_ne hi] at b
    refine upd_ne' (fun e' => hi ?_) (h.at' i e ks a b)
    subst e'
    have hp' := (List.getElem?_eq_some_iff.mp hd).1
    exact (List.getElem?_inj hp' hnd).mp (hd.trans a.symm)
theorem addLoop {bi ti f b t n : Nat} {ρ : R} {σ₀ σ : H} {ds F} {N : R → H → Prop} {T : V → H → Prop} (h1 : nth ρ 1 = some (.ref n)) (h2 : nth ρ 2 = some (.int (f : Nat))) (hb : nth ρ bi = some (.int (b : Nat))) (ht : nth ρ ti = some (.int (t : Nat)))
    (hbi : 7 ≠ bi) (hti : 7 ≠ ti) (h7 : 7 < ρ.length) (he : Ext σ₀ σ) (lv : LvV σ n ds F) (hnd : ds.Nodup) (hds : ∀ d ∈ ds, σ₀.length ≤ d ∧ d ≠ n) (hF : ∀ l ∈ F, Bd l) (hbF : b ≤ F.length) (hFl : F.length ≤ 100) (hf : f ≤ 1000) (ht5 : t < 5)
    (q : ∀ ρ' σ' F', (ρ' = ρ ∨ ∃ x, ρ' = ρ.set 7 x) → Ext σ₀ σ' → LvV σ' n ds F' → (∀ l ∈ F', Bd l) → F'.length = F.length → (∀ p x, x ∈ F'.getD p [] ↔ x ∈ F.getD p [] ∨ (x = t ∧ f ≤ p ∧ p < b)) → N ρ' σ') :
    Wf (.one 7) (PE.wp (pN vRange [pV 2, pV bi])) (PS.wp (pSeq (pPut (pI (pV 1) (pV 7)) (pV ti) (pC (.bool true))) pNil)) ρ σ N T := by
  refine Ws_for' (oV_i h2 (oV_i hb (We_rng2 ?_)))
  lk
  refine ⟨.fix, (List.range (b - f)).map fun i => V.int ((f + i : Nat) : Int), fun i ρ' σ' => ∃ F', (ρ' = ρ ∨ ∃ x, ρ' = ρ.set 7 x) ∧ Ext σ₀ σ' ∧ LvV σ' n ds F' ∧ (∀ l ∈ F', Bd l) ∧ F'.length = F.length ∧ (∀ p x, x ∈ F'.getD p [] ↔ x ∈ F.getD p [] ∨ (x = t ∧ f ≤ p ∧ p < f + i)), ?_, ?_, ?_, ?_⟩
  · refine ⟨F, .inl rfl, he, lv, hF, rfl, fun p x => ?_⟩
    constructor
    · exact .inl
    · rintro (h | ⟨_, h, h'⟩); exact h; lia
  · intro i ρ' σ' _
    exact it_rangeN (by lia) (by lia)
  · rintro i x ρ' σ' N' hN hx ⟨F', hz⟩
    apply and6 hz; clear hz; intro hρ he lv hF' hl hm
    rw [List.getElem?_map] at hx
    obtain ⟨i', hi', rfl⟩ := Option.map_eq_some_iff.mp hx
    obtain ⟨rfl, hlt⟩ := range_get hi'
    have hset : ρ'.set 7 (some (.int ((f + i' : Nat) : Int))) = ρ.set 7 (some (.int ((f + i' : Nat) : Int))) := by
      rcases hρ with rfl | ⟨x, rfl⟩
      · rfl
      · rw [List.set_set]
    show PS.wp (pSeq (pPut (pI (pV 1) (pV 7)) (pV ti) (pC (.bool true))) pNil) (ρ'.set 7 (some (.int ((f + i' : Nat) : Int)))) σ' N' T
    rw [hset]
    have hp : f + i' < F'.length := by lia
    refine oV_i (v := .ref n) (by rw [nth_ne (by decide)]; exact h1) (oV_i (nth_self h7) (We_live lv hp (by lia) fun d hd hd' => oV_i (v := .int (t : Nat)) (by rw [nth_ne hti]; exact ht) ?_))
    have hbd := mem_bd hF' (f + i')
    have := hbd.len
    lk
    refine ⟨_, set_dict hd' (by rw [encS_len]; lia), hN.ap ?_⟩
    rw [put_encS]
    refine ⟨F'.set (f + i') (addS (F'.getD (f + i') []) t), .inr ⟨_, rfl⟩, he.set (hds d (List.mem_of_getElem? hd)).1, lv.addAt hnd (fun x hx => (hds x hx).2) hd, fun l hl' => ?_, by rw [List.length_set]; exact hl, fun p x => ?_⟩
    · rcases List.mem_or_eq_of_mem_set hl' with h | rfl
      · exact hF' l h
      · exact hbd.add ht5
    · rw [getD_set hp]
      split
      · rename_i hpp; subst hpp
        rw [mem_addS, hm]
        constructor
        · rintro ((h | ⟨h, h', h''⟩) | rfl)
          · exact .inl h
          · lia
          · exact .inr ⟨rfl, by lia, by lia⟩
        · rintro (h | ⟨rfl, _⟩)
          · exact .inl (.inl h)
          · exact .inr rfl
      · rename_i hpp
        rw [hm]
        constructor
        · rintro (h | ⟨h, h', h''⟩)
          · exact .inl h
          · exact .inr ⟨h, h', by lia⟩
        · rintro (h | ⟨h, h', h''⟩)
          · exact .inl h
          · exact .inr ⟨h, h', by lia⟩
  · rintro ρ' σ' ⟨F', hz⟩
    apply and6 hz; clear hz; intro hρ he lv hF' hl hm
    rw [List.length_map, List.length_range] at hm
    refine q ρ' σ' F' hρ he lv hF' hl fun p x => ?_
    rw [hm]
    constructor
    · rintro (h | ⟨h, h', h''⟩); exact .inl h; exact .inr ⟨h, h', by lia⟩
    · rintro (h | ⟨h, h', h''⟩); exact .inl h; exact .inr ⟨h, h', by lia⟩
noncomputable def keepT (p t : Nat) : Tr → Prop
  | .fin f _ l r => t = r ∧ f ≤ p ∧ p < l
  | _ => False
noncomputable def keepL (p t : Nat) (x : Live) : Prop := t = x.t ∧ x.f ≤ p ∧ p < x.b
noncomputable def LvA (C : Code) (t p : Nat) : Prop := Want C t p ∨ (∃ x ∈ C.trys, keepT p t x) ∨ (∃ x ∈ C.lives, keepL p t x)
theorem live_sp {C : Code} (W : C.Wf) {c σ} {Q : V → H → Prop} (hc : IsC σ c C)
    (q : ∀ n ds F σ', Ext σ σ' → σ.length ≤ n → (∀ d ∈ ds, σ.length ≤ d ∧ d ≠ n) → ds.Nodup → LvV σ' n ds F → (∀ l ∈ F, Bd l) → F.length = C.rows.length → (∀ p t, t ∈ F.getD p [] ↔ LvA C t p) → Q (.ref n) σ') : We (m_live_at [.ref c] σ) Q := by
  refine runE rfl rfl ?_
  have hr100 := W.sm.rows
  lk
  refine flown_sp W hc fun n ds F σ1 e1 l1 hds hnd lv G hfx => ?_
  lk
  refine Wsc (fun ρ σ' => ∃ F, Fm [some (.ref c), some (.ref n)] 9 ρ ∧ Ext σ σ' ∧ LvV σ' n ds F ∧ (∀ l ∈ F, Bd l) ∧ F.length = C.rows.length ∧ (∀ p t, t ∈ F.getD p [] ↔ Want C t p ∨ ∃ x ∈ C.trys, keepT p t x)) ?_ fun ρ σ2 hz => ?_
  · intro N' hN
    refine Ws_for' ?_
    lk
    refine We_trysE hc e1 fun ny hny => ?_
    refine ⟨.list, C.trys.map Tr.e, fun i ρ σ' => ∃ F, Fm [some (.ref c), some (.ref n)] 9 ρ ∧ Ext σ σ' ∧ LvV σ' n ds F ∧ (∀ l ∈ F, Bd l) ∧ F.length = C.rows.length ∧ (∀ p t, t ∈ F.getD p [] ↔ Want C t p ∨ ∃ x ∈ C.trys.take i, keepT p t x), ?_, ?_, ?_, ?_⟩
    · exact ⟨F, ⟨_, rfl, rfl⟩, e1, lv, G.bd, G.len, by simpa using hfx⟩
    · rintro i ρ σ' ⟨_, hz⟩
      have h := hz.2.1
      exact itl (h.get hny)
    · rintro i x ρ σ' N' hN hx ⟨F, hz⟩
      apply and6 hz; clear hz; intro hρ he lv hF hl hm
      apply fm9 hρ; intro x2 x3 x4 x5 x6 x7 x8 x9 x10
      rw [List.getElem?_map] at hx
      obtain ⟨t, ht, rfl⟩ := Option.map_eq_some_iff.mp hx
      rw [tsn ht] at hN
      induction t using Tr.casesOn with
      | cat f k e =>
        walk
        refine ⟨F, ⟨_, rfl, rfl⟩, he, lv, hF, hl, fun p t => ?_⟩
        rw [hm]
        simp [keepT]
      | fin f m l r =>
        have hfin := W.fin f m l r (List.mem_of_getElem? ht)
        lk
        refine Wsq ?_
        lk
        lk
        refine Wsq ?_
        have hbx : ∀ F' : List (List Nat), (∀ p x, x ∈ F'.getD p [] ↔ x ∈ F.getD p [] ∨ (x = r ∧ f ≤ p ∧ p < l)) → ∀ p t, t ∈ F'.getD p [] ↔ Want C t p ∨ ∃ x ∈ C.trys.take i ++ [Tr.fin f m l r], keepT p t x := by
          intro F' hm' p t
          rw [hm', hm]
          simp [keepT, or_and_right, exists_or, or_assoc]
        refine addLoop (f := f) (b := l) (t := r) (σ₀ := σ) rfl rfl rfl rfl (by decide) (by decide) (Nat.le_of_ble_eq_true rfl) he lv hnd hds hF (by rw [hl]; exact hfin.2.2.1) (by lia) (by lia) (by lia) fun ρ' σ' F' hρ' he' lv' hF' hl' hm' => ?_
        walk
        rcases hρ' with rfl | ⟨x, rfl⟩
        · exact ⟨F', ⟨_, rfl, rfl⟩, he', lv', hF', by lia, hbx F' hm'⟩
        · exact ⟨F', ⟨_, rfl, rfl⟩, he', lv', hF', by lia, hbx F' hm'⟩
    · rintro ρ σ' ⟨F, hz⟩
      try (show ‹R → H → Prop› _ _; refine Imp.ap ‹_› ?_)
      apply and6 hz; clear hz; intro hρ he lv hF hl hm
      rw [List.length_map, List.take_length] at hm
      exact ⟨F, hρ, he, lv, hF, hl, hm⟩
  obtain ⟨F2, hz⟩ := hz
  apply and6 hz; clear hz; intro hρ e2 lv2 hF2 hl2 hm2
  apply fm9 hρ; intro x2 x3 x4 x5 x6 x7 x8 x9 x10
  refine Wsc (fun ρ σ' => ∃ F, Fm [some (.ref c), some (.ref n)] 9 ρ ∧ Ext σ σ' ∧ LvV σ' n ds F ∧ (∀ l ∈ F, Bd l) ∧ F.length = C.rows.length ∧ (∀ p t, t ∈ F.getD p [] ↔ LvA C t p)) ?_ fun ρ σ3 hz => ?_
  · intro N' hN
    refine Ws_for' ?_
    lk
    refine We_livesE hc e2 fun ny hny => ?_
    refine ⟨.list, C.lives.map Live.e, fun i ρ σ' => ∃ F, Fm [some (.ref c), some (.ref n)] 9 ρ ∧ Ext σ σ' ∧ LvV σ' n ds F ∧ (∀ l ∈ F, Bd l) ∧ F.length = C.rows.length ∧ (∀ p t, t ∈ F.getD p [] ↔ (Want C t p ∨ ∃ x ∈ C.trys, keepT p t x) ∨ ∃ x ∈ C.lives.take i, keepL p t x), ?_, ?_, ?_, ?_⟩
    · exact ⟨F2, ⟨_, rfl, rfl⟩, e2, lv2, hF2, hl2, by simpa using hm2⟩
    · rintro i ρ σ' ⟨_, hz⟩
      have h := hz.2.1
      exact itl (h.get hny)
    · rintro i x ρ σ' N' hN hx ⟨F, hz⟩
      apply and6 hz; clear hz; intro hρ he lv hF hl hm
      apply fm9 hρ; intro x2 x3 x4 x5 x6 x7 x8 x9 x10
      rw [List.getElem?_map] at hx
      obtain ⟨t, ht, rfl⟩ := Option.map_eq_some_iff.mp hx
      rw [tsn ht] at hN
      have hliv := W.liv t (List.mem_of_getElem? ht)
      lk
      refine Wsq ?_
      have hbx : ∀ F' : List (List Nat), (∀ p x, x ∈ F'.getD p [] ↔ x ∈ F.getD p [] ∨ (x = t.t ∧ t.f ≤ p ∧ p < t.b)) → ∀ p y, y ∈ F'.getD p [] ↔ (Want C y p ∨ ∃ x ∈ C.trys, keepT p y x) ∨ ∃ x ∈ C.lives.take i ++ [t], keepL p y x := by
        intro F' hm' p y
        rw [hm', hm]
        simp [keepL, or_and_right, exists_or, or_assoc]
      refine addLoop (f := t.f) (b := t.b) (t := t.t) (σ₀ := σ) rfl rfl rfl rfl (by decide) (by decide) (Nat.le_of_ble_eq_true rfl) he lv hnd hds hF (by rw [hl]; exact hliv.2.1) (by lia) (by lia) (by lia) fun ρ' σ' F' hρ' he' lv' hF' hl' hm' => ?_
      walk
      rcases hρ' with rfl | ⟨x, rfl⟩
      · exact ⟨F', ⟨_, rfl, rfl⟩, he', lv', hF', by lia, hbx F' hm'⟩
      · exact ⟨F', ⟨_, rfl, rfl⟩, he', lv', hF', by lia, hbx F' hm'⟩
    · rintro ρ σ' ⟨F, hz⟩
      try (show ‹R → H → Prop› _ _; refine Imp.ap ‹_› ?_)
      apply and6 hz; clear hz; intro hρ he lv hF hl hm
      rw [List.length_map, List.take_length] at hm
      exact ⟨F, hρ, he, lv, hF, hl, fun p t => (hm p t).trans (by unfold LvA; rw [or_assoc])⟩
  obtain ⟨F3, hz⟩ := hz
  apply and6 hz; clear hz; intro hρ e3 lv3 hF3 hl3 hm3
  apply fm9 hρ; intro x2 x3 x4 x5 x6 x7 x8 x9 x10
  lk
  exact q _ _ _ _ e3 l1 hds hnd lv3 hF3 hl3 hm3
theorem strict_ext : ∀ {a b : List Int}, a.Pairwise (· < ·) → b.Pairwise (· < ·) → (∀ x, x ∈ a ↔ x ∈ b) → a = b
  | [], [], _, _, _ => rfl
  | [], y :: b, _, _, h => absurd ((h y).mpr (.head _)) (by simp)
  | x :: a, [], _, _, h => absurd ((h x).mp (.head _)) (by simp)
  | x :: a, y :: b, ha, hb, h => by
    rw [List.pairwise_cons] at ha hb
    have hxy : x = y := by
      have h1 := (h x).mp (.head _)
      have h2 := (h y).mpr (.head _)
      rcases List.mem_cons.mp h1 with e | e
      · exact e
      · rcases List.mem_cons.mp h2 with e' | e'
        · exact e'.symm
        · have := hb.1 x e; have := ha.1 y e'; lia
    subst hxy
    congr 1
    refine strict_ext ha.2 hb.2 fun z => ?_
    constructor
    · intro hz
      rcases List.mem_cons.mp ((h z).mp (.tail _ hz)) with e | e
      · subst e; have := ha.1 z hz; lia
      · exact e
    · intro hz
      rcases List.mem_cons.mp ((h z).mpr (.tail _ hz)) with e | e
      · subst e; have := hb.1 z hz; lia
      · exact e
theorem ins_mem (a x : Int) : ∀ l : List Int, x ∈ ins a l ↔ x = a ∨ x ∈ l
  | [] => by simp [ins]
  | b :: r => by
    unfold ins; split
    · simp
    · rw [List.mem_cons, ins_mem a x r, List.mem_cons]
      constructor
      · rintro (h | h | h); exact .inr (.inl h); exact .inl h; exact .inr (.inr h)
      · rintro (h | h | h); exact .inr (.inl h); exact .inl h; exact .inr (.inr h)
theorem isort_mem (x : Int) : ∀ l : List Int, x ∈ isort l ↔ x ∈ l
  | [] => by simp [isort]
  | a :: r => by rw [isort, ins_mem, isort_mem x r, List.mem_cons]
theorem ins_strict {a : Int} : ∀ {l : List Int}, l.Pairwise (· < ·) → a ∉ l → (ins a l).Pairwise (· < ·)
  | [], _, _ => by simp [ins]
  | b :: r, h, hn => by
    obtain ⟨h1, h2⟩ := List.pairwise_cons.mp h
    have hab : a ≠ b := fun e => hn (e ▸ .head _)
    unfold ins; split
    · refine List.pairwise_cons.mpr ⟨fun z hz => ?_, h⟩
      rcases List.mem_cons.mp hz with rfl | hz
      · lia
      · have := h1 z hz; lia
    · refine List.pairwise_cons.mpr ⟨fun z hz => ?_, ins_strict h2 fun e => hn (.tail _ e)⟩
      rcases (ins_mem a z r).mp hz with rfl | hz
      · lia
      · exact h1 z hz
theorem isort_strict : ∀ {l : List Int}, l.Nodup → (isort l).Pairwise (· < ·)
  | [], _ => .nil
  | a :: r, h => by
    obtain ⟨h1, h2⟩ := List.nodup_cons.mp h
    exact ins_strict (isort_strict h2) fun e => h1 ((isort_mem a r).mp e)
open Classical in
noncomputable def canon (P : Nat → Prop) : List Nat := (List.range 5).filter fun t => decide (P t)
theorem canon_mem {P : Nat → Prop} {t} : t ∈ canon P ↔ t < 5 ∧ P t := by simp [canon]
theorem bd_canon {P} : Bd (canon P) := ⟨List.nodup_range.filter _, fun t ht => (canon_mem.mp ht).1⟩
theorem cast_nodup {l : List Nat} (h : l.Nodup) : (l.map fun k : Nat => (k : Int)).Nodup := by
  induction l with
  | nil => simp
  | cons a r ih =>
    obtain ⟨h1, h2⟩ := List.nodup_cons.mp h
    rw [List.map_cons, List.nodup_cons]
    refine ⟨fun hm => ?_, ih h2⟩
    obtain ⟨b, hb, e⟩ := List.mem_map.mp hm
    have : b = a := by lia
    exact h1 (this ▸ hb)
theorem isort_canon {l : List Nat} {P : Nat → Prop} (h : Bd l) (hm : ∀ t, t < 5 → (t ∈ l ↔ P t)) : isort (l.map fun k : Nat => (k : Int)) = (canon P).map fun k : Nat => (k : Int) := by
  refine strict_ext (isort_strict (cast_nodup h.1)) ?_ fun x => ?_
  · rw [List.pairwise_map]
    have : (List.range 5).Pairwise (· < ·) := List.pairwise_lt_range
    exact (this.filter _).imp fun h => by lia
  · rw [isort_mem]
    simp only [List.mem_map, canon_mem]
    constructor
    · rintro ⟨k, hk, rfl⟩; exact ⟨k, ⟨h.2 k hk, (hm k (h.2 k hk)).mp hk⟩, rfl⟩
    · rintro ⟨k, ⟨h5, hk⟩, rfl⟩; exact ⟨k, (hm k h5).mpr hk, rfl⟩
theorem intsOf_map : ∀ l : List Int, intsOf (l.map V.int) = some l
  | [] => rfl
  | a :: r => by rw [List.map_cons, intsOf, intsOf_map r]
theorem We_sortedL {n : Nat} {l : List Nat} {P : Nat → Prop} {σ} {Q : V → H → Prop} (hn : σ[n]? = some (.list (intsV l))) (h : Bd l) (hm : ∀ t, t < 5 → (t ∈ l ↔ P t)) (q : Q (.ref σ.length) (σ ++ [.list (intsV (canon P))])) : We (vSorted [.ref n] σ) Q := by
  have := h.len
  rw [intsV_eq] at hn
  refine ⟨_, _, ?_, q⟩
  show oLI σ[n]? _ _ = _
  rw [hn]
  show (intsOf _).bind _ = _
  rw [intsOf_map]
  show (if _ then some (V.ref σ.length, σ ++ [MO.list _]) else none) = _
  rw [if_pos (by simp; lia), isort_canon h hm, ← intsV_eq]
theorem We_sortedD {n : Nat} {l : List Nat} {P : Nat → Prop} {σ} {Q : V → H → Prop} (hn : σ[n]? = some (.dictI (encS l))) (h : Bd l) (hm : ∀ t, t < 5 → (t ∈ l ↔ P t)) (q : Q (.ref σ.length) (σ ++ [.list (intsV (canon P))])) : We (vSorted [.ref n] σ) Q := by
  have := h.len
  refine ⟨_, _, ?_, q⟩
  have hk : (encS l).map (·.1) = l.map fun k : Nat => (k : Int) := by simp [encS, Function.comp_def]
  show oLI σ[n]? _ _ = _
  rw [hn]
  show (if _ then some (V.ref σ.length, σ ++ [MO.list ((isort ((encS l).map fun p : Int × V => p.1)).map V.int)]) else none) = _
  rw [hk]
  rw [if_pos (by rw [encS_len]; lia), isort_canon h hm, ← intsV_eq]
noncomputable def Opd.d : Opd → PyData
  | .lx => .tuple [.str (strV [108, 105, 116]), .str (strV [120])]
  | .ln => .tuple [.str (strV [108, 105, 116]), .none]
  | .lz => .tuple [.str (strV [108, 105, 116]), .int 0]
  | .lw => .tuple [.str (strV [108, 105, 116]), .str (strV [119])]
  | .tmp k => .tuple [.str (strV [116, 109, 112]), .int k]
  | .cv k => .tuple [.str (strV [99, 118]), .int k]
theorem Opd.toD (o : Opd) {n σ} : Mine.Internal.toD (n + 2) σ o.e = some o.d := by cases o <;> rfl
theorem Opd.lay (o : Opd) : o.d.canLay0 = true := by
  cases o <;> simp only [Opd.d, PyData.canLay0, PyData.canLayAll0, strOk_l] <;> rfl
theorem ops_toD {n σ} : ∀ l : List Opd, toDs (Mine.Internal.toD (n + 2) σ) (l.map Opd.e) = some (l.map Opd.d)
  | [] => rfl
  | o :: r => by simp only [List.map_cons, toDs, o.toD, ops_toD r]
theorem ops_lay : ∀ l : List Opd, PyData.canLayAll0 (l.map Opd.d) = true
  | [] => rfl
  | o :: r => by rw [List.map_cons, PyData.canLayAll0, o.lay, ops_lay r]; rfl
theorem Opd.eqt (o : Opd) (t : Nat) : PyData.eqv o.d (Opd.tmp t).d = decide (o.t? = some t) := by
  cases o <;> simp [Opd.d, PyData.eqv, PyData.eqvAll, strV_inj, Opd.t?]
  rw [Bool.eq_iff_iff]; simp; lia
theorem We_inOps {n : Nat} {l : List Opd} {t : Nat} {σ} {Q : V → H → Prop} (hn : σ[n]? = some (.list (l.map Opd.e))) (q : Q (.bool ((l.filterMap Opd.t?).contains t)) σ) : We (vIn (.tup [.str [116, 109, 112], .int (t : Nat)]) (.ref n) σ) Q := by
  refine ⟨_, σ, ?_, q⟩
  have h2 : Mine.Internal.toD 16 σ (.tup [.str [116, 109, 112], .int (t : Nat)]) = some (Opd.tmp t).d := (Opd.tmp t).toD (n := 14)
  have : ((l.map Opd.d).any fun y => PyData.eqv y (Opd.tmp t).d) = (l.filterMap Opd.t?).contains t := by
    rw [Bool.eq_iff_iff]
    simp [Opd.eqt]
  have hb : vInB (.tup [.str [116, 109, 112], .int (t : Nat)]) (.ref n) σ = some ((l.filterMap Opd.t?).contains t) := by
    show oLI σ[n]? _ _ = _
    rw [hn]
    exact vHas_i (ops_toD (n := 13) l) h2 (ops_lay l) (Opd.tmp t).lay this
  unfold vIn
  rw [hb]
theorem toD_list {k n : Nat} {σ vs ds} (h : σ[n]? = some (.list vs)) (h' : toDs (Mine.Internal.toD k σ) vs = some ds) : Mine.Internal.toD (k + 1) σ (.ref n) = some (.list ds) := by
  conv => lhs; unfold Mine.Internal.toD
  simp only [h, h']
theorem toD_tup {k : Nat} {σ vs ds} (h' : toDs (Mine.Internal.toD k σ) vs = some ds) : Mine.Internal.toD (k + 1) σ (.tup vs) = some (.tuple ds) := by
  conv => lhs; unfold Mine.Internal.toD
  simp only [h']
theorem We_neL {n m : Nat} {l : List Nat} {σ} {Q : V → H → Prop} (hn : σ[n]? = some (.list (intsV l))) (hm : σ[m]? = some (.list [])) (q : Q (.bool !l.isEmpty) σ) : We (vNe (.ref n) (.ref m) σ) Q := by
  refine ⟨_, σ, ?_, q⟩
  rw [intsV_eq] at hn
  have h1 : Mine.Internal.toD 16 σ (.ref n) = some (.list ((l.map fun k : Nat => (k : Int)).map PyData.int)) := toD_list hn (toDs_ints _)
  have h2 : Mine.Internal.toD 16 σ (.ref m) = some (.list []) := toD_list hm rfl
  simp only [vNe, eqB, h1, h2]
  rw [if_pos ⟨lay_ints _, rfl⟩]
  cases l <;> rfl
theorem wy_len (C : Code) (r : Row) (p : Nat) : (C.wy r p).length ≤ 3 := by
  have h' := opt_le (hdl C.trys p)
  have h2 := opt_le r.tgt
  unfold Code.wy
  simp
  split <;> simp <;> lia
theorem getLast_snoc {α} {l : List α} (h : l ≠ []) : ∃ a r, l = r ++ [a] := ⟨l.getLast h, l.dropLast, (List.dropLast_concat_getLast h).symm⟩
theorem meas_lem {a g K N m : Nat} (h1 : a + 1 + 4 * (N - K) ≤ m) (h2 : K + 1 ≤ N) (h3 : g ≤ 3) : a + g + 4 * (N - (K + 1)) ≤ m - 1 := by
  obtain ⟨d, rfl⟩ := Nat.exists_eq_add_of_le h2
  rw [Nat.add_sub_cancel_left]
  rw [Nat.add_assoc K 1 d, Nat.add_sub_cancel_left] at h1
  exact Nat.le_sub_of_add_le (by lia)
theorem We_pop {n : Nat} {σ vs v} {Q : V → H → Prop} (h : σ[n]? = some (.list (vs ++ [v]))) (hl : vs.length < 100000) (q : Q v (σ.set n (.list vs))) : We (vPop (.ref n) [] σ) Q := by
  refine ⟨v, _, ?_, q⟩
  show oL σ[n]? _ = _
  rw [h]
  show (vs ++ [v]).getLast?.bind _ = _
  rw [List.getLast?_concat]
  show (if _ then some (v, σ.set n (MO.list (vs ++ [v]).dropLast)) else none) = _
  rw [List.dropLast_concat]
  rw [if_pos (by simp; lia)]
theorem intsV_app (a b : List Nat) : intsV (a ++ b) = intsV a ++ intsV b := by simp [intsV]
noncomputable def goF (t : Nat) (w : Nat × Option Nat) : Option Nat := if w.2 = some t then none else some w.1
theorem wanted_sp {C : Code} (hC : C.Sm) {c p t : Nat} {σ} {Q : V → H → Prop} (hc : IsC σ c C) (hp : p < C.rows.length)
    (q : ∀ b σ', Ext σ σ' → (b = true ↔ Want C t p) → Q (.bool b) σ') : We (m_law_is_wanted [.ref c, .int (p : Nat), .int (t : Nat)] σ) Q := by
  refine runE rfl rfl ?_
  have hr100 := hC.rows
  lk
  rw [show (σ ++ [MO.list [V.int (p : Nat)]]).length = σ.length + 1 by simp]
  let Inv : Nat → R → H → Prop := fun m ρ σ' => ∃ left known : List Nat, (∃ x5, ρ = [some (.ref c), some (.int (p : Nat)), some (.int (t : Nat)), some (.ref σ.length), some (.ref (σ.length + 1)), x5]) ∧ Ext σ σ' ∧ σ'[σ.length]? = some (.list (intsV left)) ∧ σ'[σ.length + 1]? = some (.list (intsV known)) ∧
    known.Nodup ∧ (∀ k ∈ known, k < C.rows.length) ∧ (∀ k ∈ known, ∀ r, C.rows[k]? = some r → t ∉ r.rd) ∧ (∀ k ∈ known, ∀ r, C.rows[k]? = some r → ∀ w ∈ C.wy r k, w.2 ≠ some t → w.1 < C.rows.length → w.1 ∈ known ∨ w.1 ∈ left) ∧
    (∀ x ∈ left, Want C t x → Want C t p) ∧ (p ∈ left ∨ p ∈ known) ∧ left.length + 4 * (C.rows.length - known.length) ≤ m ∧ m ≤ 1000
  refine Wsc (fun ρ σ' => Ext σ σ' ∧ ¬ Want C t p) ?_ fun ρ σ' hz => ?_
  · intro N' hN
    refine Ws_wh Inv (fun m ρ σ' J hJ h => ?_) 100000 1000 _ _ (by lia) ⟨[p], [], ⟨none, rfl⟩, Ext.snoc Ext.one, sno sng, ?_, .nil, by simp, by simp, by simp, by simp, by simp, by simp; lia, by lia⟩
    · obtain ⟨left, known, ⟨x5, hρ⟩, he, hl, hk, hnd, hlt, hnr, hcl, hre, hpin, hm, hm1⟩ := h
      subst hρ
      walk
      refine We_neL (sno hl) sng ?_
      lk
      have hl' := sno (o := .list []) hl
      have hk' := sno (o := .list []) hk
      have he' := he.snoc (o := .list [])
      generalize σ' ++ [.list []] = σ2 at hl' hk' he'
      cases hle : left.isEmpty with
      | true =>
        have : left = [] := by cases left; rfl; simp at hle
        subst this
        refine c_false (hN.ap ⟨he', fun hw => ?_⟩)
        have hpk : p ∈ known := by rcases hpin with h | h; simp at h; exact h
        have all : ∀ x, Want C t x → x ∈ known → False := by
          intro x hx
          induction hx with
          | here hr ht => exact fun hk => hnr _ hk _ hr ht
          | step hr hw hg hn ih =>
            intro hk
            rcases hcl _ hk _ hr _ hw hg hn.lt with h | h
            · exact ih h
            · simp at h
        exact all p hw hpk
      | false =>
        have hne : left ≠ [] := by intro e; subst e; simp at hle
        refine c_true ?_
        obtain ⟨h, rest, rfl⟩ := getLast_snoc hne
        have hml : 1 ≤ m := by simp at hm; lia
        have hknl : known.length ≤ C.rows.length := by
          have := sub_len (b := List.range C.rows.length) hnd fun x hx => List.mem_range.mpr (hlt x hx)
          simpa using this
        have hrl : rest.length < 1000 := by simp at hm; lia
        have hml' : rest.length + 1 + 4 * (C.rows.length - known.length) ≤ m := by simpa using hm
        clear hm
        refine ⟨m - 1, n_pred hml, fun N2 hN2 => ?_⟩
        lk
        refine ⟨ty_list hl', ?_⟩
        lk
        rw [intsV_app] at hl'
        refine We_pop hl' (by rw [ivl]; lia) ?_
        have hl3 := upg (o := .list (intsV rest)) hl'
        have hk3 := upd_ne' (n := σ.length) (o := .list (intsV rest)) (by lia) hk'
        have he3 := he'.set (n := σ.length) (o := .list (intsV rest)) (Nat.le_refl _)
        generalize σ2.set σ.length (.list (intsV rest)) = σ3 at hl3 hk3 he3
        have hrestC : ∀ k ∈ known, ∀ r, C.rows[k]? = some r → ∀ w ∈ C.wy r k, w.2 ≠ some t → w.1 < C.rows.length → w.1 ∈ known ∨ w.1 ∈ rest ∨ w.1 = h := by
          intro k hk r hr w hw h1 h2
          rcases hcl k hk r hr w hw h1 h2 with h | h
          · exact .inl h
          · simp at h; exact .inr h
        have hskip : (C.rows.length ≤ h ∨ h ∈ known) → Inv (m - 1) [some (.ref c), some (.int (p : Nat)), some (.int (t : Nat)), some (.ref σ.length), some (.ref (σ.length + 1)), some (.int (h : Nat))] σ3 := by
          intro hh
          refine ⟨rest, known, ⟨_, rfl⟩, he3, hl3, hk3, hnd, hlt, hnr, fun k hk r hr w hw h1 h2 => ?_, fun x hx => hre x (by simp [hx]), ?_, n_l1 hml', Nat.le_trans (Nat.sub_le _ _) hm1⟩
          · rcases hrestC k hk r hr w hw h1 h2 with h | h | h
            · exact .inl h
            · exact .inr h
            · rcases hh with hh | hh
              · lia
              · exact .inl (h ▸ hh)
          · rcases hpin with h | h
            · simp at h
              rcases h with h | h
              · exact .inl h
              · rcases hh with hh | hh
                · lia
                · exact .inr (h ▸ hh)
            · exact .inr h
        refine Wsq ?_
        walk
        refine We_rowsE hc he3 fun nr hnr' => ?_
        walk
        refine We_lenM (he3.get hnr') hC.r ?_
        walk
        refine cbo (fun h1 => ?_) fun h1 => ?_
        · have h1 := of_decide_eq_true h1
          walk
          refine We_niNl hk3 ?_
          lk
          refine cbo (fun h2 => ?_) fun h2 => ?_
          · have h2 : h ∉ known := by simpa using h2
            have hhl : h < C.rows.length := by lia
            obtain ⟨r, hr⟩ : ∃ r, C.rows[h]? = some r := ⟨_, List.getElem?_eq_getElem hhl⟩
            lk
            refine ⟨ty_list hk3, ?_⟩
            lk
            have hknl1 : known.length + 1 ≤ C.rows.length := by
              have := sub_len (a := h :: known) (b := List.range C.rows.length) (List.nodup_cons.mpr ⟨h2, hnd⟩) fun x hx => List.mem_range.mpr (by rcases List.mem_cons.mp hx with rfl | hx; exact hhl; exact hlt x hx)
              simpa using this
            refine Wap hk3 (by rw [ivl]; lia) ?_
            have hl4 := upd_ne' (n := σ.length + 1) (o := .list (intsV known ++ [.int (h : Nat)])) (by lia) hl3
            have hk4 := upg (o := .list (intsV known ++ [.int (h : Nat)])) hk3
            have he4 := he3.set (n := σ.length + 1) (o := .list (intsV known ++ [.int (h : Nat)])) (by lia)
            generalize σ3.set (σ.length + 1) (.list (intsV known ++ [.int (h : Nat)])) = σ4 at hl4 hk4 he4
            have hk4 : σ4[σ.length + 1]? = some (.list (intsV (known ++ [h]))) := by rw [hk4, intsV_app]; rfl
            refine Wsq ?_
            walk
            refine We_rowsE hc he4 fun nr4 hnr4 => ?_
            walk
            refine We_idxM (he4.get hnr4) hr hC.r ?_
            walk
            refine operands_sp r fun no σ5 e5 l5 h5 => ?_
            refine We_inOps h5 ?_
            lk
            refine cbo (fun h3 => ?_) fun h3 => ?_
            · walk
              have hrd : t ∈ r.rd := by simpa [Row.rd] using h3
              refine q true _ (he4.trans e5) ⟨fun _ => hre h (by simp) (.here hr hrd), fun _ => rfl⟩
            · have hrd : t ∉ r.rd := by simpa [Row.rd] using h3
              walk
              have hl5 := e5.get hl4
              have hk5 := e5.get hk4
              have he5 := he4.trans e5
              refine ⟨ty_list hl5, ?_⟩
              walk
              refine We_comp ?_
              walk
              refine lways_sp (hc.ext he5) hr fun nw σ6 e6 l6 h6 => ?_
              refine We_compF (α := Nat × Option Nat) (enc := wE) (L := C.wy r h) (f := fun w => (goF t w).map fun k => V.int (k : Nat)) (fun ρ => ∃ x y, ρ = [x, y, some (.int (t : Nat))]) ⟨.list, by have := wy_len C r h; lia, fun σ' e => itl (e.get h6), ⟨_, _, rfl⟩, fun w hw ρ σ' hz he => ?_, fun ne σ7 e7 l7 h7 => ?_⟩
              · obtain ⟨x, y, hρ⟩ := hz
                subst hρ
                obtain ⟨a, o⟩ := w
                refine ⟨[some (.int (a : Nat)), some (optV o), some (.int (t : Nat))], rfl, ⟨_, _, rfl⟩, ?_⟩
                induction o using Option.casesOn with
                | none =>
                  walk
                  refine We_neN ?_
                  walk
                  exact ⟨Ext.refl, rfl⟩
                | some k =>
                  walk
                  refine We_neI ?_
                  walk
                  refine cbo (fun h => ?_) fun h => ?_
                  · walk
                    have : k ≠ t := by simp at h; lia
                    refine ⟨Ext.refl, ?_⟩
                    simp [goF, this]
                  · walk
                    have : k = t := by simp at h; lia
                    refine ⟨Ext.refl, ?_⟩
                    simp [goF, this]
              · walk
                have e57 := e6.trans e7
                have hl7 := e57.get hl5
                have hk7 := e57.get hk5
                have he7 := he5.trans e57
                have hmap : (C.wy r h).filterMap (fun w => (goF t w).map fun k => V.int (k : Nat)) = intsV ((C.wy r h).filterMap (goF t)) := by
                  rw [intsV, ← List.filterMap_eq_map, List.filterMap_filterMap]
                  congr 1
                  funext w
                  cases goF t w <;> rfl
                rw [hmap] at h7
                have hgl : ((C.wy r h).filterMap (goF t)).length ≤ 3 := Nat.le_trans (List.length_filterMap_le _ _) (wy_len C r h)
                have hlne : σ.length ≠ ne := by have := get_lt hl5; have := e6.len; lia
                refine We_extend hl7 h7 hlne (by rw [ivl, ivl]; lia) ?_
                walk
                have hgo : ∀ x, x ∈ (C.wy r h).filterMap (goF t) ↔ ∃ w ∈ C.wy r h, w.2 ≠ some t ∧ w.1 = x := by
                  intro x
                  simp only [List.mem_filterMap, goF]
                  constructor
                  · rintro ⟨w, h1, h2⟩
                    split at h2
                    · cases h2
                    · rename_i h3; exact ⟨w, h1, h3, Option.some.inj h2⟩
                  · rintro ⟨w, h1, h2, h3⟩
                    exact ⟨w, h1, by rw [if_neg h2, h3]⟩
                refine ⟨m - 1, Nat.le_refl _, (hJ _).ap ⟨rest ++ (C.wy r h).filterMap (goF t), known ++ [h], ⟨_, rfl⟩, he7.set (Nat.le_refl _), ?_, upd_ne' (by lia) hk7, ?_, ?_, ?_, ?_, ?_, ?_, ?_, by lia⟩⟩
                · rw [upg hl7, intsV_app]
                · rw [List.nodup_append]
                  refine ⟨hnd, by simp, fun a ha b hb => ?_⟩
                  simp at hb; subst hb
                  exact fun e => h2 (e ▸ ha)
                · intro k hk
                  rcases List.mem_append.mp hk with hk | hk
                  · exact hlt k hk
                  · simp at hk; subst hk; exact hhl
                · intro k hk r' hr'
                  rcases List.mem_append.mp hk with hk | hk
                  · exact hnr k hk r' hr'
                  · simp at hk; subst hk; rw [hr] at hr'; cases hr'; exact hrd
                · intro k hk r' hr' w hw g1 g2
                  rcases List.mem_append.mp hk with hk | hk
                  · rcases hrestC k hk r' hr' w hw g1 g2 with h | h | h
                    · exact .inl (by simp [h])
                    · exact .inr (by simp [h])
                    · exact .inl (by simp [h])
                  · simp at hk; subst hk; rw [hr] at hr'; cases hr'
                    exact .inr (List.mem_append.mpr (.inr ((hgo _).mpr ⟨w, hw, g1, rfl⟩)))
                · intro x hx hwx
                  rcases List.mem_append.mp hx with hx | hx
                  · exact hre x (by simp [hx]) hwx
                  · obtain ⟨w, h1, h2, rfl⟩ := (hgo x).mp hx
                    exact hre h (by simp) (.step hr h1 h2 hwx)
                · rcases hpin with h | h
                  · simp at h
                    rcases h with h | h
                    · exact .inl (by simp [h])
                    · exact .inr (by simp [h])
                  · exact .inr (by simp [h])
                · rw [List.length_append, List.length_append]
                  exact meas_lem hml' hknl1 hgl
          · have h2 : h ∈ known := by simpa using h2
            walk
            exact ⟨m - 1, Nat.le_refl _, (hJ _).ap (hskip (.inr h2))⟩
        · have h1 := of_decide_eq_false h1
          walk
          exact ⟨m - 1, Nat.le_refl _, (hJ _).ap (hskip (.inl (by lia)))⟩
    · rw [show σ.length + 1 = (σ ++ [MO.list [V.int (p : Nat)]]).length by simp]
      exact sng
  · obtain ⟨e', hn⟩ := hz
    lk
    exact q false _ e' ⟨by simp, fun h => absurd h hn⟩
theorem llive_sp {C : Code} (W : C.Wf) {c p : Nat} {σ} {Q : V → H → Prop} (hc : IsC σ c C) (hp : p < C.rows.length)
    (q : QL σ (intsV (canon fun t => LvA C t p)) Q) : We (m_law_live [.ref c, .int (p : Nat)] σ) Q := by
  refine runE rfl rfl ?_
  lk
  refine We_comp ?_
  lk
  refine We_rng1 (by decide) ?_
  refine We_compF (α := Nat) (enc := fun k => V.int (k : Nat)) (L := List.range 5) (f := fun t => open Classical in if Want C t p then some (V.int (t : Nat)) else none) (fun ρ => ∃ x, ρ = [x, some (.ref c), some (.int (p : Nat))]) ⟨.fix, by simp, fun σ' _ => it_range0 (b := 5) (by decide), ⟨_, rfl⟩, fun t _ ρ σ' hz he => ?_, fun nf σ1 e1 l1 h1 => ?_⟩
  · obtain ⟨x, hρ⟩ := hz
    subst hρ
    refine ⟨[some (.int (t : Nat)), some (.ref c), some (.int (p : Nat))], rfl, ⟨_, rfl⟩, ?_⟩
    lk
    refine wanted_sp W.sm (hc.ext he) hp fun b σ2 e2 hb => ?_
    lk
    induction b using Bool.casesOn with
    | true =>
      lk
      exact ⟨e2, by rw [if_pos (hb.mp rfl)]⟩
    | false =>
      lk
      exact ⟨e2, by rw [if_neg fun h => by simpa using hb.mpr h]⟩
  have hL : (List.range 5).filterMap (fun t => open Classical in if Want C t p then some (V.int (t : Nat)) else none) = intsV (canon fun t => Want C t p) := by
    unfold canon intsV
    rw [← List.filterMap_eq_map, ← List.filterMap_eq_filter, List.filterMap_filterMap]
    congr 1
    funext t
    by_cases h : Want C t p
    · simp [h, Option.guard]
    · simp [h, Option.guard]
  rw [hL] at h1
  refine Wsc (fun ρ σ' => ∃ L, Fm [some (.ref c), some (.int (p : Nat)), some (.ref nf)] 8 ρ ∧ Ext σ σ' ∧ σ'[nf]? = some (.list (intsV L)) ∧ Bd L ∧ (∀ t, t < 5 → (t ∈ L ↔ Want C t p ∨ ∃ x ∈ C.trys, keepT p t x))) ?_ fun ρ σ2 hz => ?_
  · intro N' hN
    refine Ws_for' ?_
    lk
    refine We_trysE hc e1 fun ny hny => ?_
    refine ⟨.list, C.trys.map Tr.e, fun i ρ σ' => ∃ L, Fm [some (.ref c), some (.int (p : Nat)), some (.ref nf)] 8 ρ ∧ Ext σ σ' ∧ σ'[nf]? = some (.list (intsV L)) ∧ Bd L ∧ (∀ t, t < 5 → (t ∈ L ↔ Want C t p ∨ ∃ x ∈ C.trys.take i, keepT p t x)), ?_, ?_, ?_, ?_⟩
    · exact ⟨_, ⟨_, rfl, rfl⟩, e1, h1, bd_canon, fun t ht => by simp [canon_mem, ht]⟩
    · rintro i ρ σ' ⟨_, hz⟩
      have h := hz.2.1
      exact itl (h.get hny)
    · rintro i x ρ σ' N' hN hx ⟨L, hz⟩
      apply and5 hz; clear hz; intro hρ he hl hb hm
      apply fm8 hρ; intro x3 x4 x5 x6 x7 x8 x9 x10
      rw [List.getElem?_map] at hx
      obtain ⟨t, ht, rfl⟩ := Option.map_eq_some_iff.mp hx
      rw [tsn ht] at hN
      induction t using Tr.casesOn with
      | cat f k e =>
        walk
        refine ⟨L, ⟨_, rfl, rfl⟩, he, hl, hb, fun t ht => ?_⟩
        rw [hm t ht]
        simp [keepT]
      | fin f m l r =>
        have hfin := W.fin f m l r (List.mem_of_getElem? ht)
        have skip : (r ∈ L ∨ ¬ (f ≤ p ∧ p < l)) → ∀ t, t < 5 → (t ∈ L ↔ Want C t p ∨ ∃ x ∈ C.trys.take i ++ [Tr.fin f m l r], keepT p t x) := by
          intro hs t ht
          constructor
          · intro h
            rcases (hm t ht).mp h with h | ⟨x, h1, h2⟩
            · exact .inl h
            · exact .inr ⟨x, by simp [h1], h2⟩
          · rintro (h | ⟨x, h1, h2⟩)
            · exact (hm t ht).mpr (.inl h)
            · rcases List.mem_append.mp h1 with h1 | h1
              · exact (hm t ht).mpr (.inr ⟨x, h1, h2⟩)
              · simp at h1; subst h1
                obtain ⟨rfl, h3, h4⟩ := h2
                rcases hs with hs | hs
                · exact hs
                · exact absurd ⟨h3, h4⟩ hs
        walk
        refine cbo (fun g1 => ?_) fun g1 => ?_
        · walk
          refine cbo (fun g2 => ?_) fun g2 => ?_
          · walk
            refine We_niNl hl ?_
            lk
            refine cbo (fun g3 => ?_) fun g3 => ?_
            · have g3 : r ∉ L := by simpa using g3
              walk
              refine ⟨ty_list hl, ?_⟩
              walk
              have := hb.len
              refine Wap hl (by rw [ivl]; lia) ?_
              walk
              have hadd : addS L r = L ++ [r] := if_neg g3
              refine ⟨L ++ [r], ⟨_, rfl, rfl⟩, he.set l1, ?_, hadd ▸ hb.add hfin.1, fun t ht => ?_⟩
              · rw [upg hl, intsV_app]; rfl
              · rw [List.mem_append, hm t ht]
                have gg : f ≤ p ∧ p < l := ⟨by simp at g1; lia, by simp at g2; lia⟩
                simp [keepT, or_and_right, exists_or, or_assoc, gg]
            · have g3 : r ∈ L := by simpa using g3
              walk
              exact ⟨L, ⟨_, rfl, rfl⟩, he, hl, hb, skip (.inl g3)⟩
          · walk
            exact ⟨L, ⟨_, rfl, rfl⟩, he, hl, hb, skip (.inr (by simp at g2; lia))⟩
        · walk
          exact ⟨L, ⟨_, rfl, rfl⟩, he, hl, hb, skip (.inr (by simp at g1; lia))⟩
    · rintro ρ σ' ⟨L, hz⟩
      try (show ‹R → H → Prop› _ _; refine Imp.ap ‹_› ?_)
      apply and5 hz; clear hz; intro hρ he hl hb hm
      rw [List.length_map, List.take_length] at hm
      exact ⟨L, hρ, he, hl, hb, hm⟩
  obtain ⟨L2, hz⟩ := hz
  apply and5 hz; clear hz; intro hρ e2 h2 b2 m2
  apply fm8 hρ; intro x3 x4 x5 x6 x7 x8 x9 x10
  refine Wsc (fun ρ σ' => ∃ L, Fm [some (.ref c), some (.int (p : Nat)), some (.ref nf)] 8 ρ ∧ Ext σ σ' ∧ σ'[nf]? = some (.list (intsV L)) ∧ Bd L ∧ (∀ t, t < 5 → (t ∈ L ↔ LvA C t p))) ?_ fun ρ σ3 hz => ?_
  · intro N' hN
    refine Ws_for' ?_
    lk
    refine We_livesE hc e2 fun ny hny => ?_
    refine ⟨.list, C.lives.map Live.e, fun i ρ σ' => ∃ L, Fm [some (.ref c), some (.int (p : Nat)), some (.ref nf)] 8 ρ ∧ Ext σ σ' ∧ σ'[nf]? = some (.list (intsV L)) ∧ Bd L ∧ (∀ t, t < 5 → (t ∈ L ↔ (Want C t p ∨ ∃ x ∈ C.trys, keepT p t x) ∨ ∃ x ∈ C.lives.take i, keepL p t x)), ?_, ?_, ?_, ?_⟩
    · exact ⟨_, ⟨_, rfl, rfl⟩, e2, h2, b2, fun t ht => by simp [m2 t ht]⟩
    · rintro i ρ σ' ⟨_, hz⟩
      have h := hz.2.1
      exact itl (h.get hny)
    · rintro i x ρ σ' N' hN hx ⟨L, hz⟩
      apply and5 hz; clear hz; intro hρ he hl hb hm
      apply fm8 hρ; intro x3 x4 x5 x6 x7 x8 x9 x10
      rw [List.getElem?_map] at hx
      obtain ⟨x, ht, rfl⟩ := Option.map_eq_some_iff.mp hx
      rw [tsn ht] at hN
      have hliv := W.liv x (List.mem_of_getElem? ht)
      have skip : (x.t ∈ L ∨ ¬ (x.f ≤ p ∧ p < x.b)) → ∀ t, t < 5 → (t ∈ L ↔ (Want C t p ∨ ∃ x ∈ C.trys, keepT p t x) ∨ ∃ y ∈ C.lives.take i ++ [x], keepL p t y) := by
        intro hs t ht
        constructor
        · intro h
          rcases (hm t ht).mp h with h | ⟨y, h1, h2⟩
          · exact .inl h
          · exact .inr ⟨y, by simp [h1], h2⟩
        · rintro (h | ⟨y, h1, h2⟩)
          · exact (hm t ht).mpr (.inl h)
          · rcases List.mem_append.mp h1 with h1 | h1
            · exact (hm t ht).mpr (.inr ⟨y, h1, h2⟩)
            · simp at h1; subst h1
              obtain ⟨rfl, h3, h4⟩ := h2
              rcases hs with hs | hs
              · exact hs
              · exact absurd ⟨h3, h4⟩ hs
      walk
      refine cbo (fun g1 => ?_) fun g1 => ?_
      · walk
        refine cbo (fun g2 => ?_) fun g2 => ?_
        · walk
          refine We_niNl hl ?_
          lk
          refine cbo (fun g3 => ?_) fun g3 => ?_
          · have g3 : x.t ∉ L := by simpa using g3
            walk
            refine ⟨ty_list hl, ?_⟩
            walk
            have := hb.len
            refine Wap hl (by rw [ivl]; lia) ?_
            walk
            have hadd : addS L x.t = L ++ [x.t] := if_neg g3
            refine ⟨L ++ [x.t], ⟨_, rfl, rfl⟩, he.set l1, ?_, hadd ▸ hb.add hliv.1, fun t ht => ?_⟩
            · rw [upg hl, intsV_app]; rfl
            · rw [List.mem_append, hm t ht]
              have gg : x.f ≤ p ∧ p < x.b := ⟨by simp at g1; lia, by simp at g2; lia⟩
              simp [keepL, or_and_right, exists_or, or_assoc, gg]
          · have g3 : x.t ∈ L := by simpa using g3
            walk
            exact ⟨L, ⟨_, rfl, rfl⟩, he, hl, hb, skip (.inl g3)⟩
        · walk
          exact ⟨L, ⟨_, rfl, rfl⟩, he, hl, hb, skip (.inr (by simp at g2; lia))⟩
      · walk
        exact ⟨L, ⟨_, rfl, rfl⟩, he, hl, hb, skip (.inr (by simp at g1; lia))⟩
    · rintro ρ σ' ⟨L, hz⟩
      try (show ‹R → H → Prop› _ _; refine Imp.ap ‹_› ?_)
      apply and5 hz; clear hz; intro hρ he hl hb hm
      rw [List.length_map, List.take_length] at hm
      exact ⟨L, hρ, he, hl, hb, fun t ht => (hm t ht).trans (by unfold LvA; rw [or_assoc])⟩
  obtain ⟨L3, hz⟩ := hz
  apply and5 hz; clear hz; intro hρ e3 h3 b3 m3
  apply fm8 hρ; intro x3 x4 x5 x6 x7 x8 x9 x10
  lk
  exact We_sortedL h3 b3 m3 (q.here e3)
theorem putLoop {ti di d nn : Nat} {ks acc : List Nat} {ρ : R} {σ₀ σ₁ : H} {N : R → H → Prop} {T : V → H → Prop} (hd : nth ρ di = some (.ref d)) (hne : ti ≠ di) (hti : ti < ρ.length) (hd0 : σ₀.length ≤ d)
    (hnd : nn ≠ d) (hn : σ₁[nn]? = some (.list (intsV ks))) (hdd : σ₁[d]? = some (.dictI (encS acc))) (he : Ext σ₀ σ₁) (hks : ∀ t ∈ ks, t < 5) (hb : Bd acc)
    (q : ∀ ρ' σ', (ρ' = ρ ∨ ∃ x, ρ' = ρ.set ti x) → Ext σ₀ σ' → σ'[d]? = some (.dictI (encS (ks.foldl addS acc))) → N ρ' σ') :
    For (.one ti) (PS.wp (pSeq (pPut (pV di) (pV ti) (pC (.bool true))) pNil)) ρ N T (.ref nn) σ₁ := by
  refine ⟨.list, intsV ks, fun i ρ' σ' => (ρ' = ρ ∨ ∃ x, ρ' = ρ.set ti x) ∧ Ext σ₀ σ' ∧ σ'[nn]? = some (.list (intsV ks)) ∧ σ'[d]? = some (.dictI (encS ((ks.take i).foldl addS acc))), ⟨.inl rfl, he, hn, hdd⟩, fun i ρ' σ' h => itl h.2.2.1, fun i x ρ' σ' N' hN hx hz => ?_, fun ρ' σ' hz => ?_⟩
  · apply and4 hz; clear hz; intro hρ he hn hdd
    obtain ⟨t, ht, rfl⟩ := intsV_get hx
    have hset : ρ'.set ti (some (.int (t : Nat))) = ρ.set ti (some (.int (t : Nat))) := by
      rcases hρ with rfl | ⟨x, rfl⟩
      · rfl
      · rw [List.set_set]
    show PS.wp (pSeq (pPut (pV di) (pV ti) (pC (.bool true))) pNil) (ρ'.set ti (some (.int (t : Nat)))) σ' N' T
    rw [hset]
    have hbb : Bd ((ks.take i).foldl addS acc) := bd_foldA _ _ (fun t ht => hks t (List.mem_of_mem_take ht)) hb
    have := hbb.len
    refine oV_i (v := .ref d) (by rw [nth_ne hne]; exact hd) (oV_i (nth_self hti) ?_)
    lk
    refine ⟨_, set_dict hdd (by rw [encS_len]; lia), hN.ap ⟨.inr ⟨_, rfl⟩, he.set hd0, upd_ne' (Ne.symm hnd) hn, ?_⟩⟩
    rw [upg hdd, put_encS, tsn ht, List.foldl_append]; rfl
  · apply and4 hz; clear hz; intro hρ he hn hdd
    rw [ivl, List.take_length] at hdd
    exact q ρ' σ' hρ he hdd
noncomputable def Occ (C : Code) (t : Nat) : Prop := (∃ r ∈ C.rows, r.to = some t) ∨ (∃ r ∈ C.rows, t ∈ r.rd) ∨ (∃ x ∈ C.trys, x.to.2 = some t) ∨ (∃ x ∈ C.lives, x.t = t)
theorem temps_sp {C : Code} (W : C.Wf) {c : Nat} {σ} {Q : V → H → Prop} (hc : IsC σ c C)
    (q : ∀ T n σ', Ext σ σ' → σ.length ≤ n → σ'[n]? = some (.list (intsV T)) → Bd T → (∀ t, t ∈ T ↔ Occ C t) → Q (.ref n) σ') : We (m_temps_of [.ref c] σ) Q := by
  refine runE rfl rfl ?_
  lk
  have hr100 := W.sm.rows
  refine Wsc (fun ρ σ' => ∃ S, Fm [some (.ref c), some (.ref σ.length)] 9 ρ ∧ Ext σ σ' ∧ σ'[σ.length]? = some (.dictI (encS S)) ∧ Bd S ∧ (∀ t, t ∈ S ↔ ∃ r ∈ C.rows, r.to = some t)) ?_ fun ρ σ1 hz => ?_
  · intro N' hN
    refine Ws_for' ?_
    lk
    refine We_rowsE hc Ext.one fun nr hnr => ?_
    refine ⟨.list, C.rows.map Row.e, fun i ρ σ' => ∃ S, Fm [some (.ref c), some (.ref σ.length)] 9 ρ ∧ Ext σ σ' ∧ σ'[σ.length]? = some (.dictI (encS S)) ∧ Bd S ∧ (∀ t, t ∈ S ↔ ∃ r ∈ C.rows.take i, r.to = some t), ?_, ?_, ?_, ?_⟩
    · exact ⟨[], ⟨_, rfl, rfl⟩, Ext.one, sng, .nil, by simp⟩
    · rintro i ρ σ' ⟨_, hz⟩
      have h := hz.2.1
      exact itl (h.get hnr)
    · rintro i x ρ σ' N' hN hx ⟨S, hz⟩
      apply and5 hz; clear hz; intro hρ he hd hb hm
      apply fm9 hρ; intro x2 x3 x4 x5 x6 x7 x8 x9 x10
      rw [List.getElem?_map] at hx
      obtain ⟨r, hr, rfl⟩ := Option.map_eq_some_iff.mp hx
      rw [tsn hr] at hN
      have hrm := List.mem_of_getElem? hr
      lk
      refine Wsq ?_
      lk
      refine Ws_for' ?_
      lk
      refine writes_sp r fun nn σ2 e2 l2 h2 => ?_
      have hks : ∀ t ∈ r.to.toList, t < 5 := fun t ht => W.to r hrm t (by simpa using ht)
      refine putLoop (d := σ.length) (σ₀ := σ) rfl (by decide) (Nat.le_of_ble_eq_true rfl) (Nat.le_refl _) (by have := get_lt hd; lia) h2 (e2.get hd) (he.trans e2) hks hb fun ρ' σ' hρ' he' hd' => ?_
      walk
      have hm' : ∀ t, t ∈ r.to.toList.foldl addS S ↔ ∃ r' ∈ C.rows.take i ++ [r], r'.to = some t := by
        intro t; rw [mem_foldAdd, hm]; simp [or_and_right, exists_or]
      rcases hρ' with rfl | ⟨x, rfl⟩
      · exact ⟨_, ⟨_, rfl, rfl⟩, he', hd', bd_foldA _ _ hks hb, hm'⟩
      · exact ⟨_, ⟨_, rfl, rfl⟩, he', hd', bd_foldA _ _ hks hb, hm'⟩
    · rintro ρ σ' ⟨S, hz⟩
      try (show ‹R → H → Prop› _ _; refine Imp.ap ‹_› ?_)
      apply and5 hz; clear hz; intro hρ he hd hb hm
      rw [List.length_map, List.take_length] at hm
      exact ⟨S, hρ, he, hd, hb, hm⟩
  obtain ⟨S1, hz⟩ := hz
  apply and5 hz; clear hz; intro hρ e1 h1 b1 m1
  apply fm9 hρ; intro x2 x3 x4 x5 x6 x7 x8 x9 x10
  refine Wsc (fun ρ σ' => ∃ S, Fm [some (.ref c), some (.ref σ.length)] 9 ρ ∧ Ext σ σ' ∧ σ'[σ.length]? = some (.dictI (encS S)) ∧ Bd S ∧ (∀ t, t ∈ S ↔ (∃ r ∈ C.rows, r.to = some t) ∨ ∃ r ∈ C.rows, t ∈ r.rd)) ?_ fun ρ σ2 hz => ?_
  · intro N' hN
    refine Ws_for' ?_
    lk
    refine We_rowsE hc e1 fun nr hnr => ?_
    refine ⟨.list, C.rows.map Row.e, fun i ρ σ' => ∃ S, Fm [some (.ref c), some (.ref σ.length)] 9 ρ ∧ Ext σ σ' ∧ σ'[σ.length]? = some (.dictI (encS S)) ∧ Bd S ∧ (∀ t, t ∈ S ↔ (∃ r ∈ C.rows, r.to = some t) ∨ ∃ r ∈ C.rows.take i, t ∈ r.rd), ?_, ?_, ?_, ?_⟩
    · exact ⟨_, ⟨_, rfl, rfl⟩, e1, h1, b1, by simpa using m1⟩
    · rintro i ρ σ' ⟨_, hz⟩
      have h := hz.2.1
      exact itl (h.get hnr)
    · rintro i x ρ σ' N' hN hx ⟨S, hz⟩
      apply and5 hz; clear hz; intro hρ he hd hb hm
      apply fm9 hρ; intro x2 x3 x4 x5 x6 x7 x8 x9 x10
      rw [List.getElem?_map] at hx
      obtain ⟨r, hr, rfl⟩ := Option.map_eq_some_iff.mp hx
      rw [tsn hr] at hN
      have hrm := List.mem_of_getElem? hr
      lk
      refine Wsq ?_
      lk
      refine Ws_for' ?_
      lk
      refine nums_sp r fun nn σ2 e2 l2 h2 => ?_
      have hks := W.rd r hrm
      refine putLoop (d := σ.length) (σ₀ := σ) rfl (by decide) (Nat.le_of_ble_eq_true rfl) (Nat.le_refl _) (by have := get_lt hd; lia) h2 (e2.get hd) (he.trans e2) hks hb fun ρ' σ' hρ' he' hd' => ?_
      walk
      have hm' : ∀ t, t ∈ r.rd.foldl addS S ↔ (∃ r ∈ C.rows, r.to = some t) ∨ ∃ r' ∈ C.rows.take i ++ [r], t ∈ r'.rd := by
        intro t; rw [mem_foldAdd, hm]; simp [or_and_right, exists_or, or_assoc]
      rcases hρ' with rfl | ⟨x, rfl⟩
      · exact ⟨_, ⟨_, rfl, rfl⟩, he', hd', bd_foldA _ _ hks hb, hm'⟩
      · exact ⟨_, ⟨_, rfl, rfl⟩, he', hd', bd_foldA _ _ hks hb, hm'⟩
    · rintro ρ σ' ⟨S, hz⟩
      try (show ‹R → H → Prop› _ _; refine Imp.ap ‹_› ?_)
      apply and5 hz; clear hz; intro hρ he hd hb hm
      rw [List.length_map, List.take_length] at hm
      exact ⟨S, hρ, he, hd, hb, hm⟩
  obtain ⟨S2, hz⟩ := hz
  apply and5 hz; clear hz; intro hρ e2 h2 b2 m2
  apply fm9 hρ; intro x2 x3 x4 x5 x6 x7 x8 x9 x10
  refine Wsc (fun ρ σ' => ∃ S, Fm [some (.ref c), some (.ref σ.length)] 9 ρ ∧ Ext σ σ' ∧ σ'[σ.length]? = some (.dictI (encS S)) ∧ Bd S ∧ (∀ t, t ∈ S ↔ ((∃ r ∈ C.rows, r.to = some t) ∨ ∃ r ∈ C.rows, t ∈ r.rd) ∨ ∃ x ∈ C.trys, x.to.2 = some t)) ?_ fun ρ σ3 hz => ?_
  · intro N' hN
    refine Ws_for' ?_
    lk
    refine We_trysE hc e2 fun ny hny => ?_
    refine ⟨.list, C.trys.map Tr.e, fun i ρ σ' => ∃ S, Fm [some (.ref c), some (.ref σ.length)] 9 ρ ∧ Ext σ σ' ∧ σ'[σ.length]? = some (.dictI (encS S)) ∧ Bd S ∧ (∀ t, t ∈ S ↔ ((∃ r ∈ C.rows, r.to = some t) ∨ ∃ r ∈ C.rows, t ∈ r.rd) ∨ ∃ x ∈ C.trys.take i, x.to.2 = some t), ?_, ?_, ?_, ?_⟩
    · exact ⟨_, ⟨_, rfl, rfl⟩, e2, h2, b2, by simpa using m2⟩
    · rintro i ρ σ' ⟨_, hz⟩
      have h := hz.2.1
      exact itl (h.get hny)
    · rintro i x ρ σ' N' hN hx ⟨S, hz⟩
      apply and5 hz; clear hz; intro hρ he hd hb hm
      apply fm9 hρ; intro x2 x3 x4 x5 x6 x7 x8 x9 x10
      rw [List.getElem?_map] at hx
      obtain ⟨x, ht, rfl⟩ := Option.map_eq_some_iff.mp hx
      rw [tsn ht] at hN
      induction x using Tr.casesOn with
      | cat f k e =>
        walk
        refine ⟨S, ⟨_, rfl, rfl⟩, he, hd, hb, fun t => ?_⟩
        rw [hm]
        simp [Tr.to, or_and_right, exists_or]
      | fin f m l r =>
        have hfin := W.fin f m l r (List.mem_of_getElem? ht)
        walk
        have := hb.len
        refine ⟨_, set_dict hd (by rw [encS_len]; lia), ?_⟩
        walk
        refine ⟨addS S r, ⟨_, rfl, rfl⟩, he.set (Nat.le_refl _), by rw [upg hd, put_encS], hb.add hfin.1, fun t => ?_⟩
        rw [mem_addS, hm]
        simp [Tr.to, or_and_right, exists_or, or_assoc, eq_comm]
    · rintro ρ σ' ⟨S, hz⟩
      try (show ‹R → H → Prop› _ _; refine Imp.ap ‹_› ?_)
      apply and5 hz; clear hz; intro hρ he hd hb hm
      rw [List.length_map, List.take_length] at hm
      exact ⟨S, hρ, he, hd, hb, hm⟩
  obtain ⟨S3, hz⟩ := hz
  apply and5 hz; clear hz; intro hρ e3 h3 b3 m3
  apply fm9 hρ; intro x2 x3 x4 x5 x6 x7 x8 x9 x10
  refine Wsc (fun ρ σ' => ∃ S, Fm [some (.ref c), some (.ref σ.length)] 9 ρ ∧ Ext σ σ' ∧ σ'[σ.length]? = some (.dictI (encS S)) ∧ Bd S ∧ (∀ t, t ∈ S ↔ Occ C t)) ?_ fun ρ σ4 hz => ?_
  · intro N' hN
    refine Ws_for' ?_
    lk
    refine We_livesE hc e3 fun ny hny => ?_
    refine ⟨.list, C.lives.map Live.e, fun i ρ σ' => ∃ S, Fm [some (.ref c), some (.ref σ.length)] 9 ρ ∧ Ext σ σ' ∧ σ'[σ.length]? = some (.dictI (encS S)) ∧ Bd S ∧ (∀ t, t ∈ S ↔ (((∃ r ∈ C.rows, r.to = some t) ∨ ∃ r ∈ C.rows, t ∈ r.rd) ∨ ∃ x ∈ C.trys, x.to.2 = some t) ∨ ∃ x ∈ C.lives.take i, x.t = t), ?_, ?_, ?_, ?_⟩
    · exact ⟨_, ⟨_, rfl, rfl⟩, e3, h3, b3, by simpa using m3⟩
    · rintro i ρ σ' ⟨_, hz⟩
      have h := hz.2.1
      exact itl (h.get hny)
    · rintro i x ρ σ' N' hN hx ⟨S, hz⟩
      apply and5 hz; clear hz; intro hρ he hd hb hm
      apply fm9 hρ; intro x2 x3 x4 x5 x6 x7 x8 x9 x10
      rw [List.getElem?_map] at hx
      obtain ⟨x, ht, rfl⟩ := Option.map_eq_some_iff.mp hx
      rw [tsn ht] at hN
      have hliv := W.liv x (List.mem_of_getElem? ht)
      walk
      have := hb.len
      refine ⟨_, set_dict hd (by rw [encS_len]; lia), ?_⟩
      walk
      refine ⟨addS S x.t, ⟨_, rfl, rfl⟩, he.set (Nat.le_refl _), by rw [upg hd, put_encS], hb.add hliv.1, fun t => ?_⟩
      rw [mem_addS, hm]
      simp [or_and_right, exists_or, or_assoc, eq_comm]
    · rintro ρ σ' ⟨S, hz⟩
      try (show ‹R → H → Prop› _ _; refine Imp.ap ‹_› ?_)
      apply and5 hz; clear hz; intro hρ he hd hb hm
      rw [List.length_map, List.take_length] at hm
      exact ⟨S, hρ, he, hd, hb, fun t => (hm t).trans (by unfold Occ; rw [or_assoc, or_assoc])⟩
  obtain ⟨S4, hz⟩ := hz
  apply and5 hz; clear hz; intro hρ e4 h4 b4 m4
  apply fm9 hρ; intro x2 x3 x4 x5 x6 x7 x8 x9 x10
  lk
  have := b4.len
  refine We_listOf (it_dict h4) (by simp [encS_len]; lia) ?_
  rw [encS_keys]
  exact q S4 _ _ e4.snoc e4.len sng b4 m4
structure CL (σ : H) (nc : Nat) (T : List Nat) (D : Nat → Nat) (K : Nat → List Nat) : Prop where
  d : σ[nc]? = some (.dictI (T.map fun t : Nat => ((t : Int), V.ref (D t))))
  a : ∀ t ∈ T, σ[D t]? = some (.dictI (encS (K t)))
  nd : ∀ t ∈ T, D t ≠ nc
  inj : ∀ t ∈ T, ∀ u ∈ T, D t = D u → t = u
  bd : ∀ t ∈ T, Bd (K t)
theorem look_map {f : Nat → V} {t : Nat} : ∀ {T : List Nat}, t ∈ T → look (T.map fun t : Nat => ((t : Int), f t)) (t : Int) = some (f t)
  | [], h => by simp at h
  | a :: r, h => by
    rw [List.map_cons, look]
    by_cases e : a = t
    · subst e; rw [if_pos rfl]
    · rw [if_neg (by lia)]
      refine look_map ?_
      rcases List.mem_cons.mp h with h | h
      · exact absurd h.symm e
      · exact h
theorem look_map_none {f : Nat → V} {t : Nat} : ∀ {T : List Nat}, t ∉ T → look (T.map fun t : Nat => ((t : Int), f t)) (t : Int) = none
  | [], h => rfl
  | a :: r, h => by
    rw [List.map_cons, look]
    have e : a ≠ t := fun e => h (e ▸ .head _)
    rw [if_neg (by lia)]
    exact look_map_none fun hx => h (.tail _ hx)
theorem put_map {f : Nat → V} {t : Nat} {v : V} : ∀ {T : List Nat}, t ∉ T → put (T.map fun t : Nat => ((t : Int), f t)) (t : Int) v = (T.map fun t : Nat => ((t : Int), f t)) ++ [((t : Int), v)]
  | [], _ => rfl
  | a :: r, h => by
    rw [List.map_cons, put]
    have e : a ≠ t := fun e => h (e ▸ .head _)
    rw [if_neg (by lia), put_map fun hx => h (.tail _ hx)]
    rfl
theorem CL.add {σ nc T D K t x} (h : CL σ nc T D K) (ht : t ∈ T) (hx : x < 5) : CL (σ.set (D t) (.dictI (encS (addS (K t) x)))) nc T D (fun u => if u = t then addS (K t) x else K u) := by
  refine ⟨upd_ne' (h.nd t ht) h.d, fun u hu => ?_, h.nd, h.inj, fun u hu => ?_⟩
  · split
    · rename_i e; subst e; exact upg (h.a u hu)
    · rename_i e; exact upd_ne' (fun e' => e (h.inj t ht u hu e').symm) (h.a u hu)
  · split
    · exact (h.bd t ht).add hx
    · exact h.bd u hu
theorem CL.ext {σ σ' nc T D K} (h : CL σ nc T D K) (e : Ext σ σ') : CL σ' nc T D K := ⟨e.get h.d, fun t ht => e.get (h.a t ht), h.nd, h.inj, h.bd⟩
structure Its (σ : H) (a : Nat) (ts : List Nat) : Prop where
  ex : ∃ o kd, σ[a]? = some o ∧ ∀ σ' : H, σ'[a]? = some o → itemsOf (.ref a) σ' = some (kd, intsV ts)
theorem Its.dict {σ a ts} (h : σ[a]? = some (.dictI (encS ts))) : Its σ a ts := ⟨_, _, h, fun σ' h' => by rw [it_dict h', encS_keys]⟩
theorem Its.list {σ a ts} (h : σ[a]? = some (.list (intsV ts))) : Its σ a ts := ⟨_, _, h, fun σ' h' => itl h'⟩
theorem adds_sp {σ₀ σ : H} {nc a b : Nat} {T : List Nat} {D K} {ts os : List Nat} {Q : V → H → Prop} (he : Ext σ₀ σ) (cl : CL σ nc T D K) (hD : ∀ t ∈ T, σ₀.length ≤ D t) (hT5 : ∀ t ∈ T, t < 5)
    (ha : Its σ a ts) (hb : Its σ b os) (hta : ∀ t ∈ T, D t ≠ a) (htb : ∀ t ∈ T, D t ≠ b) (hts : ∀ t ∈ ts, t ∈ T) (hos : ∀ t ∈ os, t ∈ T)
    (q : ∀ σ' K', Ext σ₀ σ' → (∀ (m : Nat) (o : MO), (∀ t ∈ T, D t ≠ m) → σ[m]? = some o → σ'[m]? = some o) → CL σ' nc T D K' → (∀ t ∈ T, ∀ x, x ∈ K' t ↔ x ∈ K t ∨ (t ≠ x ∧ ((t ∈ ts ∧ x ∈ os) ∨ (x ∈ ts ∧ t ∈ os)))) → Q .none σ') : We (m_add_clashes [.ref nc, .ref a, .ref b] σ) Q := by
  refine runE rfl rfl ?_
  obtain ⟨oa, ka, hoa, hia⟩ := ha.ex
  obtain ⟨ob, kb, hob, hib⟩ := hb.ex
  refine Wsq ?_
  refine Ws_for' ?_
  lk
  refine ⟨ka, intsV ts, fun i ρ σ' => ∃ K', Fm [some (.ref nc), some (.ref a), some (.ref b)] 2 ρ ∧ Ext σ₀ σ' ∧ (∀ (m : Nat) (o : MO), (∀ t ∈ T, D t ≠ m) → σ[m]? = some o → σ'[m]? = some o) ∧ CL σ' nc T D K' ∧
    (∀ t ∈ T, ∀ x, x ∈ K' t ↔ x ∈ K t ∨ (t ≠ x ∧ ((t ∈ ts.take i ∧ x ∈ os) ∨ (x ∈ ts.take i ∧ t ∈ os)))), ?_, ?_, ?_, ?_⟩
  · exact ⟨K, ⟨_, rfl, rfl⟩, he, fun _ _ _ h => h, cl, by simp⟩
  · rintro i ρ σ' ⟨_, _, _, h, _⟩
    exact hia _ (h a _ hta hoa)
  · rintro i x ρ σ' N' hN hx ⟨K', hz⟩
    apply and5 hz; clear hz; intro hρ he hfr cl hK
    apply fm2 hρ; intro x3 x4
    obtain ⟨t, ht, rfl⟩ := intsV_get hx
    have htT := hts t (List.mem_of_getElem? ht)
    lk
    refine Wsq ?_
    refine Ws_for' ?_
    lk
    refine ⟨kb, intsV os, fun j ρ σ' => ∃ K'', (∃ x4, ρ = [some (.ref nc), some (.ref a), some (.ref b), some (.int (t : Nat)), x4]) ∧ Ext σ₀ σ' ∧ (∀ (m : Nat) (o : MO), (∀ t ∈ T, D t ≠ m) → σ[m]? = some o → σ'[m]? = some o) ∧ CL σ' nc T D K'' ∧
      (∀ u ∈ T, ∀ x, x ∈ K'' u ↔ x ∈ K' u ∨ (u ≠ x ∧ ((u = t ∧ x ∈ os.take j) ∨ (x = t ∧ u ∈ os.take j)))), ?_, ?_, ?_, ?_⟩
    · exact ⟨K', ⟨_, rfl⟩, he, hfr, cl, by simp⟩
    · rintro j ρ σ' ⟨_, _, _, h, _⟩
      exact hib _ (h b _ htb hob)
    · rintro j x ρ σ' N' hN hx ⟨K'', ⟨x4, hρ⟩, he, hfr, cl, hK''⟩
      subst hρ
      obtain ⟨o, ho, rfl⟩ := intsV_get hx
      have hoT := hos o (List.mem_of_getElem? ho)
      lk
      rw [tsn ho] at hN
      refine Wsq ?_
      walk
      refine cbo (fun h1 => ?_) fun h1 => ?_
      · have hto : t ≠ o := by simp at h1; lia
        clear h1
        walk
        refine We_idxD cl.d (look_map htT) ?_
        walk
        have := (cl.bd t htT).len
        refine ⟨_, set_dict (cl.a t htT) (by rw [encS_len]; lia), ?_⟩
        rw [put_encS]
        have cl2 := cl.add htT (hT5 o hoT)
        have he2 := he.set (n := D t) (o := .dictI (encS (addS (K'' t) o))) (hD t htT)
        have hfr2 : ∀ (m : Nat) (x : MO), (∀ t ∈ T, D t ≠ m) → σ[m]? = some x → (σ'.set (D t) (.dictI (encS (addS (K'' t) o))))[m]? = some x := fun m x hm hx => upd_ne' (hm t htT) (hfr m x hm hx)
        generalize σ'.set (D t) (.dictI (encS (addS (K'' t) o))) = σ2 at cl2 he2 hfr2
        walk
        refine We_idxD cl2.d (look_map hoT) ?_
        walk
        have h3 := cl2.a o hoT
        rw [if_neg (Ne.symm hto)] at h3
        have := (cl.bd o hoT).len
        refine ⟨_, set_dict h3 (by rw [encS_len]; lia), ?_⟩
        rw [put_encS]
        walk
        have cl3 := cl2.add hoT (hT5 t htT)
        rw [if_neg (Ne.symm hto)] at cl3
        refine ⟨_, ⟨_, rfl⟩, he2.set (hD o hoT), fun m x hm hx => upd_ne' (hm o hoT) (hfr2 m x hm hx), cl3, fun u hu x => ?_⟩
        by_cases e1 : u = o
        · subst e1
          rw [if_pos rfl, mem_addS, hK'' u hu]
          simp only [List.mem_append, List.mem_singleton]
          constructor
          · rintro ((h | ⟨h1, h2⟩) | rfl)
            · exact .inl h
            · refine .inr ⟨h1, ?_⟩
              rcases h2 with ⟨h, h'⟩ | ⟨h, h'⟩
              · exact .inl ⟨h, .inl h'⟩
              · exact .inr ⟨h, .inl h'⟩
            · exact .inr ⟨Ne.symm hto, .inr ⟨(by first | rfl | trivial), .inr (by first | rfl | trivial)⟩⟩
          · rintro (h | ⟨h1, ⟨rfl, h⟩ | ⟨rfl, h⟩⟩)
            · exact .inl (.inl h)
            · exact absurd rfl hto
            · exact .inr rfl
        · rw [if_neg e1]
          by_cases e2 : u = t
          · subst e2
            rw [if_pos rfl, mem_addS, hK'' u hu]
            simp only [List.mem_append, List.mem_singleton]
            constructor
            · rintro ((h | ⟨h1, h2⟩) | rfl)
              · exact .inl h
              · refine .inr ⟨h1, ?_⟩
                rcases h2 with ⟨h, h'⟩ | ⟨h, h'⟩
                · exact .inl ⟨h, .inl h'⟩
                · exact .inr ⟨h, .inl h'⟩
              · exact .inr ⟨hto, .inl ⟨(by first | rfl | trivial), .inr (by first | rfl | trivial)⟩⟩
            · rintro (h | ⟨h1, ⟨_, h | rfl⟩ | ⟨rfl, h⟩⟩)
              · exact .inl (.inl h)
              · exact .inl (.inr ⟨h1, .inl ⟨(by first | rfl | trivial), h⟩⟩)
              · exact .inr rfl
              · exact absurd rfl h1
          · rw [if_neg e2, hK'' u hu]
            simp only [List.mem_append, List.mem_singleton]
            constructor
            · rintro (h | ⟨h1, h2⟩)
              · exact .inl h
              · refine .inr ⟨h1, ?_⟩
                rcases h2 with ⟨h, h'⟩ | ⟨h, h'⟩
                · exact .inl ⟨h, .inl h'⟩
                · exact .inr ⟨h, .inl h'⟩
            · rintro (h | ⟨h1, ⟨h, _⟩ | ⟨rfl, h | h⟩⟩)
              · exact .inl h
              · exact absurd h e2
              · exact .inr ⟨h1, .inr ⟨rfl, h⟩⟩
              · exact absurd h e1
      · have hto : t = o := by simp at h1; lia
        clear h1
        subst hto
        walk
        refine ⟨K'', ⟨_, rfl⟩, he, hfr, cl, fun u hu x => ?_⟩
        rw [hK'' u hu]
        simp only [List.mem_append, List.mem_singleton]
        constructor
        · rintro (h | ⟨h1, h2⟩)
          · exact .inl h
          · refine .inr ⟨h1, ?_⟩
            rcases h2 with ⟨h, h'⟩ | ⟨h, h'⟩
            · exact .inl ⟨h, .inl h'⟩
            · exact .inr ⟨h, .inl h'⟩
        · rintro (h | ⟨h1, ⟨rfl, h | rfl⟩ | ⟨rfl, h | rfl⟩⟩)
          · exact .inl h
          · exact .inr ⟨h1, .inl ⟨rfl, h⟩⟩
          · exact absurd rfl h1
          · exact .inr ⟨h1, .inr ⟨rfl, h⟩⟩
          · exact absurd rfl h1
    · rintro ρ σ' ⟨K'', ⟨x4, hρ⟩, he, hfr, cl, hK''⟩
      try (show ‹R → H → Prop› _ _; refine Imp.ap ‹_› ?_)
      subst hρ
      rw [ivl, List.take_length] at hK''
      walk
      refine ⟨K'', ⟨_, rfl, rfl⟩, he, hfr, cl, fun u hu x => ?_⟩
      rw [hK'' u hu, hK u hu, tsn ht]
      simp only [List.mem_append, List.mem_singleton]
      constructor
      · rintro ((h | ⟨h1, h2⟩) | ⟨h1, h2⟩)
        · exact .inl h
        · refine .inr ⟨h1, ?_⟩
          rcases h2 with ⟨h, h'⟩ | ⟨h, h'⟩
          · exact .inl ⟨.inl h, h'⟩
          · exact .inr ⟨.inl h, h'⟩
        · refine .inr ⟨h1, ?_⟩
          rcases h2 with ⟨h, h'⟩ | ⟨h, h'⟩
          · exact .inl ⟨.inr h, h'⟩
          · exact .inr ⟨.inr h, h'⟩
      · rintro (h | ⟨h1, ⟨h | h, h'⟩ | ⟨h | h, h'⟩⟩)
        · exact .inl (.inl h)
        · exact .inl (.inr ⟨h1, .inl ⟨h, h'⟩⟩)
        · exact .inr ⟨h1, .inl ⟨h, h'⟩⟩
        · exact .inl (.inr ⟨h1, .inr ⟨h, h'⟩⟩)
        · exact .inr ⟨h1, .inr ⟨h, h'⟩⟩
  · rintro ρ σ' ⟨K', hz⟩
    try (show ‹R → H → Prop› _ _; refine Imp.ap ‹_› ?_)
    apply and5 hz; clear hz; intro hρ he hfr cl hK
    rw [ivl, List.take_length] at hK
    walk
    exact q σ' K' he hfr cl hK
theorem Want.occ {C t p} (h : Want C t p) : Occ C t := by
  induction h with
  | here hr ht => exact .inr (.inl ⟨_, List.mem_of_getElem? hr, ht⟩)
  | step _ _ _ _ ih => exact ih
theorem LvA.occ {C t p} (h : LvA C t p) : Occ C t := by
  rcases h with h | ⟨x, hx, h⟩ | ⟨x, hx, h⟩
  · exact h.occ
  · induction x using Tr.casesOn with
    | cat => exact absurd h (by simp [keepT])
    | fin f m l r => exact .inr (.inr (.inl ⟨_, hx, by rw [h.1]; rfl⟩))
  · exact .inr (.inr (.inr ⟨x, hx, h.1.symm⟩))
noncomputable def ClashAt (C : Code) (p t x : Nat) : Prop := t ≠ x ∧ ((LvA C t p ∧ LvA C x p) ∨ ∃ r, C.rows[p]? = some r ∧ ∃ q ∈ C.nx r p, (r.to = some t ∧ LvA C x q) ∨ (r.to = some x ∧ LvA C t q))
noncomputable def Clash (C : Code) (t x : Nat) : Prop := ∃ p, p < C.rows.length ∧ ClashAt C p t x
theorem ClashAt.symm {C p t x} (h : ClashAt C p t x) : ClashAt C p x t := by
  obtain ⟨h1, h2⟩ := h
  refine ⟨Ne.symm h1, ?_⟩
  rcases h2 with ⟨a, b⟩ | ⟨r, hr, q, hq, a | a⟩
  · exact .inl ⟨b, a⟩
  · exact .inr ⟨r, hr, q, hq, .inr a⟩
  · exact .inr ⟨r, hr, q, hq, .inl a⟩
theorem Clash.symm {C t x} (h : Clash C t x) : Clash C x t := let ⟨p, a, b⟩ := h; ⟨p, a, b.symm⟩
theorem CL.lt {σ nc T D K} (h : CL σ nc T D K) {t} (ht : t ∈ T) : D t < σ.length := get_lt (h.a t ht)
theorem clashes_sp {C : Code} (W : C.Wf) {c nT : Nat} {T : List Nat} {σ} {Q : V → H → Prop} (hc : IsC σ c C) (hT : σ[nT]? = some (.list (intsV T))) (hTb : Bd T) (hTo : ∀ t, t ∈ T ↔ Occ C t)
    (q : ∀ nc D K σ', Ext σ σ' → σ.length ≤ nc → CL σ' nc T D K → (∀ t ∈ T, ∀ x, x ∈ K t ↔ Clash C t x) → Q (.ref nc) σ') : We (m_clashes_of [.ref c, .ref nT] σ) Q := by
  refine runE rfl rfl ?_
  have hr100 := W.sm.rows
  have hTl := hTb.len
  lk
  refine live_sp W hc fun nl ds F σ1 e1 l1 hds hnd lv hF hFl hLv => ?_
  lk
  have hLT : ∀ p t, t ∈ F.getD p [] → t ∈ T := fun p t h => (hTo t).mpr ((hLv p t).mp h).occ
  refine Wsc (fun ρ σ' => ∃ D, Fm [some (.ref c), some (.ref nT), some (.ref nl), some (.ref σ1.length)] 4 ρ ∧ Ext σ1 σ' ∧ CL σ' σ1.length T D (fun _ => []) ∧ ∀ t ∈ T, σ1.length ≤ D t) ?_ fun ρ σ2 hz => ?_
  · intro N' hN
    refine Ws_for' ?_
    lk
    refine ⟨.list, intsV T, fun i ρ σ' => ∃ D : Nat → Nat, Fm [some (.ref c), some (.ref nT), some (.ref nl), some (.ref σ1.length)] 4 ρ ∧ Ext σ1 σ' ∧ CL σ' σ1.length (T.take i) D (fun _ => []) ∧ ∀ t ∈ T.take i, σ1.length < D t, ?_, ?_, ?_, ?_⟩
    · exact ⟨fun _ => 0, ⟨_, rfl, rfl⟩, Ext.one, ⟨sng, by simp, by simp, by simp, by simp⟩, by simp⟩
    · rintro i ρ σ' ⟨_, hz⟩
      have h := hz.2.1
      exact itl ((e1.trans h).get hT)
    · rintro i x ρ σ' N' hN hx ⟨D, hz⟩
      apply and4 hz; clear hz; intro hρ he cl hD
      apply fm4 hρ; intro x4 x5 x6 x7
      obtain ⟨t, ht, rfl⟩ := intsV_get hx
      have htl := (List.getElem?_eq_some_iff.mp ht).1
      have hnt : t ∉ T.take i := by
        intro h
        have := hTb.1
        rw [← List.take_append_drop i T, List.nodup_append] at this
        refine this.2.2 t h t ?_ rfl
        rw [List.drop_eq_getElem_cons htl, (List.getElem?_eq_some_iff.mp ht).2]
        exact .head _
      lk
      rw [tsn ht] at hN
      walk
      have hcd : (σ' ++ [MO.dictI []])[σ1.length]? = _ := sno cl.d
      refine ⟨_, set_dict hcd (by simp; lia), ?_⟩
      rw [put_map hnt]
      walk
      have hσ' : σ1.length < σ'.length := get_lt cl.d
      have hne : ∀ u, u ∈ T.take i → u ≠ t := fun u hu e => hnt (e ▸ hu)
      obtain ⟨D', hDt, hDo⟩ : ∃ D' : Nat → Nat, D' t = σ'.length ∧ ∀ u, u ≠ t → D' u = D u := ⟨fun u => if u = t then σ'.length else D u, by simp, fun u h => by simp [h]⟩
      refine ⟨D', ⟨_, rfl, rfl⟩, (he.snoc).set (Nat.le_refl _), ⟨?_, fun u hu => ?_, fun u hu => ?_, fun u hu v hv => ?_, fun _ _ => .nil⟩, fun u hu => ?_⟩
      · rw [upg hcd, List.map_append, List.map_cons, List.map_nil, hDt]
        congr 3
        apply List.map_congr_left
        intro u hu
        rw [hDo u (hne u hu)]
      · rcases List.mem_append.mp hu with hu | hu
        · rw [hDo u (hne u hu)]
          exact upd_ne' (by have := hD u hu; lia) (sno (cl.a u hu))
        · simp at hu; subst hu; rw [hDt]
          exact upd_ne' (by lia) sng
      · rcases List.mem_append.mp hu with hu | hu
        · rw [hDo u (hne u hu)]; have := hD u hu; lia
        · simp at hu; subst hu; rw [hDt]; lia
      · intro h
        rcases List.mem_append.mp hu with hu1 | hu
        · have hult := get_lt (cl.a u hu1)
          rw [hDo u (hne u hu1)] at h
          rcases List.mem_append.mp hv with hv | hv
          · rw [hDo v (hne v hv)] at h
            exact cl.inj u hu1 v hv h
          · simp at hv; subst hv; rw [hDt] at h
            lia
        · simp at hu; subst hu; rw [hDt] at h
          rcases List.mem_append.mp hv with hv | hv
          · rw [hDo v (hne v hv)] at h
            have := get_lt (cl.a v hv); lia
          · simp at hv; exact hv.symm
      · rcases List.mem_append.mp hu with hu | hu
        · rw [hDo u (hne u hu)]; exact hD u hu
        · simp at hu; subst hu; rw [hDt]; lia
    · rintro ρ σ' ⟨D, hz⟩
      try (show ‹R → H → Prop› _ _; refine Imp.ap ‹_› ?_)
      apply and4 hz; clear hz; intro hρ he cl hD
      rw [ivl, List.take_length] at cl hD
      exact ⟨D, hρ, he, cl, fun t ht => Nat.le_of_lt (hD t ht)⟩
  obtain ⟨D, hz⟩ := hz
  apply and4 hz; clear hz; intro hρ e2 cl2 hD
  apply fm4 hρ; intro x4 x5 x6 x7
  refine Wsc (fun ρ σ' => ∃ K, Fm [some (.ref c), some (.ref nT), some (.ref nl), some (.ref σ1.length)] 4 ρ ∧ Ext σ1 σ' ∧ CL σ' σ1.length T D K ∧ ∀ t ∈ T, ∀ x, x ∈ K t ↔ Clash C t x) ?_ fun ρ σ3 hz => ?_
  · intro N' hN
    refine Ws_for' ?_
    lk
    refine We_rowsE hc (e1.trans e2) fun nr hnr => ?_
    lk
    refine We_lenM ((e1.trans e2).get hnr) W.sm.r ?_
    lk
    refine We_rng1 (by lia) ?_
    refine ⟨.fix, (List.range C.rows.length).map fun i => V.int (i : Nat), fun i ρ σ' => ∃ K, Fm [some (.ref c), some (.ref nT), some (.ref nl), some (.ref σ1.length)] 4 ρ ∧ Ext σ1 σ' ∧ CL σ' σ1.length T D K ∧ ∀ t ∈ T, ∀ x, x ∈ K t ↔ ∃ p, p < i ∧ ClashAt C p t x, ?_, ?_, ?_, ?_⟩
    · exact ⟨_, ⟨_, rfl, rfl⟩, e2, cl2, by simp⟩
    · intro i ρ σ' _
      exact it_range0 W.sm.r
    · rintro i x ρ σ' N' hN hx ⟨K, hz⟩
      apply and4 hz; clear hz; intro hρ he cl hK
      apply fm4 hρ; intro x4 x5 x6 x7
      rw [List.getElem?_map] at hx
      obtain ⟨p, hp', rfl⟩ := Option.map_eq_some_iff.mp hx
      obtain ⟨rfl, hp⟩ := range_get hp'
      obtain ⟨r, hr⟩ : ∃ r, C.rows[p]? = some r := ⟨_, List.getElem?_eq_getElem hp⟩
      have hrm := List.mem_of_getElem? hr
      have hpF : p < F.length := by lia
      have hDl : ∀ m, m < σ1.length → ∀ t ∈ T, D t ≠ m := fun m hm t ht => by have := hD t ht; lia
      lk
      refine We_live (lv.ext he) hpF (by lia) fun d hd hdv => ?_
      lk
      refine We_live (lv.ext he) hpF (by lia) fun d' hd' _ => ?_
      rw [hd] at hd'; cases hd'
      lk
      have hdlt := lv.lt.2 d (List.mem_of_getElem? hd)
      refine adds_sp he cl hD hTb.2 (.dict hdv) (.dict hdv) (hDl d hdlt) (hDl d hdlt) (hLT p) (hLT p) fun σ4 K4 e4 f4 cl4 hK4 => ?_
      lk
      refine We_rowsE hc (e1.trans e4) fun nr' hnr' => ?_
      lk
      refine We_idxM ((e1.trans e4).get hnr') hr W.sm.r ?_
      lk
      refine writes_sp r fun nw σ5 e5 l5 h5 => ?_
      lk
      have hwT : ∀ t ∈ r.to.toList, t ∈ T := fun t ht => (hTo t).mpr (.inl ⟨r, hrm, by simpa using ht⟩)
      have hDw : ∀ t ∈ T, D t ≠ nw := fun t ht => by have := cl4.lt ht; lia
      refine adds_sp (e4.trans e5) (cl4.ext e5) hD hTb.2 (.list h5) (.list h5) hDw hDw hwT hwT fun σ6 K6 e6 f6 cl6 hK6 => ?_
      have h6 := f6 nw _ hDw h5
      have hDp : ∀ {P : Prop}, (∀ t x, t ≠ x → t ∈ r.to.toList → x ∈ r.to.toList → P) → True := fun _ => trivial
      refine Wsq ?_
      refine Ws_for' ?_
      lk
      refine nexts_sp (hc.ext (e1.trans e6)) hr fun nn σ7 e7 l7 h7 => ?_
      have hDn : ∀ t ∈ T, D t ≠ nn := fun t ht => by have := cl6.lt ht; lia
      refine ⟨.list, intsV (C.nx r p), fun j ρ σ' => ∃ K', (∃ x7, ρ = [some (.ref c), some (.ref nT), some (.ref nl), some (.ref σ1.length), x4, some (.int (p : Nat)), some (.ref nw), x7]) ∧ Ext σ1 σ' ∧ σ'[nw]? = some (.list (intsV r.to.toList)) ∧ σ'[nn]? = some (.list (intsV (C.nx r p))) ∧ CL σ' σ1.length T D K' ∧
        ∀ t ∈ T, ∀ x, x ∈ K' t ↔ x ∈ K6 t ∨ ∃ q ∈ (C.nx r p).take j, t ≠ x ∧ ((r.to = some t ∧ LvA C x q) ∨ (r.to = some x ∧ LvA C t q)), ?_, ?_, ?_, ?_⟩
      · exact ⟨K6, ⟨_, rfl⟩, e6.trans e7, e7.get h6, h7, cl6.ext e7, by simp⟩
      · rintro j ρ σ' ⟨_, _, _, _, h, _⟩
        exact itl h
      · rintro j x ρ σ' N' hN hx ⟨K', ⟨x7', hρ⟩, he, hnw, hnn, cl, hK'⟩
        subst hρ
        obtain ⟨q, hq, rfl⟩ := intsV_get hx
        have hqn : q < C.rows.length := by
          have := List.mem_of_getElem? hq
          unfold Code.nx at this
          rw [mem_ded] at this
          simp at this; exact this.2
        lk
        rw [tsn hq] at hN
        lk
        refine We_live (lv.ext he) (by lia) (by lia) fun d2 hd2 hdv2 => ?_
        lk
        have hdlt2 := lv.lt.2 d2 (List.mem_of_getElem? hd2)
        refine adds_sp he cl hD hTb.2 (.list hnw) (.dict hdv2) hDw (hDl d2 hdlt2) hwT (hLT q) fun σ8 K8 e8 f8 cl8 hK8 => ?_
        walk
        refine ⟨K8, ⟨_, rfl⟩, e8, f8 nw _ hDw hnw, f8 nn _ hDn hnn, cl8, fun t ht x => ?_⟩
        rw [hK8 t ht, hK' t ht]
        simp only [Option.mem_toList, hLv, Option.mem_def]
        constructor
        · rintro ((h | ⟨q', h1, h2⟩) | h)
          · exact .inl h
          · exact .inr ⟨q', by simp [h1], h2⟩
          · exact .inr ⟨q, by simp, h⟩
        · rintro (h | ⟨q', h1, h2⟩)
          · exact .inl (.inl h)
          · rcases List.mem_append.mp h1 with h1 | h1
            · exact .inl (.inr ⟨q', h1, h2⟩)
            · simp at h1; subst h1; exact .inr h2
      · rintro ρ σ' ⟨K', ⟨x7', hρ⟩, he, hnw, hnn, cl, hK'⟩
        try (show ‹R → H → Prop› _ _; refine Imp.ap ‹_› ?_)
        subst hρ
        rw [ivl, List.take_length] at hK'
        walk
        refine ⟨K', ⟨_, rfl, rfl⟩, he, cl, fun t ht x => ?_⟩
        rw [hK' t ht, hK6 t ht, hK4 t ht, hK t ht]
        simp only [hLv, Option.mem_toList, Option.mem_def]
        constructor
        · rintro (((⟨p', h1, h2⟩ | ⟨h1, h2⟩) | ⟨h1, h2⟩) | ⟨q, h1, h2, h3⟩)
          · exact ⟨p', by lia, h2⟩
          · refine ⟨p, by lia, h1, .inl ?_⟩
            rcases h2 with h2 | h2
            · exact h2
            · exact ⟨h2.2, h2.1⟩
          · exfalso
            rcases h2 with ⟨h2, h3⟩ | ⟨h2, h3⟩ <;> (rw [h2] at h3; cases h3; exact h1 rfl)
          · exact ⟨p, by lia, h2, .inr ⟨r, hr, q, h1, h3⟩⟩
        · rintro ⟨p', h1, h2, h3⟩
          by_cases hpp : p' < p
          · exact .inl (.inl (.inl ⟨p', hpp, h2, h3⟩))
          · have : p' = p := by lia
            subst this
            rcases h3 with h3 | ⟨r', hr', q, hq, h3⟩
            · exact .inl (.inl (.inr ⟨h2, .inl h3⟩))
            · rw [hr] at hr'; cases hr'
              exact .inr ⟨q, hq, h2, h3⟩
    · rintro ρ σ' ⟨K, hz⟩
      try (show ‹R → H → Prop› _ _; refine Imp.ap ‹_› ?_)
      apply and4 hz; clear hz; intro hρ he cl hK
      rw [List.length_map, List.length_range] at hK
      exact ⟨K, hρ, he, cl, hK⟩
  obtain ⟨K, hz⟩ := hz
  apply and4 hz; clear hz; intro hρ e3 cl3 hK
  apply fm4 hρ; intro x4 x5 x6 x7
  lk
  exact q _ D K _ (e1.trans e3) e1.len cl3 hK
theorem take_new {T : List Nat} (h : T.Nodup) {i t : Nat} (ht : T[i]? = some t) : t ∉ T.take i := by
  intro hm
  have htl := (List.getElem?_eq_some_iff.mp ht).1
  rw [← List.take_append_drop i T, List.nodup_append] at h
  refine h.2.2 t hm t ?_ rfl
  rw [List.drop_eq_getElem_cons htl, (List.getElem?_eq_some_iff.mp ht).2]
  exact .head _
noncomputable def bookV (T : List Nat) (B : Nat → Nat) : List (Int × V) := T.map fun t : Nat => ((t : Int), V.int (B t : Nat))
structure Least (T : List Nat) (K : Nat → List Nat) (B : Nat → Nat) : Prop where
  apart : ∀ t ∈ T, ∀ u ∈ T, u ∈ K t → B t ≠ B u
  least : ∀ t ∈ T, ∀ j, j < B t → ∃ o ∈ T, o ∈ K t ∧ B o = j
  small : ∀ t ∈ T, B t ≤ 5
noncomputable def useS (T : List Nat) (B : Nat → Nat) (acc : List Nat) (o : Nat) : List Nat := if o ∈ T then addS acc (B o) else acc
theorem mem_use {T B x} : ∀ (ks acc : List Nat), x ∈ ks.foldl (useS T B) acc ↔ x ∈ acc ∨ ∃ o ∈ ks, o ∈ T ∧ B o = x
  | [], acc => by simp
  | k :: r, acc => by
    rw [List.foldl_cons, mem_use r]
    unfold useS
    split
    · rename_i h
      rw [mem_addS]
      constructor
      · rintro ((h1 | rfl) | ⟨o, h1, h2⟩)
        · exact .inl h1
        · exact .inr ⟨k, .head _, h, rfl⟩
        · exact .inr ⟨o, .tail _ h1, h2⟩
      · rintro (h1 | ⟨o, h1, h2, h3⟩)
        · exact .inl (.inl h1)
        · rcases List.mem_cons.mp h1 with rfl | h1
          · exact .inl (.inr h3.symm)
          · exact .inr ⟨o, h1, h2, h3⟩
    · rename_i h
      constructor
      · rintro (h1 | ⟨o, h1, h2⟩)
        · exact .inl h1
        · exact .inr ⟨o, .tail _ h1, h2⟩
      · rintro (h1 | ⟨o, h1, h2, h3⟩)
        · exact .inl h1
        · rcases List.mem_cons.mp h1 with rfl | h1
          · exact absurd h2 h
          · exact .inr ⟨o, h1, h2, h3⟩
theorem use_len {T B} : ∀ (ks acc : List Nat), (ks.foldl (useS T B) acc).length ≤ acc.length + ks.length
  | [], acc => by simp
  | k :: r, acc => by
    have := use_len (T := T) (B := B) r (useS T B acc k)
    have h2 : (useS T B acc k).length ≤ acc.length + 1 := by
      unfold useS addS; split <;> (try split) <;> simp
    simp at this ⊢; lia
theorem numbered_sp {σ : H} {nT nc : Nat} {T : List Nat} {D K} {Q : V → H → Prop} (hT : σ[nT]? = some (.list (intsV T))) (hTb : Bd T) (cl : CL σ nc T D K) (hK : ∀ t ∈ T, ∀ x ∈ T, x ∈ K t → t ∈ K x) (hirr : ∀ t ∈ T, t ∉ K t)
    (q : ∀ nb B σ', Ext σ σ' → σ.length ≤ nb → σ'[nb]? = some (.dictI (bookV T B)) → Least T K B → Q (.ref nb) σ') : We (m_numbered [.ref nT, .ref nc] σ) Q := by
  refine runE rfl rfl ?_
  have hTl := hTb.len
  lk
  refine Wsc (fun ρ σ' => ∃ B, Fm [some (.ref nT), some (.ref nc), some (.ref σ.length)] 4 ρ ∧ Ext σ σ' ∧ σ'[σ.length]? = some (.dictI (bookV T B)) ∧ Least T K B) ?_ fun ρ σ1 hz => ?_
  · intro N' hN
    refine Ws_for' ?_
    lk
    refine ⟨.list, intsV T, fun i ρ σ' => ∃ B, Fm [some (.ref nT), some (.ref nc), some (.ref σ.length)] 4 ρ ∧ Ext σ σ' ∧ σ'[σ.length]? = some (.dictI (bookV (T.take i) B)) ∧ Least (T.take i) K B, ?_, ?_, ?_, ?_⟩
    · exact ⟨fun _ => 0, ⟨_, rfl, rfl⟩, Ext.one, sng, ⟨by simp, by simp, by simp⟩⟩
    · rintro i ρ σ' ⟨_, hz⟩
      have h := hz.2.1
      exact itl (h.get hT)
    · rintro i x ρ σ' N' hN hx ⟨B, hz⟩
      apply and4 hz; clear hz; intro hρ he hb hL
      apply fm4 hρ; intro x3 x4 x5 x6
      obtain ⟨t, ht, rfl⟩ := intsV_get hx
      have htT := List.mem_of_getElem? ht
      have hnt := take_new hTb.1 ht
      have hsub : ∀ u ∈ T.take i, u ∈ T := fun u hu => List.mem_of_mem_take hu
      lk
      rw [tsn ht] at hN
      lk
      have hKl := (cl.bd t htT).len
      generalize hnu : σ'.length = nu
      have hσb := get_lt hb
      refine Wsc (fun ρ σ2 => (∃ x5, ρ = [some (.ref nT), some (.ref nc), some (.ref σ.length), some (.int (t : Nat)), some (.ref nu), x5, x6]) ∧ Ext σ σ2 ∧ σ2[σ.length]? = some (.dictI (bookV (T.take i) B)) ∧ σ2[nu]? = some (.dictI (encS ((K t).foldl (useS (T.take i) B) [])))) ?_ fun ρ σ2 hz => ?_
      · intro N' hN
        refine Ws_for' ?_
        lk
        have cl' := (cl.ext he).ext (Ext.one (o := MO.dictI []))
        refine We_idxD cl'.d (look_map htT) ?_
        refine ⟨.dict, intsV (K t), fun j ρ σ2 => (∃ x5, ρ = [some (.ref nT), some (.ref nc), some (.ref σ.length), some (.int (t : Nat)), some (.ref nu), x5, x6]) ∧ Ext σ σ2 ∧ σ2[σ.length]? = some (.dictI (bookV (T.take i) B)) ∧ σ2[nu]? = some (.dictI (encS (((K t).take j).foldl (useS (T.take i) B) []))), ?_, ?_, ?_, ?_⟩
        · subst hnu
          exact ⟨⟨_, rfl⟩, he.snoc, sno hb, sng⟩
        · rintro j ρ σ2 ⟨_, h, _⟩
          rw [it_dict (h.get (cl.a t htT)), encS_keys]
        · rintro j x ρ σ2 N' hN hx ⟨⟨x5, hρ⟩, he2, hb2, hu2⟩
          subst hρ
          obtain ⟨o, ho, rfl⟩ := intsV_get hx
          lk
          rw [tsn ho, List.foldl_append, List.foldl_cons, List.foldl_nil] at hN
          generalize hU : ((K t).take j).foldl (useS (T.take i) B) [] = U at hu2 hN
          have hUl : U.length ≤ 10 := by
            have := use_len (T := T.take i) (B := B) ((K t).take j) []
            rw [hU] at this; simp at this; lia
          refine Wsq ?_
          walk
          refine We_inD hb2 ?_
          lk
          by_cases hoT : o ∈ T.take i
          · have hlk : look (bookV (T.take i) B) (o : Int) = some (.int (B o : Nat)) := look_map hoT
            rw [hlk]
            refine c_true ?_
            walk
            refine We_idxD hb2 hlk ?_
            refine ⟨_, set_dict hu2 (by rw [encS_len]; lia), ?_⟩
            rw [put_encS]
            walk
            refine ⟨⟨_, rfl⟩, he2.set (by have := he.len; lia), upd_ne' (by lia) hb2, ?_⟩
            rw [upg hu2, useS, if_pos hoT]
          · have hlk : look (bookV (T.take i) B) (o : Int) = none := look_map_none hoT
            rw [hlk]
            refine c_false ?_
            walk
            refine ⟨⟨_, rfl⟩, he2, hb2, ?_⟩
            rw [hu2, useS, if_neg hoT]
        · intro ρ σ2 hz
          refine hN.ap ?_
          apply and4 hz; clear hz; intro hρ he2 hb2 hu2
          rw [ivl, List.take_length] at hu2
          exact ⟨hρ, he2, hb2, hu2⟩
      obtain ⟨⟨x5, hρ⟩, e2, hb2, hu2⟩ := hz
      subst hρ
      generalize hU : (K t).foldl (useS (T.take i) B) [] = U at hu2
      have hmU : ∀ x, x ∈ U ↔ ∃ o ∈ K t, o ∈ T.take i ∧ B o = x := by intro x; rw [← hU, mem_use]; simp
      have hUl : U.length ≤ 5 := by
        have := use_len (T := T.take i) (B := B) (K t) []
        rw [hU] at this; simp at this; lia
      lk
      refine Wsc (fun ρ σ3 => ∃ k : Nat, ρ = [some (.ref nT), some (.ref nc), some (.ref σ.length), some (.int (t : Nat)), some (.ref nu), x5, some (.int (k : Nat))] ∧ σ3 = σ2 ∧ k ∉ U ∧ (∀ j, j < k → j ∈ U)) ?_ fun ρ σ3 hz => ?_
      · intro N' hN
        refine Ws_wh (fun m ρ σ3 => ∃ k : Nat, ρ = [some (.ref nT), some (.ref nc), some (.ref σ.length), some (.int (t : Nat)), some (.ref nu), x5, some (.int (k : Nat))] ∧ σ3 = σ2 ∧ (∀ j, j < k → j ∈ U) ∧ k + m = 6) (fun m ρ σ3 J hJ hz => ?_) 100000 6 _ _ (by lia) ⟨0, rfl, rfl, by simp, rfl⟩
        obtain ⟨k, hz⟩ := hz
        apply and4 hz; clear hz; intro hρ hσ3 hkl hkm
        subst hρ hσ3
        lk
        refine We_inD hu2 ?_
        lk
        rw [look_encS]
        have hk5 : k ≤ U.length := by
          have := sub_len (a := List.range k) (b := U) List.nodup_range fun x hx => hkl x (List.mem_range.mp hx)
          simpa using this
        refine cbo (fun h => ?_) fun h => ?_
        · have hkU : k ∈ U := by simpa using h
          refine ⟨m - 1, by lia, fun N2 hN2 => ?_⟩
          lk
          refine ⟨m - 1, Nat.le_refl _, (hJ _).ap ⟨k + 1, rfl, rfl, fun j hj => ?_, ?_⟩⟩
          · by_cases hjk : j = k
            · subst hjk; exact hkU
            · exact hkl j (by lia)
          · have : k + 1 ≤ U.length ∨ k = U.length := by lia
            have h6 : k < U.length := by
              have := sub_len (a := List.range (k + 1)) (b := U) List.nodup_range fun x hx => by
                have hx := List.mem_range.mp hx
                by_cases hjk : x = k
                · subst hjk; exact hkU
                · exact hkl x (by lia)
              have h7 : k + 1 ≤ U.length := by simpa using this
              exact h7
            lia
        · have hkU : k ∉ U := by simpa using h
          exact hN.ap ⟨k, rfl, rfl, hkU, hkl⟩
      obtain ⟨k, hz⟩ := hz
      apply and4 hz; clear hz; intro hρ hσ3 hk hkl
      subst hρ hσ3
      have hk5 : k ≤ U.length := by
        have := sub_len (a := List.range k) (b := U) List.nodup_range fun x hx => hkl x (List.mem_range.mp hx)
        simpa using this
      lk
      refine ⟨_, set_dict hb2 (by simp [bookV]; lia), ?_⟩
      walk
      have hne : ∀ u, u ∈ T.take i → u ≠ t := fun u hu e => hnt (e ▸ hu)
      obtain ⟨B', hBt, hBo⟩ : ∃ B' : Nat → Nat, B' t = k ∧ ∀ u, u ≠ t → B' u = B u := ⟨fun u => if u = t then k else B u, by simp, fun u h => by simp [h]⟩
      refine ⟨B', ⟨_, rfl, rfl⟩, e2.set (Nat.le_refl _), ?_, ?_⟩
      · rw [upg hb2]
        unfold bookV
        rw [put_map hnt, List.map_append, List.map_cons, List.map_nil, hBt]
        congr 3
        apply List.map_congr_left
        intro u hu
        rw [hBo u (hne u hu)]
      · refine ⟨fun u hu v hv hvu => ?_, fun u hu j hj => ?_, fun u hu => ?_⟩
        · rcases List.mem_append.mp hu with hu1 | hu1
          · rw [hBo u (hne u hu1)]
            rcases List.mem_append.mp hv with hv1 | hv1
            · rw [hBo v (hne v hv1)]; exact hL.apart u hu1 v hv1 hvu
            · simp at hv1; subst hv1
              rw [hBt]
              intro e
              exact hk ((hmU k).mpr ⟨u, hK u (hsub u hu1) _ htT hvu, hu1, e⟩)
          · simp at hu1; subst hu1
            rw [hBt]
            rcases List.mem_append.mp hv with hv1 | hv1
            · rw [hBo v (hne v hv1)]
              intro e
              exact hk ((hmU k).mpr ⟨v, hvu, hv1, e.symm⟩)
            · simp at hv1; subst hv1
              exact absurd hvu (hirr _ htT)
        · rcases List.mem_append.mp hu with hu1 | hu1
          · rw [hBo u (hne u hu1)] at hj
            obtain ⟨o, h1, h2, h3⟩ := hL.least u hu1 j hj
            exact ⟨o, List.mem_append.mpr (.inl h1), h2, by rw [hBo o (hne o h1)]; exact h3⟩
          · simp at hu1; subst hu1
            rw [hBt] at hj
            obtain ⟨o, h1, h2, h3⟩ := (hmU j).mp (hkl j hj)
            exact ⟨o, List.mem_append.mpr (.inl h2), h1, by rw [hBo o (hne o h2)]; exact h3⟩
        · rcases List.mem_append.mp hu with hu1 | hu1
          · rw [hBo u (hne u hu1)]; exact hL.small u hu1
          · simp at hu1; subst hu1; rw [hBt]; lia
    · rintro ρ σ' ⟨B, hz⟩
      try (show ‹R → H → Prop› _ _; refine Imp.ap ‹_› ?_)
      apply and4 hz; clear hz; intro hρ he hb hL
      rw [ivl, List.take_length] at hb hL
      exact ⟨B, hρ, he, hb, hL⟩
  obtain ⟨B, hz⟩ := hz
  apply and4 hz; clear hz; intro hρ e1 h1 hB
  apply fm4 hρ; intro x3 x4 x5 x6
  lk
  exact q _ B _ e1 (Nat.le_refl _) h1 hB
noncomputable def Tr.ren (B : Nat → Nat) : Tr → Tr
  | .cat f c e => .cat f c e
  | .fin f m l r => .fin f m l (B r)
noncomputable def Live.ren (B : Nat → Nat) (x : Live) : Live := ⟨B x.t, x.f, x.b⟩
noncomputable def Code.ren (C : Code) (B : Nat → Nat) (k : Nat) : Code := ⟨C.rows.map (Row.ren B), C.trys.map (Tr.ren B), C.lives.map (Live.ren B), k⟩
noncomputable def mx (B : Nat → Nat) (T : List Nat) : Nat := T.foldl (fun a t => if a < B t + 1 then B t + 1 else a) 0
theorem mx_le {B : Nat → Nat} : ∀ (T : List Nat) (a : Nat), (∀ t ∈ T, B t ≤ 5) → a ≤ 6 → T.foldl (fun a t => if a < B t + 1 then B t + 1 else a) a ≤ 6
  | [], a, _, h => h
  | t :: r, a, hT, h => by
    rw [List.foldl_cons]
    refine mx_le r _ (fun t ht => hT t (.tail _ ht)) ?_
    have := hT t (.head _)
    split <;> lia
theorem We_max {a b : Nat} {σ} {Q : V → H → Prop} (q : Q (.int ((if a < b then b else a : Nat) : Int)) σ) : We (vMax [.int (a : Nat), .int (b : Nat)] σ) Q := by
  refine ⟨_, σ, rfl, ?_⟩
  have : (if (b : Int) > a then (b : Int) else a) = ((if a < b then b else a : Nat) : Int) := by split <;> split <;> lia
  rw [this]; exact q
theorem We_code {r n t y l : V} {σ} {Q : V → H → Prop} (q : Q (.ref (σ.length + 1)) (σ ++ [.attrs r n t y l] ++ [.inst σ.length])) : We (vCode [r, n, t, y, l] σ) Q := ⟨_, _, rfl, q⟩
structure LeastC (C : Code) (T : List Nat) (B : Nat → Nat) : Prop where
  bd : Bd T
  occ : ∀ t, t ∈ T ↔ Occ C t
  apart : ∀ t ∈ T, ∀ u ∈ T, Clash C t u → B t ≠ B u
  least : ∀ t ∈ T, ∀ j, j < B t → ∃ o ∈ T, Clash C t o ∧ B o = j
  small : ∀ t ∈ T, B t ≤ 5
theorem isC_new {C : Code} (sm : C.Sm) {σ : H} {r nn y l : Nat} (h1 : σ[r]? = some (.list (C.rows.map Row.e))) (h2 : σ[nn]? = some (.list [.str [97], .str [98]])) (h3 : σ[y]? = some (.list (C.trys.map Tr.e))) (h4 : σ[l]? = some (.list (C.lives.map Live.e))) :
    IsC (σ ++ [.attrs (.ref r) (.ref nn) (.int C.temps) (.ref y) (.ref l)] ++ [.inst σ.length]) (σ.length + 1) C := by
  refine ⟨sm, σ.length, r, nn, y, l, ?_, sno sng, sno (sno h1), sno (sno h2), sno (sno h3), sno (sno h4)⟩
  have : σ.length + 1 = (σ ++ [MO.attrs (.ref r) (.ref nn) (.int C.temps) (.ref y) (.ref l)]).length := by simp
  rw [this]; exact sng
theorem We_namesE {σ₀ σ c C} {Q : V → H → Prop} (h : IsC σ₀ c C) (e : Ext σ₀ σ) (q : ∀ r, σ₀[r]? = some (.list [.str [97], .str [98]]) → Q (.ref r) σ) : We (vAttr .names (.ref c) σ) Q := by
  obtain ⟨sm, k, r, nn, y, l, h1, h2, h3, h4, h5, h6⟩ := h
  exact We_attr (e.get h1) (e.get h2) (q nn h4)
theorem joined_sp {C : Code} (W : C.Wf) {c : Nat} {σ} {Q : V → H → Prop} (hc : IsC σ c C)
    (q : ∀ c' B T σ', Ext σ σ' → IsC σ' c' (C.ren B (mx B T)) → LeastC C T B → Q (.ref c') σ') : We (m_joined [.ref c] σ) Q := by
  refine runE rfl rfl ?_
  have hr100 := W.sm.rows
  have ht10 := W.sm.trys
  have hl10 := W.sm.lives
  lk
  refine temps_sp W hc fun T nT σ1 e1 l1 h1 hTb hTo => ?_
  have hTl := hTb.len
  lk
  refine clashes_sp W (hc.ext e1) h1 hTb hTo fun nc D K σ2 e2 l2 cl2 hK => ?_
  lk
  refine numbered_sp (e2.get h1) hTb cl2 (fun t ht x hx h => (hK x hx t).mpr ((hK t ht x).mp h).symm) (fun t ht h => by obtain ⟨p, _, hp⟩ := (hK t ht t).mp h; exact hp.1 rfl) fun nb B σ3 e3 l3 h3 hB => ?_
  have hLC : LeastC C T B := ⟨hTb, hTo, fun t ht u hu h => hB.apart t ht u hu ((hK t ht u).mpr h), fun t ht j hj => by
    obtain ⟨o, a, b, d⟩ := hB.least t ht j hj
    exact ⟨o, a, (hK t ht o).mp b, d⟩, hB.small⟩
  have he3 := (e1.trans e2).trans e3
  have hkn : ∀ t, Occ C t → Knows (bookV T B) B t := fun t ht => look_map ((hTo t).mpr ht)
  have hKn : ∀ r ∈ C.rows, Kn (bookV T B) B r := by
    intro r hr
    refine ⟨fun o ho k hk => hkn k (.inr (.inl ⟨r, hr, ?_⟩)), fun k hk => hkn k (.inl ⟨r, hr, hk⟩)⟩
    unfold Row.rd
    exact List.mem_filterMap.mpr ⟨o, ho, hk⟩
  lk
  refine We_comp ?_
  lk
  refine We_rowsE hc he3 fun nr hnr => ?_
  refine We_compF (α := Row) (enc := Row.e) (L := C.rows) (f := fun r => some (r.ren B).e) (fun ρ => ∃ x, ρ = [x, some (.ref nb)]) ⟨.list, by lia, fun σ' e => itl ((he3.trans e).get hnr), ⟨_, rfl⟩, fun r hr ρ σ' hz he => ?_, fun nrows σ4 e4 l4 h4 => ?_⟩
  · obtain ⟨x, hρ⟩ := hz
    subst hρ
    refine ⟨[some r.e, some (.ref nb)], rfl, ⟨_, rfl⟩, ?_⟩
    lk
    refine with_sp r (he.get h3) (hKn r hr) fun σ'' e => ?_
    lk
    exact ⟨e, rfl⟩
  have h4' : σ4[nrows]? = some (.list ((C.rows.map (Row.ren B)).map Row.e)) := by
    rw [h4, List.map_map, ← List.filterMap_eq_map]; rfl
  lk
  generalize hny : σ4.length = ny
  have he4 := he3.trans e4
  refine Wsc (fun ρ σ' => Fm [some (.ref c), some (.ref nT), some (.ref nb), some (.ref nrows), some (.ref ny)] 8 ρ ∧ Ext σ4 σ' ∧ σ'[ny]? = some (.list ((C.trys.map (Tr.ren B)).map Tr.e))) ?_ fun ρ σ5 hz => ?_
  · intro N' hN
    refine Ws_for' ?_
    lk
    refine We_trysE hc he4.snoc fun nt hnt => ?_
    refine ⟨.list, C.trys.map Tr.e, fun i ρ σ' => Fm [some (.ref c), some (.ref nT), some (.ref nb), some (.ref nrows), some (.ref ny)] 8 ρ ∧ Ext σ4 σ' ∧ σ'[ny]? = some (.list (((C.trys.take i).map (Tr.ren B)).map Tr.e)), ?_, ?_, ?_, ?_⟩
    · subst hny
      exact ⟨⟨_, rfl, rfl⟩, Ext.one, sng⟩
    · rintro i ρ σ' ⟨_, h, _⟩
      exact itl ((he4.trans h).get hnt)
    · intro i x ρ σ' N' hN hx hz
      apply and3 hz; clear hz; intro hρ he hl
      apply fm8 hρ; intro x5 x6 x7 x8 x9 x10 x11 x12
      rw [List.getElem?_map] at hx
      obtain ⟨t, ht, rfl⟩ := Option.map_eq_some_iff.mp hx
      rw [tsn ht, List.map_append, List.map_append] at hN
      have hlen : (((C.trys.take i).map (Tr.ren B)).map Tr.e).length ≤ 100000 := by simp; lia
      induction t using Tr.casesOn with
      | cat f k e =>
        lk
        refine ⟨ty_list hl, ?_⟩
        lk
        refine Wap hl hlen ?_
        walk
        exact ⟨⟨_, rfl, rfl⟩, he.set (by lia), by rw [upg hl]; rfl⟩
      | fin f m l r =>
        lk
        refine ⟨ty_list hl, ?_⟩
        lk
        refine We_idxD ((e4.trans he).get h3) (hkn r (.inr (.inr (.inl ⟨_, List.mem_of_getElem? ht, rfl⟩)))) ?_
        lk
        refine Wap hl hlen ?_
        walk
        exact ⟨⟨_, rfl, rfl⟩, he.set (by lia), by rw [upg hl]; rfl⟩
    · intro ρ σ' hz
      try (show ‹R → H → Prop› _ _; refine Imp.ap ‹_› ?_)
      apply and3 hz; clear hz; intro hρ he hl
      rw [List.length_map, List.take_length] at hl
      exact ⟨hρ, he, hl⟩
  apply and3 hz; clear hz; intro hρ e5 h5
  apply fm8 hρ; intro x5 x6 x7 x8 x9 x10 x11 x12
  have he5 := he4.trans e5
  have h3' := (e4.trans e5).get h3
  lk
  refine We_comp ?_
  lk
  refine We_livesE hc he5 fun nlv hnlv => ?_
  refine We_compF (α := Live) (enc := Live.e) (L := C.lives) (f := fun x => some (x.ren B).e) (fun ρ => ∃ a b c d, ρ = [a, b, c, d, some (.ref nb)]) ⟨.list, by lia, fun σ' e => itl ((he5.trans e).get hnlv), ⟨_, _, _, _, rfl⟩, fun x hx ρ σ' hz he => ?_, fun nlives σ6 e6 l6 h6 => ?_⟩
  · obtain ⟨a, b, d, d', hρ⟩ := hz
    subst hρ
    refine ⟨[some (.int (x.t : Nat)), some (.int (x.f : Nat)), some (.int (x.b : Nat)), some (.str [99, 97, 108, 108]), some (.ref nb)], rfl, ⟨_, _, _, _, rfl⟩, ?_⟩
    lk
    refine We_idxD (he.get h3') (hkn x.t (.inr (.inr (.inr ⟨x, hx, rfl⟩)))) ?_
    lk
    exact ⟨Ext.refl, rfl⟩
  have h6' : σ6[nlives]? = some (.list ((C.lives.map (Live.ren B)).map Live.e)) := by
    rw [h6, List.map_map, ← List.filterMap_eq_map]; rfl
  have he6 := he5.trans e6
  lk
  refine Wsc (fun ρ σ' => (∃ x5 x6 x7 x8 x9 x12, ρ = [some (.ref c), some (.ref nT), some (.ref nb), some (.ref nrows), some (.ref ny), x5, x6, x7, x8, x9, some (.ref nlives), some (.int (mx B T : Nat)), x12]) ∧ σ' = σ6) ?_ fun ρ σ7 hz => ?_
  · intro N' hN
    refine Ws_for' ?_
    lk
    refine ⟨.list, intsV T, fun i ρ σ' => (∃ x5 x6 x7 x8 x9 x12, ρ = [some (.ref c), some (.ref nT), some (.ref nb), some (.ref nrows), some (.ref ny), x5, x6, x7, x8, x9, some (.ref nlives), some (.int (mx B (T.take i) : Nat)), x12]) ∧ σ' = σ6, ?_, ?_, ?_, ?_⟩
    · exact ⟨⟨_, _, _, _, _, _, rfl⟩, rfl⟩
    · rintro i ρ σ' ⟨_, h⟩
      subst h
      exact itl (((e2.trans e3).trans (e4.trans (e5.trans e6))).get h1)
    · rintro i x ρ σ' N' hN hx ⟨⟨x5, x6, x7, x8, x9, x12, hρ⟩, hσ'⟩
      subst hρ hσ'
      obtain ⟨t, ht, rfl⟩ := intsV_get hx
      lk
      have hmx : mx B (T.take i ++ [t]) = if mx B (T.take i) < B t + 1 then B t + 1 else mx B (T.take i) := by unfold mx; rw [List.foldl_append]; rfl
      rw [tsn ht, hmx] at hN
      lk
      refine We_idxD (e6.get h3') (hkn t ((hTo t).mp (List.mem_of_getElem? ht))) ?_
      lk
      refine We_max (b := B t + 1) ?_
      walk
      exact ⟨⟨_, _, _, _, _, _, rfl⟩, rfl⟩
    · rintro ρ σ' ⟨hρ, hσ'⟩
      try (show ‹R → H → Prop› _ _; refine Imp.ap ‹_› ?_)
      rw [ivl, List.take_length] at hρ
      exact ⟨hρ, hσ'⟩
  obtain ⟨⟨x5, x6, x7, x8, x9, x12, hρ⟩, hσ7⟩ := hz
  subst hρ hσ7
  lk
  refine We_namesE hc he6 fun nn hnn => ?_
  lk
  refine We_code ?_
  refine q _ B T _ (he6.snoc.snoc) ?_ hLC
  have hmx := mx_le (B := B) T 0 hB.small (by lia)
  exact isC_new (C := C.ren B (mx B T)) ⟨by simp [Code.ren]; lia, by simp [Code.ren]; lia, by simp [Code.ren]; lia, by show mx B T ≤ 100; unfold mx; lia⟩ ((e5.trans e6).get h4') (he6.get hnn) (e6.get h5) h6'
noncomputable def Sok (s : Str) (n : Nat) : Prop := s.cps.toList.length ≤ n ∧ ∀ c ∈ s.cps.toList, c < 0x110000
theorem Sok.app {a b : Str} {n m} (h : Sok a n) (g : Sok b m) : Sok (a ++ b) (n + m) := by
  have e : (a ++ b).cps.toList = a.cps.toList ++ b.cps.toList := by
    show (a.cps ++ b.cps).toList = _; simp
  unfold Sok
  rw [e]
  refine ⟨by rw [List.length_append]; have := h.1; have := g.1; lia, fun c hc => ?_⟩
  rcases List.mem_append.mp hc with hc | hc
  · exact h.2 c hc
  · exact g.2 c hc
theorem Sok.le {a : Str} {n m} (h : Sok a n) (g : n ≤ m) : Sok a m := ⟨Nat.le_trans h.1 g, h.2⟩
theorem chr_ok : ∀ c, c < 128 → (((Builtin.Str.reprChar 34 c).length ≤ 4 ∧ ∀ x ∈ Builtin.Str.reprChar 34 c, x < 0x110000) ∧ ((Builtin.Str.reprChar 39 c).length ≤ 4 ∧ ∀ x ∈ Builtin.Str.reprChar 39 c, x < 0x110000)) := by decide +kernel
theorem foldl_app (f : Nat → List Nat) : ∀ (l : List Nat) (acc : Array Nat), (l.foldl (fun out c => out ++ (f c).toArray) acc).toList = acc.toList ++ l.flatMap f
  | [], acc => by simp
  | c :: r, acc => by rw [List.foldl_cons, foldl_app f r]; simp
theorem flat_ok {f : Nat → List Nat} : ∀ {l : List Nat}, (∀ c ∈ l, (f c).length ≤ 4 ∧ ∀ x ∈ f c, x < 0x110000) → (l.flatMap f).length ≤ 4 * l.length ∧ ∀ x ∈ l.flatMap f, x < 0x110000
  | [], _ => by simp
  | c :: r, h => by
    have h1 := flat_ok (l := r) fun x hx => h x (.tail _ hx)
    have h2 := h c (.head _)
    rw [List.flatMap_cons]
    refine ⟨by rw [List.length_append, List.length_cons]; lia, fun x hx => ?_⟩
    rcases List.mem_append.mp hx with hx | hx
    · exact h2.2 x hx
    · exact h1.2 x hx
theorem repr_ok' {l : List Nat} (h : ∀ c ∈ l, c < 128) : Sok (reprText (strV l)) (2 + 4 * l.length) := by
  have hq : reprQuote (strV l) = 34 ∨ reprQuote (strV l) = 39 := by unfold reprQuote; split <;> simp
  have e : (reprText (strV l)).cps.toList = [reprQuote (strV l)] ++ l.flatMap (Builtin.Str.reprChar (reprQuote (strV l))) ++ [reprQuote (strV l)] := by
    unfold reprText
    show (Array.push _ _).toList = _
    rw [Array.toList_push, ← Array.foldl_toList]
    rw [show (strV l).cps.toList = l from rfl, foldl_app]
  have hf : ∀ c ∈ l, (Builtin.Str.reprChar (reprQuote (strV l)) c).length ≤ 4 ∧ ∀ x ∈ Builtin.Str.reprChar (reprQuote (strV l)) c, x < 0x110000 := by
    intro c hc
    have := chr_ok c (h c hc)
    rcases hq with hq | hq
    · rw [hq]; exact this.1
    · rw [hq]; exact this.2
  have hfl := flat_ok hf
  unfold Sok
  rw [e]
  refine ⟨by simp only [List.length_append, List.length_singleton]; lia, fun c hc => ?_⟩
  simp only [List.mem_append, List.mem_singleton] at hc
  rcases hc with (hc | hc) | hc
  · lia
  · exact hfl.2 c hc
  · lia
noncomputable def Simp : V → Prop
  | .none => True
  | .bool _ => True
  | .int i => i = 0
  | .str l => l.length ≤ 40 ∧ ∀ c ∈ l, c < 128
  | _ => False
noncomputable def dV : V → PyData
  | .bool b => .bool b
  | .int i => .int i
  | .str l => .str (strV l)
  | _ => .none
theorem sok_lit1 : Sok "None" 170 ∧ Sok "True" 170 ∧ Sok "False" 170 ∧ Sok (toString (0 : Int) : String) 170 ∧ Sok "[" 1 ∧ Sok "]" 1 ∧ Sok ", " 2 ∧ Sok "" 2 := by
  unfold Sok
  refine ⟨?_, ?_, ?_, ?_, ?_, ?_, ?_, ?_⟩ <;> decide +kernel
theorem simp_ok {v : V} (h : Simp v) : (∀ n σ, toD (n + 1) σ v = some (dV v)) ∧ (dV v).canLay0 = true ∧ (dV v).showable = true ∧ Sok (dV v).shown 170 := by
  induction v using V.casesOn with
  | none => exact ⟨fun _ _ => rfl, rfl, rfl, sok_lit1.1⟩
  | bool b =>
    refine ⟨fun _ _ => rfl, rfl, rfl, ?_⟩
    cases b
    · exact sok_lit1.2.2.1
    · exact sok_lit1.2.1
  | int i =>
    have : i = 0 := h
    subst this
    exact ⟨fun _ _ => rfl, rfl, by decide +kernel, sok_lit1.2.2.2.1⟩
  | str l =>
    obtain ⟨h1, h2⟩ : l.length ≤ 40 ∧ ∀ c ∈ l, c < 128 := h
    refine ⟨fun _ _ => rfl, lay_str ?_, rfl, (repr_ok' h2).le (by lia)⟩
    rw [okS_eq]
    rw [List.all_eq_true]
    intro c hc
    have := h2 c hc
    simp; lia
  | _ => exact absurd h (by simp [Simp])
theorem simps_ok {vs : List V} (h : ∀ v ∈ vs, Simp v) : (∀ n σ, toDs (toD (n + 1) σ) vs = some (vs.map dV)) ∧ PyData.canLayAll0 (vs.map dV) = true ∧ PyData.showableAll (vs.map dV) = true := by
  induction vs with
  | nil => exact ⟨fun _ _ => rfl, rfl, rfl⟩
  | cons v r ih =>
    obtain ⟨a, b, c⟩ := ih fun x hx => h x (.tail _ hx)
    obtain ⟨d, e, f, _⟩ := simp_ok (h v (.head _))
    refine ⟨fun n σ => by simp only [toDs, d, a, List.map_cons], ?_, ?_⟩
    · rw [List.map_cons, PyData.canLayAll0, e, b]; rfl
    · rw [List.map_cons, PyData.showableAll, f, c]; rfl
noncomputable def shownL (vs : List V) : List Nat := (PyData.list (vs.map dV)).shown.cps.toList
theorem shown_ok {vs : List V} (h : ∀ v ∈ vs, Simp v) (hl : vs.length ≤ 2) : Sok (PyData.list (vs.map dV)).shown 1000 := by
  obtain ⟨_, _, _, _, l1, l2, l3, l4⟩ := sok_lit1
  rw [PyData.shown]
  match vs, hl with
  | [], _ => exact (l1.app l2).le (by lia)
  | [a], _ =>
    have ha := (simp_ok (h a (by simp))).2.2.2
    exact (((l1.app l4).app ha).app l2).le (by lia)
  | [a, b], _ =>
    have ha := (simp_ok (h a (by simp))).2.2.2
    have hb := (simp_ok (h b (by simp))).2.2.2
    exact (((((l1.app l4).app ha).app l3).app hb).app l2).le (by lia)
  | _ :: _ :: _ :: _, h => simp at h
theorem shownL_ok {vs : List V} (h : ∀ v ∈ vs, Simp v) (hl : vs.length ≤ 2) : okS (shownL vs) = true ∧ (shownL vs).length ≤ 1000 := by
  have := shown_ok h hl
  refine ⟨?_, this.1⟩
  rw [okS_eq]
  rw [List.all_eq_true]
  intro c hc
  have := this.2 c hc
  simp; lia
theorem We_repr {n : Nat} {vs : List V} {σ} {Q : V → H → Prop} (hn : σ[n]? = some (.list vs)) (h : ∀ v ∈ vs, Simp v) (hl : vs.length ≤ 2) (q : Q (.str (shownL vs)) σ) : We (vRepr [.ref n] σ) Q := by
  obtain ⟨a, b, c⟩ := simps_ok h
  have hd : toD 15 σ (.ref n) = some (.list (vs.map dV)) := toD_list hn (a 13 σ)
  refine ⟨_, σ, ?_, q⟩
  show (toD 15 σ (.ref n)).bind _ = _
  rw [hd]
  show (if _ then some (V.str _, σ) else none) = _
  rw [if_pos]
  · rfl
  · refine ⟨?_, ?_, ?_⟩
    · rw [PyData.showable]; exact c
    · exact b
    · have := (shown_ok h hl).1
      have e : (PyData.list (vs.map dV)).shown.length = (PyData.list (vs.map dV)).shown.cps.toList.length := by simp [Str.length]
      rw [e]; lia
theorem strInt_ok : ∀ k, k < 100 → (strOfInt (k : Nat)).length ≤ 3 ∧ ∀ c ∈ strOfInt (k : Nat), c < 128 := by decide +kernel
noncomputable def sLog : List Nat := [108, 111, 103]
noncomputable def sTemps : List Nat := [116, 101, 109, 112, 115]
noncomputable def sTape : List Nat := [116, 97, 112, 101]
structure IsW (σ : H) (w nl nt np : Nat) (temps tape log : List V) : Prop where
  d : σ[w]? = some (.dictS [(sLog, .ref nl), (sTemps, .ref nt), (sTape, .ref np)])
  hl : σ[nl]? = some (.list log)
  ht : σ[nt]? = some (.list temps)
  hp : σ[np]? = some (.list tape)
  n1 : nl ≠ nt
  n2 : nl ≠ np
  n3 : nt ≠ np
theorem IsW.ext {σ σ' w nl nt np temps tape log} (h : IsW σ w nl nt np temps tape log) (e : Ext σ σ') : IsW σ' w nl nt np temps tape log :=
  ⟨e.get h.d, e.get h.hl, e.get h.ht, e.get h.hp, h.n1, h.n2, h.n3⟩
theorem IsW.wne {σ w nl nt np temps tape log} (h : IsW σ w nl nt np temps tape log) : w ≠ nl ∧ w ≠ nt := by
  constructor
  · intro e; have := h.d; rw [e, h.hl] at this; cases this
  · intro e; have := h.d; rw [e, h.ht] at this; cases this
theorem IsW.setT {σ w nl nt np temps tape log} {t' : List V} (h : IsW σ w nl nt np temps tape log) : IsW (σ.set nt (.list t')) w nl nt np t' tape log :=
  ⟨upd_ne' (Ne.symm h.wne.2) h.d, upd_ne' (Ne.symm h.n1) h.hl, upg h.ht, upd_ne' h.n3 h.hp, h.n1, h.n2, h.n3⟩
theorem IsW.setL {σ w nl nt np temps tape log} {l' : List V} (h : IsW σ w nl nt np temps tape log) : IsW (σ.set nl (.list l')) w nl nt np temps tape l' :=
  ⟨upd_ne' (Ne.symm h.wne.1) h.d, upg h.hl, upd_ne' h.n1 h.ht, upd_ne' h.n2 h.hp, h.n1, h.n2, h.n3⟩
noncomputable def valO (temps tape : List V) (k : Nat) : Opd → V
  | .lx => .str [120]
  | .ln => .none
  | .lz => .int 0
  | .lw => .str [119]
  | .tmp j => temps.getD j .none
  | .cv j => tape.getD ((k + j) % tape.length) .none
theorem getD_get {l : List V} {j : Nat} (h : j < l.length) : l[j]? = some (l.getD j .none) := by
  rw [List.getD_eq_getElem?_getD, List.getElem?_eq_getElem h]; rfl
theorem We_mod {a b : Nat} {σ} {Q : V → H → Prop} (h : 0 < b) (q : Q (.int ((a % b : Nat) : Int)) σ) : We (vMod (.int (a : Nat)) (.int (b : Nat)) σ) Q := by
  refine ⟨_, σ, ?_, q⟩
  show (if (b : Int) ≠ 0 then some (V.int ((a : Int).fmod b), σ) else none) = _
  rw [if_pos (by lia), Int.fmod_eq_emod_of_nonneg _ (by lia)]
  rfl
theorem value_sp (o : Opd) {σ w nl nt np} {temps tape log : List V} {Q : V → H → Prop} (hw : IsW σ w nl nt np temps tape log) (ht : ∀ j, o.t? = some j → j < temps.length) (htl : temps.length ≤ 100) (hp : 0 < tape.length ∧ tape.length ≤ 100) (hl : log.length ≤ 100)
    (q : Q (valO temps tape log.length o) σ) : We (m_law_value [.ref w, o.e] σ) Q := by
  refine runE rfl rfl ?_
  cases o
  case tmp j =>
    walk
    refine We_idxS hw.d rfl ?_
    walk
    have hj := ht j rfl
    refine We_idxL (k := j) hw.ht (getD_get hj) rfl (by lia) ?_
    exact q
  case cv j =>
    walk
    refine We_idxS hw.d rfl ?_
    walk
    refine We_idxS hw.d rfl ?_
    walk
    refine We_len hw.hl (by lia) ?_
    walk
    refine We_addI ?_
    walk
    refine We_idxS hw.d rfl ?_
    walk
    refine We_len hw.hp (by lia) ?_
    have hlt : (log.length + j) % tape.length < tape.length := Nat.mod_lt _ hp.1
    refine We_mod (a := log.length + j) hp.1 ?_
    refine We_idxL (k := (log.length + j) % tape.length) hw.hp (getD_get hlt) rfl (by lia) ?_
    exact q
  all_goals (walk)
  all_goals exact q
noncomputable def given (r : Row) (vs : List V) (k : Nat) : V := match r with
  | .mov .. => vs.getD 0 .none
  | .boo .. => .bool (!isNone (vs.getD 0 .none))
  | r => .str (r.op ++ strOfInt (k : Nat))
theorem We_str {k : Nat} {σ} {Q : V → H → Prop} (h : k < 100) (q : Q (.str (strOfInt (k : Nat))) σ) : We (vStr [.int (k : Nat)] σ) Q :=
  ⟨_, σ, if_pos (by lia), q⟩
theorem given_sp (r : Row) {nv k : Nat} {vs : List V} {σ} {Q : V → H → Prop} (hv : σ[nv]? = some (.list vs)) (hvl : vs.length = r.ops.length) (hk : k < 100) (q : Q (given r vs k) σ) : We (m_law_given [.str r.op, .ref nv, .int (k : Nat)] σ) Q := by
  refine runE rfl rfl ?_
  have hs := (strInt_ok k hk).1
  induction r
  case mov to x =>
    walk
    refine We_idxL (k := 0) hv (getD_get (by rw [hvl]; exact Nat.zero_lt_one)) rfl (by rw [hvl]; exact Nat.le_of_ble_eq_true rfl) ?_
    exact q
  case boo to x =>
    walk
    refine We_idxL (k := 0) hv (getD_get (by rw [hvl]; exact Nat.zero_lt_one)) rfl (by rw [hvl]; exact Nat.le_of_ble_eq_true rfl) ?_
    walk
    exact We_niN rfl q
  all_goals walk
  all_goals refine We_str hk ?_
  all_goals refine We_addS ?_ q
  all_goals (simp only [Row.op, List.length_cons, List.length_nil]; lia)
noncomputable def sThrown : List Nat := [116, 104, 114, 111, 119, 110]
noncomputable def setO (temps : List V) (o : Option Nat) (v : V) : List V := match o with
  | some j => temps.set j v
  | none => temps
noncomputable def stepN (C : Code) (r : Row) (p : Nat) (vs : List V) (k : Nat) (temps : List V) : Int × List V := match r with
  | .jmp t => ((t : Int), temps)
  | .jif _ t => (if isNone (vs.getD 0 .none) = false then (t : Int) else (p + 1 : Nat), temps)
  | .jnl _ t => (if isNone (vs.getD 0 .none) = true then (t : Int) else (p + 1 : Nat), temps)
  | .thr _ => match hdl C.trys p with
    | some w => ((w.1 : Int), setO temps w.2 (.str (sThrown ++ strOfInt (k : Nat))))
    | none => (-2, temps)
  | r => (if r.fall = true then (p + 1 : Nat) else -1, setO temps r.to (given r vs k))
theorem step_plain {C : Code} {r : Row} {p k : Nat} {vs temps : List V} (h1 : r.tgt = none) (h2 : r.op ≠ [116, 104, 114, 111, 119]) : stepN C r p vs k temps = (if r.fall = true then ((p + 1 : Nat) : Int) else -1, setO temps r.to (given r vs k)) := by
  induction r <;> first | rfl | exact absurd rfl h2 | exact nosm h1.symm
theorem We_setT {σ₀ σ : H} {w nl nt np} {temps tape log : List V} {j : Nat} {v : V} {ρ : R} {N : R → H → Prop} (hw : IsW σ w nl nt np temps tape log) (he : Ext σ₀ σ) (hnt : σ₀.length ≤ nt) (hj : j < temps.length) (htl : temps.length ≤ 100)
    (q : ∀ σ', Ext σ₀ σ' → IsW σ' w nl nt np (temps.set j v) tape log → N ρ σ') : Wp (vSet (.ref nt) (.int (j : Nat)) v σ) ρ N :=
  ⟨_, set_list hw.ht rfl hj (by lia), q _ (he.set hnt) hw.setT⟩
set_option maxHeartbeats 2000000 in
theorem next_sp {C : Code} {c p : Nat} {r : Row} {σ₀ σ : H} {w nl nt np nv} {temps tape log vs : List V} {Q : V → H → Prop} (hc : IsC σ₀ c C) (hr : C.rows[p]? = some r) (he : Ext σ₀ σ) (hw : IsW σ w nl nt np temps tape log) (hnt : σ₀.length ≤ nt) (htl : temps.length ≤ 100)
    (hto : ∀ j, r.to = some j → j < temps.length) (hhd : ∀ w j, hdl C.trys p = some w → w.2 = some j → j < temps.length) (hv : σ[nv]? = some (.list vs)) (hvl : vs.length = r.ops.length) (hlog : log.length < 100)
    (q : ∀ σ', Ext σ₀ σ' → IsW σ' w nl nt np (stepN C r p vs log.length temps).2 tape log → Q (.int (stepN C r p vs log.length temps).1) σ') : We (m_law_next [.ref w, .ref c, .int (p : Nat), .ref nv] σ) Q := by
  refine runE rfl rfl ?_
  lk
  refine We_rowsE hc he fun nr hnr => ?_
  lk
  refine We_idxM (he.get hnr) hr hc.sm.r ?_
  lk
  refine Wsq ?_
  walk
  refine ⟨.str (r.op.take 4), σ, if_pos r.hl4, ?_⟩
  walk
  refine We_eqS r.hok4 rfl r.h4 ?_
  lk
  have hops := r.hops
  refine cbo (fun h => ?_) fun h => ?_
  · obtain ⟨t, hrt⟩ := opt_is h
    clear hr hto h
    revert hvl q
    apply tgt_el hrt <;> (intros; rename_i hvl q)
    · walk
      exact q σ he hw
    · walk
      refine We_idxL (k := 0) hv (getD_get (by rw [hvl]; exact Nat.zero_lt_one)) rfl (by rw [hvl]; exact Nat.le_of_ble_eq_true rfl) ?_
      walk
      refine We_isN rfl ?_
      walk
      refine We_eqB ?_
      walk
      refine cbo (fun h => ?_) fun h => ?_
      · have h : isNone (vs.getD 0 .none) = false := by simpa using h
        walk
        have := q σ he hw
        simp only [stepN, h, if_true] at this
        exact this
      · have h : isNone (vs.getD 0 .none) = true := by simpa using h
        walk
        have := q σ he hw
        simp only [stepN, h] at this
        exact this
    · walk
      refine We_idxL (k := 0) hv (getD_get (by rw [hvl]; exact Nat.zero_lt_one)) rfl (by rw [hvl]; exact Nat.le_of_ble_eq_true rfl) ?_
      walk
      refine We_isN rfl ?_
      walk
      refine We_eqB ?_
      walk
      refine cbo (fun h => ?_) fun h => ?_
      · have h : isNone (vs.getD 0 .none) = true := by simpa using h
        walk
        have := q σ he hw
        simp only [stepN, h, if_true] at this
        exact this
      · have h : isNone (vs.getD 0 .none) = false := by simpa using h
        walk
        have := q σ he hw
        simp only [stepN, h] at this
        exact this
  · have hrt := opt_no h
    walk
    by_cases hthr : r.op = [116, 104, 114, 111, 119]
    · clear hr hto
      revert hvl q
      apply thr_el hthr
      intro x hvl q
      · walk
        refine Ws_for' ?_
        walk
        refine We_trysE hc he fun ny hny => ?_
        walk
        refine handler_sp (he.get hny) hc.sm.trys fun nh σ1 e1 l1 h1 => ?_
        cases hh : hdl C.trys p with
        | none =>
          rw [hh] at h1
          refine for0 (itl h1) ?_
          walk
          have := q σ1 (he.trans e1) (by simp only [stepN, hh]; exact hw.ext e1)
          simp only [stepN, hh] at this
          exact this
        | some w =>
          rw [hh] at h1
          obtain ⟨b, o⟩ := w
          refine for1 (itl h1) fun N' hN => ?_
          have hw1 := hw.ext e1
          cases o with
          | none =>
            walk
            have := q σ1 (he.trans e1) (by simp only [stepN, hh, setO]; exact hw1)
            simp only [stepN, hh] at this
            exact this
          | some j =>
            walk
            refine We_idxS hw1.d rfl ?_
            walk
            refine We_len hw1.hl (by lia) ?_
            walk
            refine We_str hlog ?_
            refine We_addS (by have := (strInt_ok log.length hlog).1; simp; lia) ?_
            walk
            refine We_idxS hw1.d rfl ?_
            walk
            refine We_setT hw1 (he.trans e1) hnt (hhd _ j hh rfl) htl fun σ2 e2 hw2 => ?_
            walk
            have := q σ2 e2 (by simp only [stepN, hh, setO]; exact hw2)
            simp only [stepN, hh] at this
            exact this
    · have hst := step_plain (C := C) (p := p) (k := log.length) (vs := vs) (temps := temps) hrt hthr
      rw [hst] at q
      have hne : (r.op == [116, 104, 114, 111, 119]) = false := by simpa using hthr
      refine We_eqS r.okop rfl hne ?_
      lk
      refine Wsc (fun ρ σ' => ρ = [some (.ref w), some (.ref c), some (.int (p : Nat)), some (.ref nv), some (.str r.op), some (optV r.to), some r.a, some r.b, none, none, none] ∧ Ext σ₀ σ' ∧ IsW σ' w nl nt np (setO temps r.to (given r vs log.length)) tape log) ?_ fun ρ σ1 hz => ?_
      · intro N' hN
        walk
        refine We_niN (optV_none _) ?_
        lk
        refine cbo (fun hf => ?_) fun hf => ?_
        · obtain ⟨j, hj⟩ : ∃ j, r.to = some j := by cases h : r.to <;> simp [h] at hf ⊢
          walk
          refine We_idxS hw.d rfl ?_
          walk
          refine We_len hw.hl (by lia) ?_
          walk
          refine given_sp r hv hvl hlog ?_
          walk
          refine We_idxS hw.d rfl ?_
          walk
          rw [hj] at hN ⊢
          refine We_setT hw he hnt (hto j hj) htl fun σ2 e2 hw2 => ?_
          walk
          exact ⟨rfl, e2, hw2⟩
        · have hj : r.to = none := by cases h : r.to <;> simp [h] at hf ⊢
          walk
          refine ⟨rfl, he, ?_⟩
          rw [hj]; exact hw
      apply and3 hz; clear hz; intro hρ e1 hw1
      subst hρ
      have hret := r.ret_fall hrt hthr
      lk
      refine We_eqS r.okop rfl hret ?_
      lk
      have := q σ1 e1 hw1
      cases hfl : r.fall with
      | true =>
        rw [hfl] at this
        lk
        exact this
      | false =>
        rw [hfl] at this
        lk
        exact this
structure St where
  here : Int
  temps : List V
  log : List V
noncomputable def turnS (C : Code) (tape : List V) (s : St) : St :=
  match (if 0 ≤ s.here then C.rows[s.here.toNat]? else none) with
  | some r =>
    let vs := r.ops.map (valO s.temps tape s.log.length)
    let lg := s.log ++ [.tup [.int s.here, .str (shownL vs)]]
    let st := stepN C r s.here.toNat vs lg.length s.temps
    ⟨st.1, st.2, lg⟩
  | none => s
noncomputable def runS (C : Code) (tape : List V) : Nat → St → St
  | 0, s => s
  | n + 1, s => turnS C tape (runS C tape n s)
structure MW (C : Code) : Prop where
  sm : C.Sm
  rd : ∀ r ∈ C.rows, ∀ t ∈ r.rd, t < C.temps
  to : ∀ r ∈ C.rows, ∀ t, r.to = some t → t < C.temps
  hd : ∀ p w j, hdl C.trys p = some w → w.2 = some j → j < C.temps
noncomputable def LogOk (l : List V) : Prop := ∀ v ∈ l, ∃ (a : Int) (s : List Nat), v = .tup [.int a, .str s] ∧ okS s = true
structure Fine (C : Code) (s : St) (i : Nat) : Prop where
  len : s.temps.length = C.temps
  simp : ∀ v ∈ s.temps, Simp v
  log : s.log.length ≤ i
  ok : LogOk s.log
theorem simp_getD {l : List V} {j : Nat} (h : ∀ v ∈ l, Simp v) : Simp (l.getD j .none) := by
  rw [List.getD_eq_getElem?_getD]
  cases hg : l[j]? with
  | none => exact True.intro
  | some v => exact h v (List.mem_of_getElem? hg)
theorem simp_val {temps tape : List V} (h : ∀ v ∈ temps, Simp v) (g : ∀ v ∈ tape, Simp v) (k : Nat) (o : Opd) : Simp (valO temps tape k o) := by
  cases o with
  | lx => exact ⟨by decide, by decide⟩
  | ln => exact True.intro
  | lz => exact rfl
  | lw => exact ⟨by decide, by decide⟩
  | tmp j => exact simp_getD h
  | cv j => exact simp_getD g
theorem op_ok (r : Row) : r.op.length ≤ 15 ∧ ∀ c ∈ r.op, c < 128 := by induction r <;> (simp only [Row.op]; exact ⟨by decide, by decide⟩)
theorem simp_str {a : List Nat} {k : Nat} (ha : a.length ≤ 15 ∧ ∀ c ∈ a, c < 128) (hk : k < 100) : Simp (.str (a ++ strOfInt (k : Nat))) := by
  obtain ⟨h1, h2⟩ := strInt_ok k hk
  refine ⟨by rw [List.length_append]; lia, fun c hc => ?_⟩
  rcases List.mem_append.mp hc with hc | hc
  · exact ha.2 c hc
  · exact h2 c hc
theorem simp_given {r : Row} {vs : List V} {k : Nat} (h : ∀ v ∈ vs, Simp v) (hk : k < 100) : Simp (given r vs k) := by
  induction r <;> first | exact simp_getD h | exact True.intro | exact simp_str (op_ok _) hk
theorem setO_len {temps : List V} {o : Option Nat} {v : V} : (setO temps o v).length = temps.length := by cases o <;> simp [setO]
theorem setO_simp {temps : List V} {o : Option Nat} {v : V} (h : ∀ v ∈ temps, Simp v) (hv : Simp v) : ∀ x ∈ setO temps o v, Simp x := by
  cases o with
  | none => exact h
  | some j =>
    intro x hx
    rcases List.mem_or_eq_of_mem_set hx with hx | rfl
    · exact h x hx
    · exact hv
theorem step_fine {C : Code} {r : Row} {p k : Nat} {vs temps : List V} (h : ∀ v ∈ temps, Simp v) (hv : ∀ v ∈ vs, Simp v) (hk : k < 100) : (stepN C r p vs k temps).2.length = temps.length ∧ ∀ v ∈ (stepN C r p vs k temps).2, Simp v := by
  have gg : (setO temps r.to (given r vs k)).length = temps.length ∧ ∀ v ∈ setO temps r.to (given r vs k), Simp v := ⟨setO_len, setO_simp h (simp_given hv hk)⟩
  induction r
  case thr =>
    unfold stepN
    cases hdl C.trys p with
    | none => exact ⟨rfl, h⟩
    | some w => exact ⟨setO_len, setO_simp h (simp_str ⟨by decide, by decide⟩ hk)⟩
  all_goals first | exact ⟨rfl, h⟩ | exact gg
theorem turn_fine {C : Code} {tape : List V} {s : St} {i : Nat} (hp : ∀ v ∈ tape, Simp v) (h : Fine C s i) (hi : i < 99) : Fine C (turnS C tape s) (i + 1) := by
  unfold turnS
  cases hr : (if 0 ≤ s.here then C.rows[s.here.toNat]? else none) with
  | none => exact ⟨h.len, h.simp, Nat.le_succ_of_le h.log, h.ok⟩
  | some r =>
    have hvs : ∀ v ∈ r.ops.map (valO s.temps tape s.log.length), Simp v := by
      intro v hv
      obtain ⟨o, _, rfl⟩ := List.mem_map.mp hv
      exact simp_val h.simp hp _ _
    have hops := r.hops
    have := h.log
    have st := step_fine (C := C) (r := r) (p := s.here.toNat) (k := (s.log ++ [V.tup [V.int s.here, V.str (shownL (r.ops.map (valO s.temps tape s.log.length)))]]).length) h.simp hvs (by simp; lia)
    refine ⟨st.1.trans h.len, st.2, by simp; lia, fun v hv => ?_⟩
    rcases List.mem_append.mp hv with hv | hv
    · exact h.ok v hv
    · simp at hv; subst hv
      exact ⟨_, _, rfl, (shownL_ok hvs (by simpa using hops)).1⟩
theorem We_mul {n k : Nat} {v : V} {σ} {Q : V → H → Prop} (hn : σ[n]? = some (.list [v])) (hk : k ≤ 1000) (q : Q (.ref σ.length) (σ ++ [.list (List.replicate k v)])) : We (vMul (.ref n) (.int (k : Nat)) σ) Q := by
  refine ⟨_, _, ?_, q⟩
  show oL σ[n]? _ = _
  rw [hn]
  show (if _ then some (V.ref σ.length, σ ++ [MO.list (List.replicate (k : Int).toNat v)]) else none) = _
  rw [if_pos (by lia), Int.toNat_natCast]
noncomputable def ini (C : Code) : St := ⟨0, List.replicate C.temps .none, []⟩
theorem told_sp {C : Code} (M : MW C) {c np : Nat} {tape : List V} {σ} {Q : V → H → Prop} (hc : IsC σ c C) (hp : σ[np]? = some (.list tape)) (hps : ∀ v ∈ tape, Simp v) (hpl : 0 < tape.length ∧ tape.length ≤ 100)
    (q : ∀ n σ', Ext σ σ' → σ'[n]? = some (.list (runS C tape 40 (ini C)).log) → Fine C (runS C tape 40 (ini C)) 40 → Q (.tup [.int (runS C tape 40 (ini C)).here, .ref n]) σ') : We (m_law_told [.ref c, .ref np] σ) Q := by
  refine runE rfl rfl ?_
  have ht := M.sm.temps
  lk
  refine We_temps (hc.ext (Ext.snoc Ext.one)) ?_
  refine We_mul sng (by lia) ?_
  lk
  generalize hk : σ.length = nl
  have hw : ∃ nt w, nl ≤ nt ∧ (σ ++ [MO.list []] ++ [MO.list [V.none]] ++ [MO.list (List.replicate C.temps V.none)]).length = w ∧ (σ ++ [MO.list []] ++ [MO.list [V.none]]).length = nt ∧ IsW (σ ++ [MO.list []] ++ [MO.list [V.none]] ++ [MO.list (List.replicate C.temps V.none)] ++ [MO.dictS [(sLog, .ref nl), (sTemps, .ref nt), (sTape, .ref np)]]) w nl nt np (List.replicate C.temps .none) tape [] := by
    have hnp := get_lt hp
    refine ⟨_, _, by simp; lia, rfl, rfl, ⟨sng, ?_, ?_, ?_, ?_, by lia, ?_⟩⟩
    · subst hk; exact sno (sno (sno sng))
    · exact sno sng
    · exact sno (sno (sno (sno hp)))
    · simp; lia
    · simp; lia
  obtain ⟨nt, w, hnt, hwl, hntl, hw⟩ := hw
  rw [hwl, hntl]
  rw [show putAll [] ([[108, 111, 103], [116, 101, 109, 112, 115], [116, 97, 112, 101]].zip [V.ref nl, V.ref nt, V.ref np]) = [(sLog, V.ref nl), (sTemps, V.ref nt), (sTape, V.ref np)] from rfl]
  have e0 : Ext σ (σ ++ [MO.list []] ++ [MO.list [V.none]] ++ [MO.list (List.replicate C.temps V.none)] ++ [MO.dictS [(sLog, .ref nl), (sTemps, .ref nt), (sTape, .ref np)]]) := Ext.snoc (Ext.snoc (Ext.snoc Ext.one))
  generalize σ ++ [MO.list []] ++ [MO.list [V.none]] ++ [MO.list (List.replicate C.temps V.none)] ++ [MO.dictS [(sLog, .ref nl), (sTemps, .ref nt), (sTape, .ref np)]] = σ0 at hw e0
  have f0 : Fine C (ini C) 0 := ⟨by simp [ini], fun v hv => by simp [ini] at hv; rw [hv.2]; exact True.intro, Nat.le_refl _, fun v hv => by simp [ini] at hv⟩
  refine Wsc (fun ρ σ' => Fm [some (.ref c), some (.ref np), some (.ref w), some (.int (runS C tape 40 (ini C)).here)] 2 ρ ∧ Ext σ σ' ∧ IsW σ' w nl nt np (runS C tape 40 (ini C)).temps tape (runS C tape 40 (ini C)).log ∧ Fine C (runS C tape 40 (ini C)) 40) ?_ fun ρ σ1 hz => ?_
  · intro N' hN
    refine Ws_for' ?_
    lk
    refine We_rng1 (by decide) ?_
    refine ⟨.fix, (List.range 40).map fun i => V.int (i : Nat), fun i ρ σ' => Fm [some (.ref c), some (.ref np), some (.ref w), some (.int (runS C tape i (ini C)).here)] 2 ρ ∧ Ext σ σ' ∧ IsW σ' w nl nt np (runS C tape i (ini C)).temps tape (runS C tape i (ini C)).log ∧ Fine C (runS C tape i (ini C)) i, ?_, ?_, ?_, ?_⟩
    · exact ⟨⟨_, rfl, rfl⟩, e0, hw, f0⟩
    · intro i ρ σ' _
      exact it_range0 (b := 40) (by decide)
    · intro i x ρ σ' N' hN hx hz
      apply and4 hz; clear hz; intro hρ he hw hf
      apply fm2 hρ; intro x4 x5
      rw [List.getElem?_map] at hx
      obtain ⟨i', hi', rfl⟩ := Option.map_eq_some_iff.mp hx
      obtain ⟨rfl, hi⟩ := range_get hi'
      have hf' := turn_fine hps hf (by lia)
      rw [show runS C tape (i' + 1) (ini C) = turnS C tape (runS C tape i' (ini C)) from rfl] at hN
      generalize runS C tape i' (ini C) = s at hw hf hf' hN
      lk
      have skip : (if 0 ≤ s.here then C.rows[s.here.toNat]? else none) = none → turnS C tape s = s := by
        intro h; unfold turnS; rw [h]
      refine Wsq ?_
      walk
      refine cbo (fun h1 => ?_) fun h1 => ?_
      · walk
        refine We_rowsE hc he fun nr hnr => ?_
        walk
        refine We_lenM (he.get hnr) M.sm.r ?_
        walk
        refine cbo (fun h2 => ?_) fun h2 => ?_
        · have h1 := of_decide_eq_true h1
          have h2 := of_decide_eq_true h2
          obtain ⟨p, hpp⟩ := Int.eq_ofNat_of_zero_le h1
          have hpl' : p < C.rows.length := by lia
          obtain ⟨r, hr⟩ : ∃ r, C.rows[p]? = some r := ⟨_, List.getElem?_eq_getElem hpl'⟩
          have hrm := List.mem_of_getElem? hr
          have hops := r.hops
          have hpn : s.here.toNat = p := by lia
          have hturn : turnS C tape s = ⟨(stepN C r p (r.ops.map (valO s.temps tape s.log.length)) (s.log.length + 1) s.temps).1, (stepN C r p (r.ops.map (valO s.temps tape s.log.length)) (s.log.length + 1) s.temps).2, s.log ++ [.tup [.int s.here, .str (shownL (r.ops.map (valO s.temps tape s.log.length)))]]⟩ := by
            unfold turnS
            rw [if_pos h1, hpn, hr]
            simp
          have htl : s.temps.length ≤ 100 := by rw [hf.len]; lia
          have hll := hf.log
          generalize hvs : r.ops.map (valO s.temps tape s.log.length) = vs at hturn
          have hvS : ∀ v ∈ vs, Simp v := by
            intro v hv
            rw [← hvs] at hv
            obtain ⟨o, _, rfl⟩ := List.mem_map.mp hv
            exact simp_val hf.simp hps _ _
          rw [hpp]
          lk
          refine We_comp ?_
          lk
          refine We_rowsE hc he fun nr hnr => ?_
          lk
          refine We_idxM (p := p) (he.get hnr) hr M.sm.r ?_
          lk
          refine operands_sp r fun no σ2 e2 l2 h2' => ?_
          refine We_compF (α := Opd) (enc := Opd.e) (L := r.ops) (f := fun o => some (valO s.temps tape s.log.length o)) (fun ρ => ∃ y, ρ = [y, some (.ref w)]) ⟨.list, by lia, fun σ' e => itl (e.get h2'), ⟨_, rfl⟩, fun o ho ρ σ' hz he' => ?_, fun nv σ3 e3 l3 h3 => ?_⟩
          · obtain ⟨y, hρ⟩ := hz
            subst hρ
            refine ⟨[some o.e, some (.ref w)], rfl, ⟨_, rfl⟩, ?_⟩
            lk
            refine value_sp o (hw.ext (e2.trans he')) (fun j hj => ?_) htl hpl (by lia) ?_
            · rw [hf.len]
              exact M.rd r hrm j (List.mem_filterMap.mpr ⟨o, ho, hj⟩)
            · lk
              exact ⟨Ext.refl, rfl⟩
          have h3 : σ3[nv]? = some (.list vs) := by rw [h3, ← hvs, ← List.filterMap_eq_map]; rfl
          have hvl : vs.length = r.ops.length := by rw [← hvs]; simp
          have hw3 := hw.ext (e2.trans e3)
          have he3 := he.trans (e2.trans e3)
          lk
          refine We_idxS hw3.d rfl ?_
          refine ⟨ty_list hw3.hl, ?_⟩
          lk
          refine We_repr h3 hvS (by lia) ?_
          lk
          refine Wap hw3.hl (by lia) ?_
          have hw4 := hw3.setL (l' := s.log ++ [.tup [.int (p : Nat), .str (shownL vs)]])
          have he4 := he3.set (n := nl) (o := .list (s.log ++ [.tup [.int (p : Nat), .str (shownL vs)]])) (by lia)
          have hnv : nl ≠ nv := by have := get_lt hw.hl; have := e2.len; lia
          have h4 := upd_ne' (o := .list (s.log ++ [.tup [.int (p : Nat), .str (shownL vs)]])) hnv h3
          generalize σ3.set nl (.list (s.log ++ [.tup [.int (p : Nat), .str (shownL vs)]])) = σ4 at hw4 he4 h4
          lk
          refine next_sp (p := p) hc hr he4 hw4 (by lia) htl (fun j hj => by rw [hf.len]; exact M.to r hrm j hj) (fun w j h h' => by rw [hf.len]; exact M.hd p w j h h') h4 hvl (by simp; lia) fun σ5 e5 hw5 => ?_
          rw [List.length_append, List.length_singleton] at hw5
          walk
          refine ⟨?_, e5, ?_, hf'⟩
          · rw [hturn, List.length_append]; exact ⟨_, rfl, rfl⟩
          · rw [hturn, hpp]; exact hw5
        · walk
          have h2 := of_decide_eq_false h2
          have h1 := of_decide_eq_true h1
          have : turnS C tape s = s := skip (by rw [if_pos h1, List.getElem?_eq_none (by lia)])
          rw [this] at hf' ⊢
          exact ⟨⟨_, rfl, rfl⟩, he, hw, hf'⟩
      · walk
        have h1 := of_decide_eq_false h1
        have : turnS C tape s = s := skip (by rw [if_neg h1])
        rw [this] at hf' ⊢
        exact ⟨⟨_, rfl, rfl⟩, he, hw, hf'⟩
    · intro ρ σ' hz
      try (show ‹R → H → Prop› _ _; refine Imp.ap ‹_› ?_)
      apply and4 hz; clear hz; intro hρ he hw hf
      rw [List.length_map, List.length_range] at hρ hw hf
      exact ⟨hρ, he, hw, hf⟩
  apply and4 hz; clear hz; intro hρ e1 hw1 f1
  apply fm2 hρ; intro x4 x5
  lk
  refine We_idxS hw1.d rfl ?_
  lk
  exact q nl σ1 e1 hw1.hl f1
theorem ren_cov (B : Nat → Nat) (t : Tr) (p : Nat) : (t.ren B).cov p = t.cov p := by cases t <;> rfl
theorem ren_to (B : Nat → Nat) (t : Tr) : (t.ren B).to = (t.to.1, t.to.2.map B) := by cases t <;> rfl
theorem ren_hdl (B : Nat → Nat) (T : List Tr) (p : Nat) : hdl (T.map (Tr.ren B)) p = (hdl T p).map fun w => (w.1, w.2.map B) := by
  unfold hdl
  rw [← List.map_reverse, List.find?_map]
  have : ((fun x => x.cov p) ∘ Tr.ren B) = fun x => x.cov p := by funext x; exact ren_cov B x p
  rw [this]
  cases T.reverse.find? (fun x => x.cov p) with
  | none => rfl
  | some t => simp [ren_to]
theorem Opd.ren_t (B : Nat → Nat) (o : Opd) : (o.ren B).t? = o.t?.map B := by induction o <;> rfl
theorem ren_op (B : Nat → Nat) (r : Row) : (r.ren B).op = r.op := by induction r <;> rfl
theorem ren_rto (B : Nat → Nat) (r : Row) : (r.ren B).to = r.to.map B := by induction r <;> rfl
theorem ren_ops (B : Nat → Nat) (r : Row) : (r.ren B).ops = r.ops.map (Opd.ren B) := by induction r <;> rfl
theorem ren_fall (B : Nat → Nat) (r : Row) : (r.ren B).fall = r.fall := by induction r <;> rfl
theorem ren_tgt (B : Nat → Nat) (r : Row) : (r.ren B).tgt = r.tgt := by induction r <;> rfl
theorem ren_given (B : Nat → Nat) (r : Row) (vs : List V) (k : Nat) : given (r.ren B) vs k = given r vs k := by induction r <;> rfl
theorem ren_rd (B : Nat → Nat) (r : Row) : (r.ren B).rd = r.rd.map B := by
  unfold Row.rd
  rw [ren_ops, List.filterMap_map, List.map_filterMap]
  congr 1
  funext o
  exact Opd.ren_t B o
theorem mx_lt {B : Nat → Nat} : ∀ (T : List Nat) (a : Nat), a ≤ T.foldl (fun a t => if a < B t + 1 then B t + 1 else a) a ∧ ∀ t ∈ T, B t < T.foldl (fun a t => if a < B t + 1 then B t + 1 else a) a
  | [], a => by simp
  | t :: r, a => by
    rw [List.foldl_cons]
    obtain ⟨h1, h2⟩ := mx_lt (B := B) r (if a < B t + 1 then B t + 1 else a)
    have h3 : a ≤ (if a < B t + 1 then B t + 1 else a) ∧ B t < (if a < B t + 1 then B t + 1 else a) := by split <;> lia
    refine ⟨Nat.le_trans h3.1 h1, fun u hu => ?_⟩
    rcases List.mem_cons.mp hu with rfl | hu
    · exact Nat.lt_of_lt_of_le h3.2 h1
    · exact h2 u hu
theorem hdl_mem {T : List Tr} {p : Nat} {w} (h : hdl T p = some w) : ∃ x ∈ T, x.cov p = true ∧ x.to = w := by
  unfold hdl at h
  obtain ⟨x, hx, rfl⟩ := Option.map_eq_some_iff.mp h
  exact ⟨x, by simpa using List.mem_of_find?_eq_some hx, by simpa using List.find?_some hx, rfl⟩
theorem hd_keep {C : Code} (W : C.Wf) {p j : Nat} {w : Nat × Option Nat} (h : hdl C.trys p = some w) (hj : w.2 = some j) : LvA C j p := by
  obtain ⟨x, hx, hc, rfl⟩ := hdl_mem h
  cases x with
  | cat => cases hj
  | fin f m l r =>
    have := W.fin f m l r hx
    simp [Tr.to] at hj
    subst hj
    simp [Tr.cov] at hc
    exact .inr (.inl ⟨_, hx, rfl, by lia, by lia⟩)
theorem hd_occ {C : Code} {p j : Nat} {w : Nat × Option Nat} (h : hdl C.trys p = some w) (hj : w.2 = some j) : Occ C j := by
  obtain ⟨x, hx, hc, rfl⟩ := hdl_mem h
  exact .inr (.inr (.inl ⟨x, hx, hj⟩))
theorem wy_hd {C : Code} {r : Row} {p : Nat} {w} (h : hdl C.trys p = some w) : w ∈ C.wy r p := by
  unfold Code.wy; rw [h]; simp
theorem wy_fall {C : Code} {r : Row} {p : Nat} (h : r.fall = true) : (p + 1, r.to) ∈ C.wy r p := by
  unfold Code.wy; rw [if_pos h]; simp
theorem wy_tgt {C : Code} {r : Row} {p t : Nat} (h : r.tgt = some t) : (t, r.to) ∈ C.wy r p := by
  unfold Code.wy; rw [h]; simp
theorem made_mw {C : Code} (W : C.Wf) {T B} (L : LeastC C T B) : MW (C.ren B (mx B T)) := by
  have hlt : ∀ t, Occ C t → B t < mx B T := fun t ht => (mx_lt T 0).2 t ((L.occ t).mpr ht)
  have hmx := mx_le (B := B) T 0 L.small (by lia)
  have := W.sm.rows
  have := W.sm.trys
  have := W.sm.lives
  refine ⟨⟨by simp [Code.ren]; lia, by simp [Code.ren]; lia, by simp [Code.ren]; lia, by show mx B T ≤ 100; unfold mx; lia⟩, fun r hr t ht => ?_, fun r hr t ht => ?_, fun p w j hw hj => ?_⟩
  · obtain ⟨r0, hr0, rfl⟩ := List.mem_map.mp hr
    rw [ren_rd] at ht
    obtain ⟨u, hu, rfl⟩ := List.mem_map.mp ht
    exact hlt u (.inr (.inl ⟨r0, hr0, hu⟩))
  · obtain ⟨r0, hr0, rfl⟩ := List.mem_map.mp hr
    rw [ren_rto] at ht
    obtain ⟨u, hu, rfl⟩ := Option.map_eq_some_iff.mp ht
    exact hlt u (.inl ⟨r0, hr0, hu⟩)
  · rw [show (C.ren B (mx B T)).trys = C.trys.map (Tr.ren B) from rfl, ren_hdl] at hw
    obtain ⟨w0, hw0, rfl⟩ := Option.map_eq_some_iff.mp hw
    obtain ⟨u, hu, rfl⟩ := Option.map_eq_some_iff.mp hj
    exact hlt u (hd_occ hw0 hu)
theorem orig_mw {C : Code} (W : C.Wf) (h5 : C.temps = 5) : MW C :=
  ⟨W.sm, fun r hr t ht => h5 ▸ W.rd r hr t ht, fun r hr t ht => h5 ▸ W.to r hr t ht, fun p w j hw hj => by
    obtain ⟨x, hx, hc, rfl⟩ := hdl_mem hw
    cases x with
    | cat => cases hj
    | fin f m l r => simp [Tr.to] at hj; subst hj; rw [h5]; exact (W.fin f m l _ hx).1⟩
structure Bis (C : Code) (B : Nat → Nat) (k : Nat) (s s' : St) : Prop where
  here : s'.here = s.here
  log : s'.log = s.log
  len : s.temps.length = 5
  len' : s'.temps.length = k
  at' : ∀ t p, s.here = (p : Nat) → Want C t p → s'.temps.getD (B t) .none = s.temps.getD t .none
theorem getD_setV {l : List V} {i j : Nat} {v : V} (h : i < l.length) : (l.set i v).getD j .none = if i = j then v else l.getD j .none := by
  rw [List.getD_eq_getElem?_getD, List.getD_eq_getElem?_getD]
  split
  · rename_i e; subst e; rw [List.getElem?_set_self h]; rfl
  · rename_i e; rw [List.getElem?_set_ne e]
theorem setO_bis {C : Code} {T B} (L : LeastC C T B) {temps temps' : List V} {o : Option Nat} {v : V} {t : Nat} (hl : temps.length = 5) (hl' : temps'.length = mx B T) (ht : Occ C t) (ho : ∀ j, o = some j → Occ C j)
    (h5 : ∀ t ∈ T, t < 5) (hcl : ∀ j, o = some j → j ≠ t → Clash C t j) (hat : o ≠ some t → temps'.getD (B t) .none = temps.getD t .none) : (setO temps' (o.map B) v).getD (B t) .none = (setO temps o v).getD t .none := by
  cases o with
  | none => exact hat (by simp)
  | some j =>
    have hjT := (L.occ j).mpr (ho j rfl)
    have htT := (L.occ t).mpr ht
    have hB := (mx_lt (B := B) T 0).2 j hjT
    show (temps'.set (B j) v).getD (B t) .none = (temps.set j v).getD t .none
    rw [getD_setV (by rw [hl']; exact hB), getD_setV (by rw [hl]; exact h5 j hjT)]
    by_cases e : j = t
    · subst e; simp
    · have : B j ≠ B t := Ne.symm (L.apart t htT j hjT (hcl j rfl e))
      rw [if_neg e, if_neg this]
      exact hat fun h => e (Option.some.inj h)
theorem turn_bis {C : Code} (W : C.Wf) {T B} (L : LeastC C T B) {tape : List V} {s s' : St} (h : Bis C B (mx B T) s s') : Bis C B (mx B T) (turnS C tape s) (turnS (C.ren B (mx B T)) tape s') := by
  obtain ⟨h1, h2, h3, h4, h5⟩ := h
  have hrow : (if 0 ≤ s'.here then (C.ren B (mx B T)).rows[s'.here.toNat]? else none) = (if 0 ≤ s.here then C.rows[s.here.toNat]? else none).map (Row.ren B) := by
    rw [h1]
    split
    · exact List.getElem?_map
    · rfl
  unfold turnS
  rw [hrow]
  cases hr0 : (if 0 ≤ s.here then C.rows[s.here.toNat]? else none) with
  | none => exact ⟨h1, h2, h3, h4, h5⟩
  | some r =>
    have hpos : 0 ≤ s.here := by
      apply Classical.byContradiction; intro hn; rw [if_neg hn] at hr0; cases hr0
    rw [if_pos hpos] at hr0
    obtain ⟨p, hpp⟩ := Int.eq_ofNat_of_zero_le hpos
    have hpn : s.here.toNat = p := by lia
    rw [hpn] at hr0
    have hrm := List.mem_of_getElem? hr0
    have hvs : (r.ren B).ops.map (valO s'.temps tape s'.log.length) = r.ops.map (valO s.temps tape s.log.length) := by
      rw [ren_ops, List.map_map]
      apply List.map_congr_left
      intro o ho
      cases o with
      | tmp j => exact h5 j p hpp (.here hr0 (List.mem_filterMap.mpr ⟨_, ho, rfl⟩))
      | cv j => rw [h2]; rfl
      | _ => rfl
    simp only [Option.map_some]
    rw [hvs, h2, h1, hpn]
    generalize r.ops.map (valO s.temps tape s.log.length) = vs
    generalize hk : (s.log ++ [V.tup [V.int s.here, V.str (shownL vs)]]).length = k
    have hstep : (stepN (C.ren B (mx B T)) (r.ren B) p vs k s'.temps).1 = (stepN C r p vs k s.temps).1 ∧ (stepN C r p vs k s.temps).2.length = 5 ∧ (stepN (C.ren B (mx B T)) (r.ren B) p vs k s'.temps).2.length = mx B T ∧
        ∀ t q, (stepN C r p vs k s.temps).1 = (q : Nat) → Want C t q → (stepN (C.ren B (mx B T)) (r.ren B) p vs k s'.temps).2.getD (B t) .none = (stepN C r p vs k s.temps).2.getD t .none := by
      have same : ∀ t q : Nat, (q, r.to) ∈ C.wy r p → r.to = none → Want C t q → s'.temps.getD (B t) .none = s.temps.getD t .none := by
        intro t q hw hn hW
        exact h5 t p hpp (.step hr0 hw (by rw [hn]; simp) hW)
      have gen : r.fall = true → (setO s.temps r.to (given r vs k)).length = 5 ∧ (setO s'.temps (r.to.map B) (given r vs k)).length = mx B T ∧
          ∀ t q : Nat, ((p + 1 : Nat) : Int) = (q : Nat) → Want C t q → (setO s'.temps (r.to.map B) (given r vs k)).getD (B t) .none = (setO s.temps r.to (given r vs k)).getD t .none := by
        intro hf
        refine ⟨setO_len.trans h3, setO_len.trans h4, fun t q hq hW => ?_⟩
        have hq : q = p + 1 := by lia
        subst hq
        refine setO_bis L h3 h4 hW.occ (fun j hj => .inl ⟨r, hrm, hj⟩) L.bd.2 (fun j hj hjt => ?_) (fun hne => h5 t p hpp (.step hr0 (wy_fall hf) hne hW))
        refine ⟨p, (List.getElem?_eq_some_iff.mp hr0).1, Ne.symm hjt, .inr ⟨r, hr0, p + 1, ?_, .inr ⟨hj, .inl hW⟩⟩⟩
        unfold Code.nx
        rw [mem_ded]
        refine .inr ⟨?_, hW.lt⟩
        unfold Row.cand
        rw [if_pos hf]; simp
      clear hvs
      induction r using Row.casesOn with
      | jmp t0 =>
        refine ⟨rfl, h3, h4, fun t q hq hW => ?_⟩
        have : t0 = q := by have : ((t0 : Nat) : Int) = (q : Nat) := hq; lia
        subst this
        exact same t t0 (wy_tgt rfl) rfl hW
      | jif x t0 =>
        refine ⟨rfl, h3, h4, fun t q hq hW => ?_⟩
        simp only [stepN] at hq
        split at hq
        · have : t0 = q := by lia
          subst this
          exact same t t0 (wy_tgt rfl) rfl hW
        · have : q = p + 1 := by lia
          subst this
          exact same t (p + 1) (wy_fall rfl) rfl hW
      | jnl x t0 =>
        refine ⟨rfl, h3, h4, fun t q hq hW => ?_⟩
        simp only [stepN] at hq
        split at hq
        · have : t0 = q := by lia
          subst this
          exact same t t0 (wy_tgt rfl) rfl hW
        · have : q = p + 1 := by lia
          subst this
          exact same t (p + 1) (wy_fall rfl) rfl hW
      | thr x =>
        simp only [stepN, Row.ren, show (C.ren B (mx B T)).trys = C.trys.map (Tr.ren B) from rfl, ren_hdl]
        cases hh : hdl C.trys p with
        | none =>
          refine ⟨rfl, h3, h4, fun t q hq hW => ?_⟩
          have : (-2 : Int) = (q : Nat) := hq
          lia
        | some w =>
          refine ⟨rfl, setO_len.trans h3, setO_len.trans h4, fun t q hq hW => ?_⟩
          have hq : w.1 = q := by have : ((w.1 : Nat) : Int) = (q : Nat) := hq; lia
          subst hq
          have hwt : w.2 ≠ some t → Want C t p := fun hne => .step hr0 (wy_hd hh) hne hW
          refine setO_bis L h3 h4 hW.occ (fun j hj => hd_occ hh hj) L.bd.2 (fun j hj hjt => ?_) (fun hne => h5 t p hpp (hwt hne))
          exact ⟨p, (List.getElem?_eq_some_iff.mp hr0).1, Ne.symm hjt, .inl ⟨.inl (hwt (by rw [hj]; exact fun e => hjt (Option.some.inj e))), hd_keep W hh hj⟩⟩
      | ret x =>
        refine ⟨rfl, h3, h4, fun t q hq hW => ?_⟩
        have : (-1 : Int) = (q : Nat) := hq
        lia
      | ech x => exact ⟨rfl, gen rfl⟩
      | arr t => exact ⟨rfl, gen rfl⟩
      | mov t x => exact ⟨rfl, gen rfl⟩
      | boo t x => exact ⟨rfl, gen rfl⟩
      | bin t x y => exact ⟨rfl, gen rfl⟩
      | elm t x => exact ⟨rfl, gen rfl⟩
      | wri t x y => exact ⟨rfl, gen rfl⟩
    exact ⟨hstep.1, rfl, hstep.2.1, hstep.2.2.1, hstep.2.2.2⟩
theorem run_bis {C : Code} (W : C.Wf) (h5 : C.temps = 5) {T B} (L : LeastC C T B) (tape : List V) : ∀ n, Bis C B (mx B T) (runS C tape n (ini C)) (runS (C.ren B (mx B T)) tape n (ini (C.ren B (mx B T))))
  | 0 => by
    refine ⟨rfl, rfl, by simp [runS, ini, h5], by simp [runS, ini, Code.ren], fun t p _ _ => ?_⟩
    have rep : ∀ n j : Nat, (List.replicate n V.none).getD j .none = .none := by
      intro n j; rw [List.getD_eq_getElem?_getD, List.getElem?_replicate]; split <;> rfl
    show (List.replicate _ _).getD _ _ = (List.replicate _ _).getD _ _
    rw [rep, rep]
  | n + 1 => turn_bis W L (run_bis W h5 L tape n)
structure LwV (σ : H) (n : Nat) (C : Code) : Prop where
  ex : ∃ ls : List Nat, σ[n]? = some (.list (ls.map V.ref)) ∧ ls.length = C.rows.length ∧ ∀ (p d : Nat), ls[p]? = some d → σ[d]? = some (.list (intsV (canon fun t => LvA C t p)))
theorem LwV.ext {σ σ' n C} (h : LwV σ n C) (e : Ext σ σ') : LwV σ' n C := by
  obtain ⟨ls, h1, h2, h3⟩ := h
  exact ⟨ls, e.get h1, h2, fun p d hd => e.get (h3 p d hd)⟩
theorem We_lw {σ n C} {Q : V → H → Prop} {p : Nat} (h : LwV σ n C) (sm : C.Sm) (hp : p < C.rows.length) (q : ∀ d, σ[d]? = some (.list (intsV (canon fun t => LvA C t p))) → Q (.ref d) σ) : We (vIdx (.ref n) (.int (p : Nat)) σ) Q := by
  obtain ⟨ls, h1, h2, h3⟩ := h
  have hp' : p < ls.length := by lia
  have := sm.rows
  exact We_idxM h1 (List.getElem?_eq_getElem hp') (by lia) (q _ (h3 p _ (List.getElem?_eq_getElem hp')))
theorem canon_has {C : Code} (W : C.Wf) {t p : Nat} : (canon fun t => LvA C t p).contains t = true ↔ LvA C t p := by
  rw [List.contains_iff_mem, canon_mem]
  refine ⟨fun h => h.2, fun h => ⟨?_, h⟩⟩
  rcases h.occ with ⟨r, hr, e⟩ | ⟨r, hr, e⟩ | ⟨x, hx, e⟩ | ⟨x, hx, e⟩
  · exact W.to r hr t e
  · exact W.rd r hr t e
  · cases x with
    | cat => cases e
    | fin f m l r => simp [Tr.to] at e; subst e; exact (W.fin f m l _ hx).1
  · exact e ▸ (W.liv x hx).1
theorem We_eqO {o : Option Nat} {t : Nat} {σ} {Q : V → H → Prop} (q : Q (.bool (decide (o = some t))) σ) : We (vEq (optV o) (.int (t : Nat)) σ) Q := by
  cases o with
  | none => exact We_eqN (by simpa using q)
  | some k =>
    refine We_eqI ?_
    have : ((k : Int) == (t : Int)) = decide (some k = some t) := by rw [Bool.eq_iff_iff]; simp; lia
    rw [this]; exact q
noncomputable def DoAt (C : Code) (p one other : Nat) : Prop := (LvA C one p ∧ LvA C other p) ∨ ∃ r, C.rows[p]? = some r ∧ ((r.to = some one ∧ LvA C other (p + 1)) ∨ (r.to = some other ∧ LvA C one (p + 1)))
theorem live_lt {C : Code} (W : C.Wf) {t p} (h : LvA C t p) : p < C.rows.length := by
  rcases h with h | ⟨x, hx, h⟩ | ⟨x, hx, h⟩
  · exact h.lt
  · cases x with
    | cat => exact absurd h (by simp [keepT])
    | fin f m l r => have := W.fin f m l r hx; have := h.2.2; lia
  · have := W.liv x hx; have := h.2.2; lia
theorem clash_do {C : Code} {p t x : Nat} (h : ClashAt C p t x) : DoAt C p t x := by
  obtain ⟨hne, h⟩ := h
  rcases h with h | ⟨r, hr, q, hq, h⟩
  · exact .inl h
  · have hq1 : r.to ≠ none → q = p + 1 := by
      intro hn
      unfold Code.nx at hq
      rw [mem_ded] at hq
      simp only [List.not_mem_nil, false_or] at hq
      have := hq.1
      unfold Row.cand at this
      have htg := r.to_tgt hn
      rw [htg] at this
      split at this <;> simp at this
      exact this
    rcases h with ⟨h1, h2⟩ | ⟨h1, h2⟩
    · have := hq1 (by rw [h1]; simp)
      subst this
      exact .inr ⟨r, hr, .inl ⟨h1, h2⟩⟩
    · have := hq1 (by rw [h1]; simp)
      subst this
      exact .inr ⟨r, hr, .inr ⟨h1, h2⟩⟩
theorem doclash_sp {C : Code} (W : C.Wf) {c nl one other : Nat} {σ} {Q : V → H → Prop} (hc : IsC σ c C) (hl : LwV σ nl C) (q : ∀ b σ', Ext σ σ' → (Clash C one other → b = true) → Q (.bool b) σ') :
    We (m_law_do_clash [.ref c, .ref nl, .int (one : Nat), .int (other : Nat)] σ) Q := by
  refine runE rfl rfl ?_
  have hr100 := W.sm.rows
  refine Wsc (fun ρ σ' => Ext σ σ' ∧ ¬ Clash C one other) ?_ fun ρ σ' hz => ?_
  · intro N' hN
    refine Ws_for' ?_
    lk
    refine We_rows hc fun nr hnr => ?_
    lk
    refine We_lenM hnr W.sm.r ?_
    lk
    refine We_rng1 (by lia) ?_
    refine ⟨.fix, (List.range C.rows.length).map fun i => V.int (i : Nat), fun i ρ σ' => Fm [some (.ref c), some (.ref nl), some (.int (one : Nat)), some (.int (other : Nat))] 3 ρ ∧ Ext σ σ' ∧ ∀ p, p < i → ¬ DoAt C p one other, ?_, ?_, ?_, ?_⟩
    · exact ⟨⟨_, rfl, rfl⟩, Ext.refl, by simp⟩
    · intro i ρ σ' _
      exact it_range0 W.sm.r
    · intro i x ρ σ' N' hN hx hz
      apply and3 hz; clear hz; intro hρ he hno
      apply fm3 hρ; intro x4 x5 x6
      rw [List.getElem?_map] at hx
      obtain ⟨p, hp', rfl⟩ := Option.map_eq_some_iff.mp hx
      obtain ⟨rfl, hp⟩ := range_get hp'
      obtain ⟨r, hr⟩ : ∃ r, C.rows[p]? = some r := ⟨_, List.getElem?_eq_getElem hp⟩
      lk
      have tail : ∀ (nb : Nat) (L : List Nat) (σ1 : H), Ext σ σ1 → σ1[nb]? = some (.list (intsV L)) → (∀ t, L.contains t = true ↔ LvA C t (p + 1)) →
          Wq (PS.wp (pWhen (pOr [pAnd [pB (p2 vIn (pV 2) (pI (pV 1) (pV 4))), pB (p2 vIn (pV 3) (pI (pV 1) (pV 4)))], pAnd [pB (p2 vEq (pV 5) (pV 2)), pB (p2 vIn (pV 3) (pV 6))]]) (pSeq (pRet (pC (.bool true))) pNil) pNil))
            (PS.wp (pCut (pWhen (pAnd [pB (p2 vEq (pV 5) (pV 3)), pB (p2 vIn (pV 2) (pV 6))]) (pSeq (pRet (pC (.bool true))) pNil) pNil) pNil))
            [some (.ref c), some (.ref nl), some (.int (one : Nat)), some (.int (other : Nat)), some (.int (p : Nat)), some (optV r.to), some (.ref nb)] σ1 N' Q := by
        intro nb L σ1 e1 hnb hL
        have fin : ¬ (LvA C one p ∧ LvA C other p) → ¬ (r.to = some one ∧ LvA C other (p + 1)) → ¬ (r.to = some other ∧ LvA C one (p + 1)) → ∀ p', p' < p + 1 → ¬ DoAt C p' one other := by
          intro g1 g2 g3 p' hp'
          by_cases hpp : p' < p
          · exact hno p' hpp
          · have : p' = p := by lia
            subst this
            rintro (h | ⟨r', hr', h | h⟩)
            · exact g1 h
            · rw [hr] at hr'; cases hr'; exact g2 h
            · rw [hr] at hr'; cases hr'; exact g3 h
        refine Wsc (fun ρ σ' => ρ = [some (.ref c), some (.ref nl), some (.int (one : Nat)), some (.int (other : Nat)), some (.int (p : Nat)), some (optV r.to), some (.ref nb)] ∧ σ' = σ1 ∧ ¬ (LvA C one p ∧ LvA C other p) ∧ ¬ (r.to = some one ∧ LvA C other (p + 1))) ?_ fun ρ σ2 hz => ?_
        · intro N' hN
          have close : ¬ (LvA C one p ∧ LvA C other p) → wOr [pAnd [pB (p2 vEq (pV 5) (pV 2)), pB (p2 vIn (pV 3) (pV 6))]] [some (.ref c), some (.ref nl), some (.int (one : Nat)), some (.int (other : Nat)), some (.int (p : Nat)), some (optV r.to), some (.ref nb)] σ1 (kIf (PS.wp (pSeq (pRet (pC (.bool true))) pNil)) (PS.wp pNil) [some (.ref c), some (.ref nl), some (.int (one : Nat)), some (.int (other : Nat)), some (.int (p : Nat)), some (optV r.to), some (.ref nb)] N' Q) := by
            intro g1
            lk
            refine We_eqO ?_
            lk
            refine cbo (fun g => ?_) fun g => ?_
            · have g := of_decide_eq_true g
              lk
              refine We_inN hnb ?_
              lk
              refine cbo (fun g2 => ?_) fun g2 => ?_
              · walk
                exact q true σ1 e1 fun _ => rfl
              · walk
                refine ⟨rfl, rfl, g1, fun h => ?_⟩
                rw [(hL _).mpr h.2] at g2; cases g2
            · have g := of_decide_eq_false g
              walk
              exact ⟨rfl, rfl, g1, fun h => g h.1⟩
          lk
          refine We_lw (hl.ext e1) W.sm hp fun d hd => ?_
          lk
          refine We_inN hd ?_
          lk
          refine cbo (fun g1 => ?_) fun g1 => ?_
          · have g1 := (canon_has W).mp g1
            lk
            refine We_lw (hl.ext e1) W.sm hp fun d hd => ?_
            lk
            refine We_inN hd ?_
            lk
            refine cbo (fun g2 => ?_) fun g2 => ?_
            · walk
              exact q true σ1 e1 fun _ => rfl
            · refine close fun h => ?_
              rw [(canon_has W).mpr h.2] at g2; cases g2
          · refine close fun h => ?_
            rw [(canon_has W).mpr h.1] at g1; cases g1
        apply and4 hz; clear hz; intro hρ hσ2 g1 g2
        subst hρ hσ2
        refine Wsq ?_
        walk
        refine We_eqO ?_
        lk
        refine cbo (fun g => ?_) fun g => ?_
        · have g := of_decide_eq_true g
          walk
          refine We_inN hnb ?_
          lk
          refine cbo (fun g3 => ?_) fun g3 => ?_
          · walk
            exact q true _ e1 fun _ => rfl
          · walk
            refine ⟨⟨_, rfl, rfl⟩, e1, fin g1 g2 fun h => ?_⟩
            rw [(hL _).mpr h.2] at g3; cases g3
        · have g := of_decide_eq_false g
          walk
          exact ⟨⟨_, rfl, rfl⟩, e1, fin g1 g2 fun h => g h.1⟩
      lk
      refine We_rowsE hc he fun nr hnr => ?_
      lk
      refine We_idxM (he.get hnr) hr W.sm.r ?_
      lk
      refine We_rowsE hc he fun nr hnr => ?_
      lk
      refine We_lenM (he.get hnr) W.sm.r ?_
      lk
      refine cbo (fun g => ?_) fun g => ?_
      · have g := of_decide_eq_true g
        have hp1 : p + 1 < C.rows.length := by lia
        lk
        refine We_lw (p := p + 1) (hl.ext he) W.sm hp1 fun d hd => ?_
        lk
        exact tail d _ _ he hd fun t => canon_has W
      · have g := of_decide_eq_false g
        lk
        exact tail _ [] _ he.snoc sng fun t => ⟨fun h => by simp at h, fun h => by have := live_lt W h; lia⟩
    · rintro ρ σ' ⟨_, he, hno⟩
      try (show ‹R → H → Prop› _ _; refine Imp.ap ‹_› ?_)
      rw [List.length_map, List.length_range] at hno
      refine ⟨he, fun ⟨p, hp, h⟩ => hno p hp (clash_do h)⟩
  · obtain ⟨e', hn⟩ := hz
    lk
    exact q false _ e' fun h => absurd h hn
theorem count_one {l : List Int} (h : l.Nodup) (x : Int) : l.count x ≤ 1 := by
  induction l with
  | nil => simp
  | cons a r ih =>
    obtain ⟨h1, h2⟩ := List.nodup_cons.mp h
    rw [List.count_cons]
    by_cases e : a = x
    · subst e
      rw [List.count_eq_zero_of_not_mem h1]; simp
    · have := ih h2
      simp [e]; exact this
theorem We_count {n : Nat} {l : List Int} {k : Int} {σ} {Q : V → H → Prop} (hn : σ[n]? = some (.list (l.map .int))) (q : Q (.int (l.count k : Nat)) σ) : We (vCount (.ref n) [.int k] σ) Q :=
  ⟨_, σ, by show oL σ[n]? _ = _; rw [hn]; show (intsOf _).bind _ = _; rw [intsOf_map]; rfl, q⟩
theorem map_nodup {B : Nat → Nat} {l : List Nat} (h : l.Nodup) (hB : ∀ t ∈ l, ∀ u ∈ l, t ≠ u → B t ≠ B u) : (l.map B).Nodup := by
  induction l with
  | nil => simp
  | cons a r ih =>
    obtain ⟨h1, h2⟩ := List.nodup_cons.mp h
    rw [List.map_cons, List.nodup_cons]
    refine ⟨fun hm => ?_, ih h2 fun t ht u hu => hB t (.tail _ ht) u (.tail _ hu)⟩
    obtain ⟨b, hb, e⟩ := List.mem_map.mp hm
    exact hB a (.head _) b (.tail _ hb) (fun e' => h1 (e' ▸ hb)) e.symm
theorem filterMap_none {α β} (l : List α) : l.filterMap (fun _ => (none : Option β)) = [] := by induction l <;> simp_all
theorem apart_sp {nb nl : Nat} {D L : List Nat} {B : Nat → Nat} {σ} {Q : V → H → Prop} (hb : σ[nb]? = some (.dictI (bookV D B))) (hl : σ[nl]? = some (.list (intsV L))) (hL : L.Nodup) (hB : ∀ t ∈ L, ∀ u ∈ L, t ≠ u → B t ≠ B u) (hD : ∀ t ∈ L, t ∈ D) (hlen : L.length ≤ 100)
    (q : ∀ σ', Ext σ σ' → Q (.bool true) σ') : We (m_law_are_apart [.ref nb, .ref nl] σ) Q := by
  refine runE rfl rfl ?_
  lk
  refine We_comp ?_
  lk
  refine We_compF (α := Nat) (enc := fun k => V.int (k : Nat)) (L := L) (f := fun t => some (V.int (B t : Nat))) (fun ρ => ∃ x, ρ = [x, some (.ref nb)]) ⟨.list, by lia, fun σ' e => itl (e.get hl), ⟨_, rfl⟩, fun t ht ρ σ' hz he => ?_, fun nn σ1 e1 l1 h1 => ?_⟩
  · obtain ⟨x, hρ⟩ := hz
    subst hρ
    refine ⟨[some (.int (t : Nat)), some (.ref nb)], rfl, ⟨_, rfl⟩, ?_⟩
    lk
    refine We_idxD (he.get hb) (look_map (hD t ht)) ?_
    lk
    exact ⟨Ext.refl, rfl⟩
  have h1' : σ1[nn]? = some (.list (((L.map B).map fun k : Nat => (k : Int)).map V.int)) := by
    rw [h1, List.map_map, List.map_map, ← List.filterMap_eq_map]; rfl
  have hnd := cast_nodup (map_nodup hL hB)
  lk
  refine We_comp ?_
  lk
  refine We_compF (α := Int) (enc := V.int) (L := (L.map B).map fun k : Nat => (k : Int)) (f := fun _ => none) (fun ρ => ∃ x, ρ = [x, some (.ref nn)]) ⟨.list, by simp; lia, fun σ' e => itl (e.get h1'), ⟨_, rfl⟩, fun t ht ρ σ' hz he => ?_, fun nm σ2 e2 l2 h2 => ?_⟩
  · obtain ⟨x, hρ⟩ := hz
    subst hρ
    refine ⟨[some (.int t), some (.ref nn)], rfl, ⟨_, rfl⟩, ?_⟩
    lk
    refine ⟨ty_list (he.get h1'), ?_⟩
    lk
    refine We_count (he.get h1') ?_
    lk
    have := count_one hnd t
    refine c_f (decide_eq_false (by lia)) ?_
    lk
    exact ⟨Ext.refl, rfl⟩
  rw [filterMap_none] at h2
  lk
  refine We_len h2 (Nat.le_of_ble_eq_true rfl) ?_
  lk
  exact q _ (e1.trans e2)
noncomputable def pE (B : Nat → Nat) (t : Nat) : V := .tup [.int (t : Nat), .int (B t : Nat)]
theorem range_bind {α β} {g : α → Option β} : ∀ (l : List α), (List.range l.length).filterMap (fun k => (l[k]?).bind g) = l.filterMap g
  | [] => rfl
  | a :: r => by
    rw [List.length_cons, List.range_succ_eq_map, List.filterMap_cons, List.filterMap_cons, List.filterMap_map]
    have ih := range_bind (g := g) r
    have : (fun k => ((a :: r)[k]?).bind g) ∘ Nat.succ = fun k => (r[k]?).bind g := by funext k; simp
    rw [this, ih]
    rfl
noncomputable def occR (r : Row) : List Nat := r.to.toList ++ r.rd
noncomputable def occs (C : Code) : List Nat := C.rows.flatMap occR ++ C.trys.filterMap (·.to.2) ++ C.lives.map (·.t)
theorem mem_occs {C : Code} {t : Nat} : t ∈ occs C ↔ Occ C t := by
  unfold occs Occ occR
  simp only [List.mem_append, List.mem_flatMap, List.mem_filterMap, List.mem_map, Option.mem_toList, Option.mem_def]
  constructor
  · rintro ((⟨r, hr, h | h⟩ | ⟨x, hx, h⟩) | ⟨x, hx, h⟩)
    · exact .inl ⟨r, hr, h⟩
    · exact .inr (.inl ⟨r, hr, h⟩)
    · exact .inr (.inr (.inl ⟨x, hx, h⟩))
    · exact .inr (.inr (.inr ⟨x, hx, h⟩))
  · rintro (⟨r, hr, h⟩ | ⟨r, hr, h⟩ | ⟨x, hx, h⟩ | ⟨x, hx, h⟩)
    · exact .inl (.inl ⟨r, hr, .inl h⟩)
    · exact .inl (.inl ⟨r, hr, .inr h⟩)
    · exact .inl (.inr ⟨x, hx, h⟩)
    · exact .inr ⟨x, hx, h⟩
theorem occR_len (r : Row) : (occR r).length ≤ 3 := by
  have h1 := opt_le r.to
  have h2 : r.rd.length ≤ 2 := Nat.le_trans (List.length_filterMap_le _ _) r.hops
  unfold occR
  rw [List.length_append]; lia
theorem occs_len1 : ∀ l : List Row, (l.flatMap occR).length ≤ 3 * l.length
  | [] => by simp
  | r :: l => by
    have := occs_len1 l
    have := occR_len r
    rw [List.flatMap_cons, List.length_append, List.length_cons]; lia
theorem opd_tmp {o : Opd} {j : Nat} (h : o.t? = some j) : o = .tmp j := by cases o <;> simp [Opd.t?] at h; subst h; rfl
theorem pairs_sp {C : Code} (W : C.Wf) {B : Nat → Nat} {k : Nat} {c c' : Nat} {σ} {Q : V → H → Prop} (hc : IsC σ c C) (hc' : IsC σ c' (C.ren B k)) (q : QL σ ((occs C).map (pE B)) Q) : We (m_law_pairs [.ref c, .ref c'] σ) Q := by
  refine runE rfl rfl ?_
  have hr100 := W.sm.rows
  have ht10 := W.sm.trys
  have hl10 := W.sm.lives
  lk
  refine Wsc (fun ρ σ' => Fm [some (.ref c), some (.ref c'), some (.ref σ.length)] 6 ρ ∧ Ext σ σ' ∧ σ'[σ.length]? = some (.list ((C.rows.flatMap occR).map (pE B)))) ?_ fun ρ σ1 hz => ?_
  · intro N' hN
    refine Ws_for' ?_
    lk
    refine We_rowsE hc Ext.one fun nr hnr => ?_
    lk
    refine We_lenM (Ext.one.get hnr) W.sm.r ?_
    lk
    refine We_rng1 (by lia) ?_
    refine ⟨.fix, (List.range C.rows.length).map fun i => V.int (i : Nat), fun i ρ σ' => Fm [some (.ref c), some (.ref c'), some (.ref σ.length)] 6 ρ ∧ Ext σ σ' ∧ σ'[σ.length]? = some (.list (((C.rows.take i).flatMap occR).map (pE B))), ?_, ?_, ?_, ?_⟩
    · exact ⟨⟨_, rfl, rfl⟩, Ext.one, sng⟩
    · intro i ρ σ' _
      exact it_range0 W.sm.r
    · intro i x ρ σ' N' hN hx hz
      apply and3 hz; clear hz; intro hρ he hl
      apply fm6 hρ; intro x3 x4 x5 x6 x7 x8
      rw [List.getElem?_map] at hx
      obtain ⟨p, hp', rfl⟩ := Option.map_eq_some_iff.mp hx
      obtain ⟨rfl, hp⟩ := range_get hp'
      obtain ⟨r, hr⟩ : ∃ r, C.rows[p]? = some r := ⟨_, List.getElem?_eq_getElem hp⟩
      have hr' : (C.ren B k).rows[p]? = some (r.ren B) := by
        show (C.rows.map (Row.ren B))[p]? = _
        rw [List.getElem?_map, hr]; rfl
      have hlen := occs_len1 (C.rows.take p)
      have hlt : (C.rows.take p).length ≤ 100 := by rw [List.length_take]; lia
      lk
      rw [tsn hr, List.flatMap_append, List.flatMap_cons, List.flatMap_nil, List.append_nil, List.map_append] at hN
      lk
      refine We_rowsE hc he fun n1 hn1 => ?_
      lk
      refine We_idxM (he.get hn1) hr W.sm.r ?_
      lk
      refine We_rowsE hc' he fun n2 hn2 => ?_
      lk
      refine We_idxM (he.get hn2) hr' hc'.sm.r ?_
      lk
      refine Wsc (fun ρ σ2 => ρ = [some (.ref c), some (.ref c'), some (.ref σ.length), some (.int (p : Nat)), some r.e, some (r.ren B).e, x6, x7, x8] ∧ Ext σ σ2 ∧ σ2[σ.length]? = some (.list (((C.rows.take p).flatMap occR).map (pE B) ++ r.to.toList.map (pE B)))) ?_ fun ρ σ2 hz => ?_
      · intro N' hN
        have hto : (r.ren B).to = r.to.map B := ren_rto B r
        walk
        refine We_niN (optV_none _) ?_
        lk
        refine cbo (fun hf => ?_) fun hf => ?_
        · obtain ⟨j, hj⟩ : ∃ j, r.to = some j := by cases h : r.to <;> simp [h] at hf ⊢
          walk
          refine ⟨ty_list hl, ?_⟩
          walk
          refine Wap hl (by rw [List.length_map]; lia) ?_
          walk
          refine ⟨rfl, he.set (Nat.le_refl _), ?_⟩
          rw [upg hl, hto, hj]; rfl
        · have hj : r.to = none := by cases h : r.to <;> simp [h] at hf ⊢
          walk
          refine ⟨rfl, he, ?_⟩
          rw [hl, hj]; simp
      apply and3 hz; clear hz; intro hρ e2 h2
      subst hρ
      lk
      refine operands_sp r fun no σ3 e3 l3 h3 => ?_
      lk
      refine operands_sp (r.ren B) fun no' σ4 e4 l4 h4 => ?_
      have h3 := e4.get h3
      have h2' := (e3.trans e4).get h2
      rw [ren_ops] at h4
      have he4 := e2.trans (e3.trans e4)
      have hops := r.hops
      lk
      refine ⟨ty_list h2', ?_⟩
      lk
      refine We_comp ?_
      lk
      refine We_lenM h3 (by lia) ?_
      lk
      refine We_rng1 (by lia) ?_
      refine We_compF (α := Nat) (enc := fun k => V.int (k : Nat)) (L := List.range r.ops.length) (f := fun k => (r.ops[k]?).bind fun o => o.t?.map (pE B)) (fun ρ => ∃ x, ρ = [x, some (.ref no), some (.ref no')]) ⟨.fix, by simp; lia, fun σ' _ => it_range0 (by lia), ⟨_, rfl⟩, fun i hi ρ σ' hz he' => ?_, fun ne σ5 e5 l5 h5 => ?_⟩
      · obtain ⟨x, hρ⟩ := hz
        subst hρ
        have hi := List.mem_range.mp hi
        obtain ⟨o, ho⟩ : ∃ o, r.ops[i]? = some o := ⟨_, List.getElem?_eq_getElem hi⟩
        rw [List.map_map] at h4
        refine ⟨[some (.int (i : Nat)), some (.ref no), some (.ref no')], rfl, ⟨_, rfl⟩, ?_⟩
        lk
        refine We_idxM (he'.get h3) ho (by lia) ?_
        cases hot : o.t? with
        | some j =>
          have := opd_tmp hot
          subst this
          lk
          refine We_idxM (he'.get h3) ho (by lia) ?_
          lk
          refine We_idxM (he'.get h4) ho (by lia) ?_
          lk
          refine ⟨Ext.refl, ?_⟩
          show (r.ops[i]?).bind _ = _
          rw [ho]; rfl
        | none =>
          have hne : (o.hd == [116, 109, 112]) = false := by cases o <;> first | rfl | (simp [Opd.t?] at hot)
          have hoo : okS o.hd = true := by cases o <;> rfl
          lk
          refine We_eqS hoo rfl hne ?_
          lk
          refine ⟨Ext.refl, ?_⟩
          show (r.ops[i]?).bind _ = _
          rw [ho]; simp [hot]
      rw [range_bind] at h5
      have h5 : σ5[ne]? = some (.list (r.rd.map (pE B))) := by
        rw [h5]; unfold Row.rd; rw [List.map_filterMap]
      lk
      have h2'' := e5.get h2'
      have hne : σ.length ≠ ne := by have := get_lt h2'; lia
      have hrd : r.rd.length ≤ 2 := Nat.le_trans (List.length_filterMap_le _ _) hops
      have hto1 := opt_le r.to
      refine We_extend h2'' h5 hne (by rw [List.length_append, List.length_map, List.length_map, List.length_map]; lia) ?_
      walk
      refine ⟨⟨_, rfl, rfl⟩, (he4.trans e5).set (Nat.le_refl _), ?_⟩
      rw [upg h2'']
      unfold occR
      rw [List.map_append, List.append_assoc]
    · intro ρ σ' hz
      try (show ‹R → H → Prop› _ _; refine Imp.ap ‹_› ?_)
      apply and3 hz; clear hz; intro hρ he hl
      rw [List.length_map, List.length_range, List.take_length] at hl
      exact ⟨hρ, he, hl⟩
  apply and3 hz; clear hz; intro hρ e1 h1
  apply fm6 hρ; intro x3 x4 x5 x6 x7 x8
  have hlen1 := occs_len1 C.rows
  refine Wsc (fun ρ σ' => Fm [some (.ref c), some (.ref c'), some (.ref σ.length)] 6 ρ ∧ Ext σ σ' ∧ σ'[σ.length]? = some (.list ((C.rows.flatMap occR ++ C.trys.filterMap (·.to.2)).map (pE B)))) ?_ fun ρ σ2 hz => ?_
  · intro N' hN
    refine Ws_for' ?_
    lk
    refine We_trysE hc e1 fun nr hnr => ?_
    lk
    refine We_lenM (e1.get hnr) W.sm.t ?_
    lk
    refine We_rng1 (by lia) ?_
    refine ⟨.fix, (List.range C.trys.length).map fun i => V.int (i : Nat), fun i ρ σ' => Fm [some (.ref c), some (.ref c'), some (.ref σ.length)] 6 ρ ∧ Ext σ σ' ∧ σ'[σ.length]? = some (.list ((C.rows.flatMap occR ++ (C.trys.take i).filterMap (·.to.2)).map (pE B))), ?_, ?_, ?_, ?_⟩
    · exact ⟨⟨_, rfl, rfl⟩, e1, by simpa using h1⟩
    · intro i ρ σ' _
      exact it_range0 W.sm.t
    · intro i x ρ σ' N' hN hx hz
      apply and3 hz; clear hz; intro hρ he hl
      apply fm6 hρ; intro x3 x4 x5 x6 x7 x8
      rw [List.getElem?_map] at hx
      obtain ⟨p, hp', rfl⟩ := Option.map_eq_some_iff.mp hx
      obtain ⟨rfl, hp⟩ := range_get hp'
      obtain ⟨t, ht⟩ : ∃ r, C.trys[p]? = some r := ⟨_, List.getElem?_eq_getElem hp⟩
      have ht' : (C.ren B k).trys[p]? = some (t.ren B) := by
        show (C.trys.map (Tr.ren B))[p]? = _
        rw [List.getElem?_map, ht]; rfl
      have hlen2 : ((C.trys.take p).filterMap (·.to.2)).length ≤ 10 := by
        have := List.length_filterMap_le (fun x : Tr => x.to.2) (C.trys.take p)
        rw [List.length_take] at this; lia
      lk
      rw [tsn ht, List.filterMap_append, ← List.append_assoc] at hN
      refine Wsq ?_
      walk
      refine We_trysE hc he fun n1 hn1 => ?_
      walk
      refine We_idxM (he.get hn1) ht W.sm.t ?_
      cases t with
      | cat f m e =>
        walk
        refine ⟨⟨_, rfl, rfl⟩, he, ?_⟩
        rw [hl]; simp [Tr.to]
      | fin f m l j =>
        walk
        refine ⟨ty_list hl, ?_⟩
        walk
        refine We_trysE hc he fun n1 hn1 => ?_
        walk
        refine We_idxM (he.get hn1) ht W.sm.t ?_
        walk
        refine We_trysE hc' he fun n2 hn2 => ?_
        walk
        refine We_idxM (he.get hn2) ht' hc'.sm.t ?_
        unfold Tr.ren Tr.e
        walk
        refine Wap hl (by rw [List.length_map, List.length_append]; lia) ?_
        walk
        refine ⟨⟨_, rfl, rfl⟩, he.set (Nat.le_refl _), ?_⟩
        rw [upg hl]
        simp [Tr.to, pE]
    · intro ρ σ' hz
      try (show ‹R → H → Prop› _ _; refine Imp.ap ‹_› ?_)
      apply and3 hz; clear hz; intro hρ he hl
      rw [List.length_map, List.length_range, List.take_length] at hl
      exact ⟨hρ, he, hl⟩
  apply and3 hz; clear hz; intro hρ e2 h2
  apply fm6 hρ; intro x3 x4 x5 x6 x7 x8
  have hlen2 : (C.trys.filterMap (·.to.2)).length ≤ 10 := by
    have := List.length_filterMap_le (fun x : Tr => x.to.2) C.trys
    lia
  lk
  refine We_comp ?_
  lk
  refine We_livesE hc e2 fun nr hnr => ?_
  lk
  refine We_lenM (e2.get hnr) W.sm.l ?_
  lk
  refine We_rng1 (by lia) ?_
  refine We_compF (α := Nat) (enc := fun k => V.int (k : Nat)) (L := List.range C.lives.length) (f := fun k => (C.lives[k]?).bind fun x => some (pE B x.t)) (fun ρ => ∃ x, ρ = [x, some (.ref c), some (.ref c')]) ⟨.fix, by simp; lia, fun σ' _ => it_range0 (by lia), ⟨_, rfl⟩, fun i hi ρ σ' hz he => ?_, fun ne σ3 e3 l3 h3 => ?_⟩
  · obtain ⟨x, hρ⟩ := hz
    subst hρ
    have hi := List.mem_range.mp hi
    obtain ⟨x, hx⟩ : ∃ x, C.lives[i]? = some x := ⟨_, List.getElem?_eq_getElem hi⟩
    have hx' : (C.ren B k).lives[i]? = some (x.ren B) := by
      show (C.lives.map (Live.ren B))[i]? = _
      rw [List.getElem?_map, hx]; rfl
    refine ⟨[some (.int (i : Nat)), some (.ref c), some (.ref c')], rfl, ⟨_, rfl⟩, ?_⟩
    lk
    refine We_livesE hc (e2.trans he) fun n1 hn1 => ?_
    lk
    refine We_idxM ((e2.trans he).get hn1) hx W.sm.l ?_
    lk
    refine We_livesE hc' (e2.trans he) fun n2 hn2 => ?_
    lk
    refine We_idxM ((e2.trans he).get hn2) hx' hc'.sm.l ?_
    unfold Live.ren Live.e
    lk
    exact ⟨Ext.refl, by rw [hx]; rfl⟩
  rw [range_bind] at h3
  have h3 : σ3[ne]? = some (.list ((C.lives.map (·.t)).map (pE B))) := by
    rw [h3, List.map_map, ← List.filterMap_eq_map]; rfl
  lk
  refine We_addL (e3.get h2) h3 (by simp only [List.length_map, List.length_append]; lia) ?_
  rw [← List.map_append]
  exact q.here (e2.trans e3)
noncomputable def Pu (k : Nat) (v : V) : Prop := ∃ d, (∀ n σ, toD (n + k) σ v = some d) ∧ d.canLay0 = true
theorem Pu.up {k v} (h : Pu k v) (m : Nat) : Pu (k + m) v := by
  obtain ⟨d, a, b⟩ := h
  refine ⟨d, fun n σ => ?_, b⟩
  have := a (n + m) σ
  rwa [Nat.add_assoc, Nat.add_comm m k] at this
theorem pu_int (i : Int) : Pu 1 (.int i) := ⟨_, fun _ _ => rfl, rfl⟩
theorem pu_none : Pu 1 .none := ⟨_, fun _ _ => rfl, rfl⟩
theorem pu_str {l : List Nat} (h : okS l = true) : Pu 1 (.str l) := ⟨_, fun _ _ => rfl, lay_str h⟩
theorem pu_list {k : Nat} : ∀ {vs : List V}, (∀ v ∈ vs, Pu k v) → ∃ ds, (∀ n σ, toDs (toD (n + k) σ) vs = some ds) ∧ PyData.canLayAll0 ds = true
  | [], _ => ⟨[], fun _ _ => rfl, rfl⟩
  | v :: r, h => by
    obtain ⟨ds, a, b⟩ := pu_list (vs := r) fun x hx => h x (.tail _ hx)
    obtain ⟨d, a', b'⟩ := h v (.head _)
    exact ⟨d :: ds, fun n σ => by simp only [toDs, a, a'], by rw [PyData.canLayAll0, b, b']; rfl⟩
theorem pu_tup {k : Nat} {vs : List V} (h : ∀ v ∈ vs, Pu k v) : Pu (k + 1) (.tup vs) := by
  obtain ⟨ds, a, b⟩ := pu_list h
  exact ⟨.tuple ds, fun n σ => toD_tup (a n σ), by rw [PyData.canLay0]; exact b⟩
theorem pu_opd (o : Opd) : Pu 2 o.e := ⟨o.d, fun n σ => o.toD, o.lay⟩
theorem pu_optV (o : Option Nat) : Pu 1 (optV o) := by cases o; exact pu_none; exact pu_int _
theorem pu_a (r : Row) : Pu 9 r.a := by
    induction r <;> first
      | exact pu_none.up 8
      | exact (pu_opd _).up 7
      | exact (pu_tup (k := 2) (vs := [_, _]) (by intro v hv; simp at hv; rcases hv with rfl | rfl <;> exact pu_opd _)).up 6
      | skip
    refine (pu_tup (k := 3) ?_).up 5
    intro v hv
    simp only [List.mem_cons, List.not_mem_nil, or_false] at hv
    rcases hv with rfl | rfl | rfl
    · exact (pu_str rfl).up 2
    · refine pu_tup (k := 2) ?_
      intro v hv
      simp only [List.mem_cons, List.not_mem_nil, or_false] at hv
      rcases hv with rfl | rfl
      · exact (pu_str rfl).up 1
      · exact pu_opd _
    · exact (pu_opd _).up 1
theorem pu_b (r : Row) : Pu 9 r.b := by
    induction r <;> first
      | exact pu_none.up 8
      | exact (pu_int _).up 8
      | exact (pu_str rfl).up 8
      | exact (pu_opd _).up 7
theorem pu_row (r : Row) : Pu 10 r.e := by
  have hop : Pu 9 (.str r.op) := (pu_str r.okop).up 8
  have hto : Pu 9 (optV r.to) := (pu_optV _).up 8
  have ha := pu_a r
  have hb := pu_b r
  refine pu_tup (k := 9) ?_
  intro v hv
  simp only [List.mem_cons, List.not_mem_nil, or_false] at hv
  rcases hv with rfl | rfl | rfl | rfl <;> assumption
theorem list_same {n m : Nat} {vs : List V} {σ : H} (h1 : σ[n]? = some (.list vs)) (h2 : σ[m]? = some (.list vs)) (hp : ∀ v ∈ vs, Pu 10 v) : ∃ d, toD 16 σ (.ref n) = some d ∧ toD 16 σ (.ref m) = some d ∧ d.canLay0 = true := by
  obtain ⟨ds, a, b⟩ := pu_list hp
  exact ⟨.list ds, toD_list h1 (a 5 σ), toD_list h2 (a 5 σ), by rw [PyData.canLay0]; exact b⟩
theorem We_neSame {n m : Nat} {vs : List V} {σ : H} {Q : V → H → Prop} (h1 : σ[n]? = some (.list vs)) (h2 : σ[m]? = some (.list vs)) (hp : ∀ v ∈ vs, Pu 10 v) (q : Q (.bool false) σ) : We (vNe (.ref n) (.ref m) σ) Q := by
  obtain ⟨d, a, b, c⟩ := list_same h1 h2 hp
  exact We_neR a b c q
theorem We_eqSame {n m : Nat} {vs : List V} {σ : H} {Q : V → H → Prop} (h1 : σ[n]? = some (.list vs)) (h2 : σ[m]? = some (.list vs)) (hp : ∀ v ∈ vs, Pu 10 v) (q : Q (.bool true) σ) : We (vEq (.ref n) (.ref m) σ) Q := by
  obtain ⟨d, a, b, c⟩ := list_same h1 h2 hp
  exact We_eqR a b c q
theorem pu_ints (l : List Nat) : ∀ v ∈ intsV l, Pu 10 v := by
  intro v hv
  obtain ⟨k, _, rfl⟩ := List.mem_map.mp hv
  exact (pu_int _).up 9
theorem We_eqL {n m : Nat} {l : List Nat} {σ} {Q : V → H → Prop} (hn : σ[n]? = some (.list (intsV l))) (hm : σ[m]? = some (.list [])) (q : Q (.bool l.isEmpty) σ) : We (vEq (.ref n) (.ref m) σ) Q := by
  obtain ⟨v, σ', e, p⟩ := We_neL (Q := fun v σ' => v = .bool !l.isEmpty ∧ σ' = σ) hn hm ⟨rfl, rfl⟩
  obtain ⟨rfl, rfl⟩ := p
  unfold vNe at e
  refine ⟨_, _, ?_, q⟩
  unfold vEq
  cases h : eqB σ' (.ref n) (.ref m) with
  | none => rw [h] at e; cases e
  | some b =>
    rw [h] at e
    have : (!b) = !l.isEmpty := by injection e with e; injection e with e _; injection e
    have : b = l.isEmpty := by cases b <;> cases hl : l.isEmpty <;> simp_all
    rw [this]
theorem pairsV_map (B : Nat → Nat) : ∀ l : List Nat, pairsV (l.map (pE B)) = some (l.map fun t : Nat => ((t : Int), V.int (B t : Nat)))
  | [] => rfl
  | a :: r => by show pair1 (pE B a) (pairsV (r.map (pE B))) = _; rw [pairsV_map B r]; rfl
theorem put_book (B : Nat → Nat) (t : Nat) : ∀ D : List Nat, put (bookV D B) (t : Int) (.int (B t : Nat)) = bookV (addS D t) B
  | [] => by simp [bookV, put, addS]
  | a :: r => by
    have ih := put_book B t r
    unfold bookV at ih ⊢
    rw [List.map_cons, put]
    by_cases h : a = t
    · subst h
      rw [if_pos rfl]; simp [addS]
    · rw [if_neg (by lia), ih]
      unfold addS
      have : t ∈ a :: r ↔ t ∈ r := by
        rw [List.mem_cons]; constructor
        · rintro (e | e); exact absurd e.symm h; exact e
        · exact .inr
      by_cases hk : t ∈ r
      · rw [if_pos hk, if_pos (this.mpr hk)]; simp
      · rw [if_neg hk, if_neg (fun e => hk (this.mp e))]; simp
theorem putAll_book (B : Nat → Nat) : ∀ (l D : List Nat), putAll (bookV D B) (l.map fun t : Nat => ((t : Int), V.int (B t : Nat))) = bookV (l.foldl addS D) B
  | [], D => rfl
  | a :: r, D => by
    have := putAll_book B r (addS D a)
    unfold putAll at this ⊢
    rw [List.map_cons, List.foldl_cons, List.foldl_cons, put_book, this]
theorem We_dictOf {n : Nat} {l : List Nat} {B : Nat → Nat} {σ} {Q : V → H → Prop} (hn : σ[n]? = some (.list (l.map (pE B)))) (hl : l.length ≤ 1000) (q : Q (.ref σ.length) (σ ++ [.dictI (bookV (l.foldl addS []) B)])) : We (vDictOf [.ref n] σ) Q := by
  refine ⟨_, _, ?_, q⟩
  show oL σ[n]? _ = _
  rw [hn]
  show (pairsV _).bind _ = _
  rw [pairsV_map]
  show (if _ then some (V.ref σ.length, σ ++ [MO.dictI (putAll [] _)]) else none) = _
  rw [if_pos (by rw [List.length_map]; exact hl)]
  have := putAll_book B l []
  rw [show bookV [] B = [] from rfl] at this
  rw [this]
theorem We_vals {n : Nat} {kvs} {σ} {Q : V → H → Prop} (hn : σ[n]? = some (.dictI kvs)) (q : Q (.vals n) σ) : We (vVals (.ref n) [] σ) Q := ⟨_, σ, by show oI σ[n]? _ = _; rw [hn]; rfl, q⟩
theorem isort_range (n : Nat) : isort ((List.range n).map fun k : Nat => (k : Int)) = (List.range n).map fun k : Nat => (k : Int) := by
  refine strict_ext (isort_strict (cast_nodup List.nodup_range)) ?_ fun x => isort_mem x _
  rw [List.pairwise_map]
  have : (List.range n).Pairwise (· < ·) := List.pairwise_lt_range
  exact this.imp fun h => by lia
theorem We_sortedR {n m : Nat} {σ} {Q : V → H → Prop} (hn : σ[n]? = some (.list (intsV (List.range m)))) (hm : m ≤ 60) (q : Q (.ref σ.length) (σ ++ [.list (intsV (List.range m))])) : We (vSorted [.ref n] σ) Q := by
  rw [intsV_eq] at hn
  refine ⟨_, _, ?_, q⟩
  show oLI σ[n]? _ _ = _
  rw [hn]
  show (intsOf _).bind _ = _
  rw [intsOf_map]
  show (if _ then some (V.ref σ.length, σ ++ [MO.list _]) else none) = _
  rw [if_pos (by simp; lia), isort_range, ← intsV_eq]
theorem LeastC.all {C T B} (L : LeastC C T B) {j : Nat} (hj : j < mx B T) : ∃ t ∈ T, B t = j := by
  have key : ∀ (l : List Nat) (a : Nat), (∀ t ∈ l, t ∈ T) → j < l.foldl (fun a t => if a < B t + 1 then B t + 1 else a) a → j < a ∨ ∃ t ∈ T, B t = j := by
    intro l
    induction l with
    | nil => intro a _ h; exact .inl h
    | cons t r ih =>
      intro a hT h
      rw [List.foldl_cons] at h
      rcases ih _ (fun u hu => hT u (.tail _ hu)) h with h | h
      · split at h
        · have htT := hT t (.head _)
          by_cases e : j = B t
          · exact .inr ⟨t, htT, e.symm⟩
          · obtain ⟨o, ho, _, e⟩ := L.least t htT j (by lia)
            exact .inr ⟨o, ho, e⟩
        · exact .inl h
      · exact .inr h
  rcases key T 0 (fun t ht => ht) hj with h | h
  · lia
  · exact h
theorem We_vTake {vs : List V} {b : Nat} {σ} {Q : V → H → Prop} (h : b < vs.length ∧ vs.length ≤ 1000) (q : Q (.tup (vs.take b)) σ) : We (vTake b (.tup vs) σ) Q := ⟨_, σ, if_pos h, q⟩
theorem We_vDrop {vs : List V} {b : Nat} {σ} {Q : V → H → Prop} (h : 1 ≤ b ∧ b ≤ vs.length ∧ vs.length ≤ 1000) (q : Q (.tup (vs.drop b)) σ) : We (vDrop b (.tup vs) σ) Q := ⟨_, σ, if_pos h, q⟩
noncomputable def Tr.e4 : Tr → V
  | .cat f c e => .tup [.int f, .int c, .none, .int e]
  | .fin f m l _ => .tup [.int f, .none, .int m, .int l]
noncomputable def Live.e3 (x : Live) : V := .tup [.int x.f, .int x.b, .str [99, 97, 108, 108]]
theorem pu_e4 (t : Tr) : Pu 10 t.e4 := by
  refine (pu_tup (k := 1) (vs := match t with | .cat f c e => [.int f, .int c, .none, .int e] | .fin f m l _ => [.int f, .none, .int m, .int l]) ?_).up 8 |> fun h => by cases t <;> exact h
  cases t <;> (intro v hv; simp only [List.mem_cons, List.not_mem_nil, or_false] at hv; rcases hv with rfl | rfl | rfl | rfl <;> first | exact pu_int _ | exact pu_none)
theorem pu_e3 (x : Live) : Pu 10 x.e3 := by
  refine (pu_tup (k := 1) ?_).up 8
  intro v hv
  simp only [List.mem_cons, List.not_mem_nil, or_false] at hv
  rcases hv with rfl | rfl | rfl
  · exact pu_int _
  · exact pu_int _
  · exact pu_str rfl
theorem bd_nodup {l : List Nat} {P : Nat → Prop} : (canon P).Nodup := bd_canon.1
theorem joined_is {C : Code} (W : C.Wf) {T B} (L : LeastC C T B) {c c' nl : Nat} {σ} {Q : V → H → Prop} (hc : IsC σ c C) (hc' : IsC σ c' (C.ren B (mx B T))) (hl : LwV σ nl C) (q : ∀ σ', Ext σ σ' → Q (.bool true) σ') :
    We (m_law_is_joined [.ref c, .ref c', .ref nl] σ) Q := by
  refine runE rfl rfl ?_
  have hr100 := W.sm.rows
  have ht10 := W.sm.trys
  have hl10 := W.sm.lives
  have hmx := mx_le (B := B) T 0 L.small (by lia)
  have hmx : mx B T ≤ 6 := hmx
  refine Wsc (fun ρ σ' => ρ = [some (.ref c), some (.ref c'), some (.ref nl), none, none, none, none, none, none] ∧ σ' = σ) ?_ fun ρ σ' hz => ?_
  · intro N' hN
    walk
    refine We_rows hc' fun n1 h1 => ?_
    walk
    refine We_lenM h1 hc'.sm.r ?_
    walk
    refine We_rows hc fun n2 h2 => ?_
    walk
    refine We_lenM h2 W.sm.r ?_
    walk
    refine c_f (by simp [Code.ren]) ?_
    walk
    refine We_trys hc' fun n1 h1 => ?_
    walk
    refine We_lenM h1 hc'.sm.t ?_
    walk
    refine We_trys hc fun n2 h2 => ?_
    walk
    refine We_lenM h2 W.sm.t ?_
    walk
    refine c_f (by simp [Code.ren]) ?_
    walk
    refine We_lives hc' fun n1 h1 => ?_
    walk
    refine We_lenM h1 hc'.sm.l ?_
    walk
    refine We_lives hc fun n2 h2 => ?_
    walk
    refine We_lenM h2 W.sm.l ?_
    walk
    refine c_f (by simp [Code.ren]) ?_
    walk
    exact ⟨rfl, rfl⟩
  obtain ⟨hρ, hσ⟩ := hz
  subst hρ hσ
  lk
  refine pairs_sp W hc hc' fun np σ1 e1 l1 h1 => ?_
  have holen : (occs C).length ≤ 500 := by
    have g1 := occs_len1 C.rows
    have g2 := List.length_filterMap_le (fun x : Tr => x.to.2) C.trys
    unfold occs
    simp only [List.length_append, List.length_map]; lia
  lk
  refine We_dictOf h1 (by lia) ?_
  generalize hD : (occs C).foldl addS [] = D
  have hDm : ∀ t, t ∈ D ↔ Occ C t := by intro t; rw [← hD, mem_foldAdd, mem_occs]; simp
  have hDT : ∀ t, t ∈ D ↔ t ∈ T := fun t => (hDm t).trans (L.occ t).symm
  have hDnd : D.Nodup := hD ▸ nodup_foldAdd _ _ .nil
  have hDl : D.length ≤ 5 := by
    have := sub_len (b := List.range 5) hDnd fun x hx => List.mem_range.mpr (L.bd.2 x ((hDT x).mp hx))
    simpa using this
  have hb : (σ1 ++ [MO.dictI (bookV D B)])[σ1.length]? = some (.dictI (bookV D B)) := sng
  have h1' := sno (o := .dictI (bookV D B)) h1
  have e1' := e1.snoc (o := .dictI (bookV D B))
  generalize σ1.length = nb at hb
  generalize σ1 ++ [MO.dictI (bookV D B)] = σ2 at hb h1' e1'
  lk
  refine Wsc (fun ρ σ' => ρ = [some (.ref c), some (.ref c'), some (.ref nl), some (.ref np), some (.ref nb), none, none, none, none] ∧ Ext σ2 σ') ?_ fun ρ σ3 hz => ?_
  · intro N' hN
    walk
    refine We_comp ?_
    walk
    refine We_compF (α := Nat) (enc := pE B) (L := occs C) (f := fun _ => none) (fun ρ => ∃ x, ρ = [x, some (.ref nb)]) ⟨.list, by lia, fun σ' e => itl (e.get h1'), ⟨_, rfl⟩, fun t ht ρ σ' hz he => ?_, fun nn σ3 e3 l3 h3 => ?_⟩
    · obtain ⟨x, hρ⟩ := hz
      subst hρ
      refine ⟨[some (pE B t), some (.ref nb)], rfl, ⟨_, rfl⟩, ?_⟩
      unfold pE
      walk
      refine We_idxD (he.get hb) (look_map ((hDm t).mpr (mem_occs.mp ht))) ?_
      walk
      refine c_f (by simp) ?_
      lk
      exact ⟨Ext.refl, rfl⟩
    rw [filterMap_none] at h3
    walk
    refine We_neL (l := []) (sno h3) sng ?_
    walk
    exact ⟨rfl, e3.snoc⟩
  obtain ⟨hρ, e3⟩ := hz
  subst hρ
  refine Wsc (fun ρ σ' => ρ = [some (.ref c), some (.ref c'), some (.ref nl), some (.ref np), some (.ref nb), none, none, none, none] ∧ Ext σ2 σ') ?_ fun ρ σ4 hz => ?_
  · intro N' hN
    walk
    refine We_comp ?_
    walk
    refine We_temps (hc'.ext (e1'.trans e3)) ?_
    walk
    refine We_rng1 (by show ((mx B T : Nat) : Int) ≤ _ ∧ _ ≤ ((mx B T : Nat) : Int); lia) ?_
    refine We_compF (α := Nat) (enc := fun k => V.int (k : Nat)) (L := List.range (mx B T)) (f := fun k => some (V.int (k : Nat))) (fun ρ => ∃ x, ρ = [x, some (.ref nb)]) ⟨.fix, by simp; lia, fun σ' _ => it_range0 (b := mx B T) (by lia), ⟨_, rfl⟩, fun k hk ρ σ' hz he => ?_, fun nn σ4 e4 l4 h4 => ?_⟩
    · obtain ⟨x, hρ⟩ := hz
      subst hρ
      have hk := List.mem_range.mp hk
      refine ⟨[some (.int (k : Nat)), some (.ref nb)], rfl, ⟨_, rfl⟩, ?_⟩
      walk
      have hb' := (e3.trans he).get hb
      refine ⟨ty_dict hb', ?_⟩
      walk
      refine We_vals hb' ?_
      refine We_inVals (l := (D.map B).map fun k : Nat => (k : Int)) hb' (by simp [bookV, Function.comp_def]) ?_
      lk
      rw [contains_cast]
      obtain ⟨t, ht, hBt⟩ := L.all hk
      refine c_t ?_ ?_
      · rw [List.contains_iff_mem]; exact List.mem_map.mpr ⟨t, (hDT t).mpr ht, hBt⟩
      · walk
        exact ⟨Ext.refl, rfl⟩
    have h4 : σ4[nn]? = some (.list (intsV (List.range (mx B T)))) := by rw [h4, List.filterMap_eq_map']; rfl
    walk
    refine We_sortedR h4 (by lia) ?_
    walk
    refine We_temps (hc'.ext (e1'.trans (e3.trans e4.snoc))) ?_
    walk
    refine We_rng1 (by show ((mx B T : Nat) : Int) ≤ _ ∧ _ ≤ ((mx B T : Nat) : Int); lia) ?_
    walk
    refine We_listOf (it_range0 (b := mx B T) (by lia)) (by simp; lia) ?_
    refine We_neSame (vs := intsV (List.range (mx B T))) (sno sng) sng (pu_ints _) ?_
    walk
    exact ⟨rfl, e3.trans (e4.snoc.snoc)⟩
  obtain ⟨hρ, e4⟩ := hz
  subst hρ
  refine Wsc (fun ρ σ' => ρ = [some (.ref c), some (.ref c'), some (.ref nl), some (.ref np), some (.ref nb), none, none, none, none] ∧ Ext σ2 σ') ?_ fun ρ σ5 hz => ?_
  · intro N' hN
    walk
    have hb' := e4.get hb
    refine We_comp ?_
    walk
    refine ⟨ty_dict hb', ?_⟩
    walk
    refine We_vals hb' ?_
    refine We_compF (α := Nat) (enc := fun t => V.int (B t : Nat)) (L := D) (f := fun _ => none) (fun ρ => ∃ x, ρ = [x, some (.ref c')]) ⟨.vals, by lia, fun σ' e => by rw [it_vals (e.get hb')]; simp [bookV], ⟨_, rfl⟩, fun t ht ρ σ' hz he => ?_, fun nn σ5 e5 l5 h5 => ?_⟩
    · obtain ⟨x, hρ⟩ := hz
      subst hρ
      refine ⟨[some (.int (B t : Nat)), some (.ref c')], rfl, ⟨_, rfl⟩, ?_⟩
      walk
      refine We_temps (hc'.ext (e1'.trans (e4.trans he))) ?_
      walk
      have hBt := (mx_lt (B := B) T 0).2 t ((hDT t).mp ht)
      have hdec : decide (((B t : Nat) : Int) < ((C.ren B (mx B T)).temps : Int)) = true := decide_eq_true (by show ((B t : Nat) : Int) < ((mx B T : Nat) : Int); have : B t < mx B T := hBt; lia)
      rw [hdec]
      refine c_false ?_
      lk
      exact ⟨Ext.refl, rfl⟩
    rw [filterMap_none] at h5
    walk
    refine We_neL (l := []) (sno h5) sng ?_
    walk
    exact ⟨rfl, e4.trans e5.snoc⟩
  obtain ⟨hρ, e5⟩ := hz
  subst hρ
  have hkn : ∀ t, Occ C t → Knows (bookV D B) B t := fun t ht => look_map ((hDm t).mpr ht)
  have hKn : ∀ r ∈ C.rows, Kn (bookV D B) B r := by
    intro r hr
    refine ⟨fun o ho k hk => hkn k (.inr (.inl ⟨r, hr, ?_⟩)), fun k hk => hkn k (.inl ⟨r, hr, hk⟩)⟩
    unfold Row.rd
    exact List.mem_filterMap.mpr ⟨o, ho, hk⟩
  refine Wsc (fun ρ σ' => ρ = [some (.ref c), some (.ref c'), some (.ref nl), some (.ref np), some (.ref nb), none, none, none, none] ∧ Ext σ2 σ') ?_ fun ρ σ6 hz => ?_
  · intro N' hN
    walk
    refine We_rowsE hc' (e1'.trans e5) fun n1 hn1 => ?_
    walk
    refine We_comp ?_
    walk
    refine We_rowsE hc (e1'.trans e5) fun nr hnr => ?_
    refine We_compF (α := Row) (enc := Row.e) (L := C.rows) (f := fun r => some (r.ren B).e) (fun ρ => ∃ x, ρ = [x, some (.ref nb)]) ⟨.list, by lia, fun σ' e => itl ((e1'.trans (e5.trans e)).get hnr), ⟨_, rfl⟩, fun r hr ρ σ' hz he => ?_, fun nrows σ6 e6 l6 h6 => ?_⟩
    · obtain ⟨x, hρ⟩ := hz
      subst hρ
      refine ⟨[some r.e, some (.ref nb)], rfl, ⟨_, rfl⟩, ?_⟩
      walk
      refine newrow_sp r ((e5.trans he).get hb) (hKn r hr) fun σ'' e => ?_
      lk
      exact ⟨e, rfl⟩
    have h6 : σ6[nrows]? = some (.list ((C.rows.map (Row.ren B)).map Row.e)) := by
      rw [h6, List.map_map, ← List.filterMap_eq_map]; rfl
    have e06 := e1'.trans (e5.trans e6)
    refine We_neSame (vs := (C.rows.map (Row.ren B)).map Row.e) (e06.get hn1) h6 (fun v hv => by obtain ⟨r, _, rfl⟩ := List.mem_map.mp hv; exact pu_row r) ?_
    walk
    refine We_namesE hc' e06 fun n2 hn2 => ?_
    walk
    refine We_namesE hc e06 fun n3 hn3 => ?_
    refine We_neSame (e06.get hn2) (e06.get hn3) (fun v hv => by simp at hv; rcases hv with rfl | rfl <;> exact (pu_str rfl).up 9) ?_
    walk
    exact ⟨rfl, e5.trans e6⟩
  obtain ⟨hρ, e6⟩ := hz
  subst hρ
  refine Wsc (fun ρ σ' => ρ = [some (.ref c), some (.ref c'), some (.ref nl), some (.ref np), some (.ref nb), none, none, none, none] ∧ Ext σ2 σ') ?_ fun ρ σ7 hz => ?_
  · intro N' hN
    walk
    refine We_comp ?_
    walk
    refine We_trysE hc' (e1'.trans e6) fun nr hnr => ?_
    refine We_compF (α := Tr) (enc := Tr.e) (L := C.trys.map (Tr.ren B)) (f := fun t => some t.e4) (fun ρ => ∃ x, ρ = [x]) ⟨.list, by simp; lia, fun σ' e => itl ((e1'.trans (e6.trans e)).get hnr), ⟨_, rfl⟩, fun t ht ρ σ' hz he => ?_, fun n1 σ7 e7 l7 h7 => ?_⟩
    · obtain ⟨x, hρ⟩ := hz
      subst hρ
      refine ⟨[some t.e], rfl, ⟨_, rfl⟩, ?_⟩
      cases t <;> (walk) <;> (refine We_vTake (by simp) ?_) <;> (walk) <;> exact ⟨Ext.refl, rfl⟩
    refine We_comp ?_
    walk
    refine We_trysE hc (e1'.trans (e6.trans e7)) fun nr hnr => ?_
    refine We_compF (α := Tr) (enc := Tr.e) (L := C.trys) (f := fun t => some t.e4) (fun ρ => ∃ x, ρ = [x]) ⟨.list, by lia, fun σ' e => itl ((e1'.trans (e6.trans (e7.trans e))).get hnr), ⟨_, rfl⟩, fun t ht ρ σ' hz he => ?_, fun n2 σ8 e8 l8 h8 => ?_⟩
    · obtain ⟨x, hρ⟩ := hz
      subst hρ
      refine ⟨[some t.e], rfl, ⟨_, rfl⟩, ?_⟩
      cases t <;> (walk) <;> (refine We_vTake (by simp) ?_) <;> (walk) <;> exact ⟨Ext.refl, rfl⟩
    have h7 : σ7[n1]? = some (.list (C.trys.map Tr.e4)) := by
      rw [h7, List.filterMap_map, ← List.filterMap_eq_map]
      congr 3; funext t; cases t <;> rfl
    have h8 : σ8[n2]? = some (.list (C.trys.map Tr.e4)) := by rw [h8, ← List.filterMap_eq_map]; rfl
    refine We_neSame (e8.get h7) h8 (fun v hv => by obtain ⟨r, _, rfl⟩ := List.mem_map.mp hv; exact pu_e4 r) ?_
    walk
    exact ⟨rfl, e6.trans (e7.trans e8)⟩
  obtain ⟨hρ, e7⟩ := hz
  subst hρ
  refine Wsc (fun ρ σ' => ρ = [some (.ref c), some (.ref c'), some (.ref nl), some (.ref np), some (.ref nb), none, none, none, none] ∧ Ext σ2 σ') ?_ fun ρ σ8 hz => ?_
  · intro N' hN
    walk
    refine We_comp ?_
    walk
    refine We_livesE hc' (e1'.trans e7) fun nr hnr => ?_
    refine We_compF (α := Live) (enc := Live.e) (L := C.lives.map (Live.ren B)) (f := fun t => some t.e3) (fun ρ => ∃ x, ρ = [x]) ⟨.list, by simp; lia, fun σ' e => itl ((e1'.trans (e7.trans e)).get hnr), ⟨_, rfl⟩, fun t ht ρ σ' hz he => ?_, fun n1 σ9 e9 l9 h9 => ?_⟩
    · obtain ⟨x, hρ⟩ := hz
      subst hρ
      refine ⟨[some t.e], rfl, ⟨_, rfl⟩, ?_⟩
      walk
      refine We_vDrop (by simp) ?_
      walk
      exact ⟨Ext.refl, rfl⟩
    refine We_comp ?_
    walk
    refine We_livesE hc (e1'.trans (e7.trans e9)) fun nr hnr => ?_
    refine We_compF (α := Live) (enc := Live.e) (L := C.lives) (f := fun t => some t.e3) (fun ρ => ∃ x, ρ = [x]) ⟨.list, by lia, fun σ' e => itl ((e1'.trans (e7.trans (e9.trans e))).get hnr), ⟨_, rfl⟩, fun t ht ρ σ' hz he => ?_, fun n2 σ10 e10 l10 h10 => ?_⟩
    · obtain ⟨x, hρ⟩ := hz
      subst hρ
      refine ⟨[some t.e], rfl, ⟨_, rfl⟩, ?_⟩
      walk
      refine We_vDrop (by simp) ?_
      walk
      exact ⟨Ext.refl, rfl⟩
    have h9 : σ9[n1]? = some (.list (C.lives.map Live.e3)) := by
      rw [h9, List.filterMap_map, ← List.filterMap_eq_map]; rfl
    have h10 : σ10[n2]? = some (.list (C.lives.map Live.e3)) := by rw [h10, ← List.filterMap_eq_map]; rfl
    refine We_neSame (e10.get h9) h10 (fun v hv => by obtain ⟨r, _, rfl⟩ := List.mem_map.mp hv; exact pu_e3 r) ?_
    walk
    exact ⟨rfl, e7.trans (e9.trans e10)⟩
  obtain ⟨hρ, e8⟩ := hz
  subst hρ
  have livD : ∀ {t p}, LvA C t p → t ∈ D := fun h => (hDm _).mpr h.occ
  have livB : ∀ {t u p}, LvA C t p → LvA C u p → t ≠ u → B t ≠ B u := fun {t u p} h1 h2 hne => L.apart t ((L.occ t).mpr h1.occ) u ((L.occ u).mpr h2.occ) ⟨p, live_lt W h1, hne, .inl ⟨h1, h2⟩⟩
  refine Wsc (fun ρ σ' => Fm [some (.ref c), some (.ref c'), some (.ref nl), some (.ref np), some (.ref nb)] 4 ρ ∧ Ext σ2 σ') ?_ fun ρ σ9 hz => ?_
  · intro N' hN
    refine Ws_for' ?_
    lk
    refine We_rowsE hc (e1'.trans e8) fun nr hnr => ?_
    lk
    refine We_lenM ((e1'.trans e8).get hnr) W.sm.r ?_
    lk
    refine We_rng1 (by lia) ?_
    refine ⟨.fix, (List.range C.rows.length).map fun i => V.int (i : Nat), fun i ρ σ' => Fm [some (.ref c), some (.ref c'), some (.ref nl), some (.ref np), some (.ref nb)] 4 ρ ∧ Ext σ2 σ', ?_, ?_, ?_, ?_⟩
    · exact ⟨⟨_, rfl, rfl⟩, e8⟩
    · intro i ρ σ' _
      exact it_range0 W.sm.r
    · rintro i x ρ σ' N' hN hx ⟨hρ, he⟩
      apply fm4 hρ; intro x5 x6 x7 x8
      rw [List.getElem?_map] at hx
      obtain ⟨p, hp', rfl⟩ := Option.map_eq_some_iff.mp hx
      obtain ⟨rfl, hp⟩ := range_get hp'
      obtain ⟨r, hr⟩ : ∃ r, C.rows[p]? = some r := ⟨_, List.getElem?_eq_getElem hp⟩
      lk
      refine We_rowsE hc (e1'.trans he) fun nr hnr => ?_
      lk
      refine We_idxM ((e1'.trans he).get hnr) hr W.sm.r ?_
      lk
      refine Wsc (fun ρ σ' => ρ = [some (.ref c), some (.ref c'), some (.ref nl), some (.ref np), some (.ref nb), some (.int (p : Nat)), some (optV r.to), x7, x8] ∧ Ext σ2 σ') ?_ fun ρ σ10 hz => ?_
      · intro N' hN
        walk
        refine We_lw (hl.ext (e1'.trans he)) W.sm hp fun d hd => ?_
        walk
        refine apart_sp (he.get hb) hd bd_canon.1 (fun t ht u hu hne => livB (canon_mem.mp ht).2 (canon_mem.mp hu).2 hne) (fun t ht => livD (canon_mem.mp ht).2) (by have := (bd_canon (P := fun t => LvA C t p)).len; lia) fun σ10 e10 => ?_
        walk
        exact ⟨rfl, he.trans e10⟩
      obtain ⟨hρ, e10⟩ := hz
      subst hρ
      refine Wsq ?_
      walk
      refine We_niN (optV_none _) ?_
      lk
      refine cbo (fun hf => ?_) fun hf => ?_
      · obtain ⟨j, hj⟩ : ∃ j, r.to = some j := by cases h : r.to <;> simp [h] at hf ⊢
        rw [hj]
        walk
        refine We_rowsE hc (e1'.trans e10) fun nr hnr => ?_
        walk
        refine We_lenM ((e1'.trans e10).get hnr) W.sm.r ?_
        walk
        refine cbo (fun h2 => ?_) fun h2 => ?_
        · have h2 := of_decide_eq_true h2
          have hp1 : p + 1 < C.rows.length := by lia
          walk
          refine We_comp ?_
          walk
          refine We_lw (p := p + 1) (hl.ext (e1'.trans e10)) W.sm hp1 fun d hd => ?_
          have hcl := (bd_canon (P := fun t => LvA C t (p + 1))).len
          refine We_compF (α := Nat) (enc := fun k => V.int (k : Nat)) (L := canon fun t => LvA C t (p + 1)) (f := fun t => if t = j then none else some (V.int (t : Nat))) (fun ρ => ∃ x, ρ = [x, some (.int (j : Nat))]) ⟨.list, by lia, fun σ' e => itl (e.get hd), ⟨_, rfl⟩, fun t ht ρ σ' hz he => ?_, fun n1 σ11 e11 l11 h11 => ?_⟩
          · obtain ⟨x, hρ⟩ := hz
            subst hρ
            refine ⟨[some (.int (t : Nat)), some (.int (j : Nat))], rfl, ⟨_, rfl⟩, ?_⟩
            walk
            by_cases e : t = j
            · refine c_f (by simp [e]) ?_
              walk
              exact ⟨Ext.refl, if_pos e⟩
            · refine c_t (by simp; lia) ?_
              walk
              exact ⟨Ext.refl, if_neg e⟩
          have h11 : σ11[n1]? = some (.list (intsV ((canon fun t => LvA C t (p + 1)).filter fun t => decide (t ≠ j)))) := by
            rw [h11]
            unfold intsV
            rw [← List.filterMap_eq_map, ← List.filterMap_eq_filter, List.filterMap_filterMap]
            congr 3
            funext t
            by_cases e : t = j <;> simp [e, Option.guard]
          walk
          have hfl : ((canon fun t => LvA C t (p + 1)).filter fun t => decide (t ≠ j)).length ≤ 5 := Nat.le_trans (List.length_filter_le _ _) hcl
          refine We_addL (us := intsV [j]) (sno h11) sng (by rw [ivl, ivl, List.length_singleton]; lia) ?_
          rw [← intsV_app]
          walk
          have hpF : ∀ t, LvA C t (p + 1) → t ≠ j → B j ≠ B t := by
            intro t ht hne
            have hfall := r.to_fall hj
            refine L.apart j ((L.occ j).mpr (.inl ⟨r, List.mem_of_getElem? hr, hj⟩)) t ((L.occ t).mpr ht.occ) ⟨p, hp, Ne.symm hne, .inr ⟨r, hr, p + 1, ?_, .inl ⟨hj, ht⟩⟩⟩
            unfold Code.nx
            rw [mem_ded]
            refine .inr ⟨?_, hp1⟩
            unfold Row.cand
            rw [if_pos hfall]; simp
          have hmem : ∀ t, t ∈ ((canon fun t => LvA C t (p + 1)).filter fun t => decide (t ≠ j)) ++ [j] → (LvA C t (p + 1) ∧ t ≠ j) ∨ t = j := by
            intro t ht
            rcases List.mem_append.mp ht with ht | ht
            · rw [List.mem_filter] at ht
              exact .inl ⟨(canon_mem.mp ht.1).2, of_decide_eq_true ht.2⟩
            · exact .inr (by simpa using ht)
          refine apart_sp ((e10.trans e11).snoc.snoc.get hb) sng ?_ ?_ ?_ (by rw [List.length_append, List.length_singleton]; lia) fun σ12 e12 => ?_
          · rw [List.nodup_append]
            refine ⟨bd_canon.1.filter _, by simp, fun a ha b hb => ?_⟩
            simp at hb; subst hb
            rw [List.mem_filter] at ha
            exact of_decide_eq_true ha.2
          · intro t ht u hu hne
            rcases hmem t ht with ⟨h1, h2⟩ | h1
            · rcases hmem u hu with ⟨h3, h4⟩ | h3
              · exact livB h1 h3 hne
              · rw [h3]; exact Ne.symm (hpF t h1 h2)
            · rcases hmem u hu with ⟨h3, h4⟩ | h3
              · rw [h1]; exact hpF u h3 h4
              · exact absurd (h1.trans h3.symm) hne
          · intro t ht
            rcases hmem t ht with ⟨h1, h2⟩ | h1
            · exact livD h1
            · exact (hDm t).mpr (.inl ⟨r, List.mem_of_getElem? hr, h1 ▸ hj⟩)
          · walk
            exact ⟨⟨_, rfl, rfl⟩, ((e10.trans e11).snoc.snoc).trans e12⟩
        · walk
          exact ⟨⟨_, rfl, rfl⟩, e10⟩
      · walk
        exact ⟨⟨_, rfl, rfl⟩, e10⟩
    · intro ρ σ' h
      try (show ‹R → H → Prop› _ _; refine Imp.ap ‹_› ?_)
      exact h
  obtain ⟨hρ, e9⟩ := hz
  apply fm4 hρ; intro x5 x6 x7 x8
  refine Wsc (fun ρ σ' => Fm [some (.ref c), some (.ref c'), some (.ref nl), some (.ref np), some (.ref nb)] 4 ρ ∧ Ext σ2 σ') ?_ fun ρ σ10 hz => ?_
  · intro N' hN
    refine Ws_for' ?_
    lk
    have hkeys : ∀ σ', Ext σ2 σ' → itemsOf (.ref nb) σ' = some (.dict, intsV D) := fun σ' e => by rw [it_dict (e.get hb)]; simp [bookV, intsV, Function.comp_def]
    refine ⟨.dict, intsV D, fun i ρ σ' => Fm [some (.ref c), some (.ref c'), some (.ref nl), some (.ref np), some (.ref nb)] 4 ρ ∧ Ext σ2 σ', ⟨⟨_, rfl, rfl⟩, e9⟩, fun i ρ σ' h => hkeys σ' h.2, ?_, fun ρ σ' h => hN.ap h⟩
    rintro i x ρ σ' N' hN hx ⟨hρ, he⟩
    apply fm4 hρ; intro x5 x6 x7 x8
    obtain ⟨t, ht, rfl⟩ := intsV_get hx
    have htD := List.mem_of_getElem? ht
    have htT := (hDT t).mp htD
    have hBt5 := L.small t htT
    lk
    refine Wsq ?_
    refine Ws_for' ?_
    lk
    refine We_idxD (he.get hb) (look_map htD) ?_
    lk
    refine We_rng1 (by lia) ?_
    refine ⟨.fix, (List.range (B t)).map fun i => V.int (i : Nat), fun i ρ σ' => (∃ x8, ρ = [some (.ref c), some (.ref c'), some (.ref nl), some (.ref np), some (.ref nb), x5, x6, some (.int (t : Nat)), x8]) ∧ Ext σ2 σ', ⟨⟨_, rfl⟩, he⟩, fun i ρ σ' _ => it_range0 (by lia), ?_, ?_⟩
    · rintro i x ρ σ' N' hN hx ⟨⟨x8, hρ⟩, he⟩
      subst hρ
      rw [List.getElem?_map] at hx
      obtain ⟨j, hj', rfl⟩ := Option.map_eq_some_iff.mp hx
      obtain ⟨rfl, hj⟩ := range_get hj'
      obtain ⟨o, hoT, hco, hBo⟩ := L.least t htT j hj
      have hoD := (hDT o).mpr hoT
      obtain ⟨io, hio, hio'⟩ := List.getElem_of_mem hoD
      walk
      refine We_comp ?_
      walk
      refine ⟨.dict, intsV D, by rw [ivl]; lia, fun i acc ρ σ' => (∃ y, ρ = [y, some (.int (j : Nat)), some (.ref c), some (.ref nl), some (.int (t : Nat)), some (.ref nb)]) ∧ Ext σ2 σ' ∧ ∃ l : List Nat, acc = intsV l ∧ (io < i → l ≠ []), ?_, ?_, ?_, ?_⟩
      · exact ⟨⟨_, rfl⟩, he, [], rfl, fun h => absurd h (by lia)⟩
      · intro i acc ρ σ' h
        exact hkeys σ' h.2.1
      · rintro i x acc ρ σ' J hJ hx ⟨⟨y, hρ⟩, he, l, hacc, hne⟩
        subst hρ hacc
        obtain ⟨u, hu, rfl⟩ := intsV_get hx
        have huD := List.mem_of_getElem? hu
        refine oR_i (ρ := [some (.int (u : Nat)), some (.int (j : Nat)), some (.ref c), some (.ref nl), some (.int (t : Nat)), some (.ref nb)]) rfl ?_
        have keep : u ≠ o → io < i + 1 → l ≠ [] := by
          intro huo hi
          by_cases h : io < i
          · exact hne h
          · have : io = i := by lia
            subst this
            rw [List.getElem?_eq_getElem hio, hio'] at hu
            exact absurd (Option.some.inj hu).symm huo
        walk
        refine We_idxD (he.get hb) (look_map huD) ?_
        walk
        refine cbo (fun g => ?_) fun g => ?_
        · walk
          refine doclash_sp W (hc.ext (e1'.trans he)) (hl.ext (e1'.trans he)) fun b σ11 e11 hb11 => ?_
          lk
          cases b with
          | true =>
            walk
            exact ⟨⟨_, rfl⟩, he.trans e11, l ++ [u], by rw [intsV_app]; rfl, fun _ => by simp⟩
          | false =>
            walk
            refine ⟨⟨_, rfl⟩, he.trans e11, l, rfl, keep fun e => ?_⟩
            subst e
            have := hb11 hco
            cases this
        · walk
          refine ⟨⟨_, rfl⟩, he, l, rfl, keep fun e => ?_⟩
          subst e
          rw [hBo] at g
          simp at g
      · rintro acc ρ σ' ⟨_, he, l, hacc, hne⟩
        subst hacc
        have hl0 : l ≠ [] := hne (by rw [ivl]; exact hio)
        walk
        refine We_eqL (sno sng) sng ?_
        lk
        refine c_f (by cases l; exact absurd rfl hl0; rfl) ?_
        walk
        exact ⟨⟨_, rfl⟩, he.snoc.snoc⟩
    · rintro ρ σ' ⟨⟨x8, hρ⟩, he⟩
      try (show ‹R → H → Prop› _ _; refine Imp.ap ‹_› ?_)
      subst hρ
      exact ⟨⟨_, rfl, rfl⟩, he⟩
  obtain ⟨hρ, e10⟩ := hz
  apply fm4 hρ; intro x5 x6 x7 x8
  lk
  exact q _ (e1'.trans e10)
noncomputable def ExtX (na : Nat) (σ σ' : H) : Prop := σ.length ≤ σ'.length ∧ ∀ (m : Nat) (o : MO), m ≠ na → σ[m]? = some o → σ'[m]? = some o
theorem ExtX.refl {na σ} : ExtX na σ σ := ⟨Nat.le_refl _, fun _ _ _ h => h⟩
theorem ExtX.trans {na a b c} (x : ExtX na a b) (y : ExtX na b c) : ExtX na a c := ⟨Nat.le_trans x.1 y.1, fun m o hm h => y.2 m o hm (x.2 m o hm h)⟩
theorem Ext.x {na a b} (e : Ext a b) : ExtX na a b := ⟨e.len, fun _ _ _ h => e.get h⟩
structure Dr (σ : H) (ns na : Nat) (is : List Int) (m : Nat) : Prop where
  s : σ[ns]? = some (.list (is.map .int))
  a : ∃ p : Nat, p ≤ m ∧ σ[na]? = some (.list [.int p])
  ne : ns ≠ na
theorem Dr.up {σ ns na is m m'} (h : Dr σ ns na is m) (hm : m ≤ m') : Dr σ ns na is m' := ⟨h.s, let ⟨p, a, b⟩ := h.a; ⟨p, by lia, b⟩, h.ne⟩
theorem Dr.ext {σ σ' ns na is m} (h : Dr σ ns na is m) (e : Ext σ σ') : Dr σ' ns na is m := ⟨e.get h.s, let ⟨p, a, b⟩ := h.a; ⟨p, a, e.get b⟩, h.ne⟩
theorem We_modI {a : Int} {b : Nat} {σ} {Q : V → H → Prop} (h : 0 < b) (q : ∀ d : Nat, d < b → Q (.int (d : Nat)) σ) : We (vMod (.int a) (.int (b : Nat)) σ) Q := by
  have h1 : 0 ≤ a.fmod (b : Int) := Int.fmod_nonneg_of_pos a (by lia)
  have h2 : a.fmod (b : Int) < b := Int.fmod_lt_of_pos a (by lia)
  obtain ⟨d, hd⟩ := Int.eq_ofNat_of_zero_le h1
  refine ⟨_, σ, ?_, q d (by lia)⟩
  show (if (b : Int) ≠ 0 then some (V.int (a.fmod b), σ) else none) = _
  rw [if_pos (by lia), hd]
theorem draw_sp {σ : H} {ns na : Nat} {is : List Int} {m many : Nat} {Q : V → H → Prop} (hi : is.length ≤ 63) (h : Dr σ ns na is m) (hm : m ≤ 900) (hmany : 0 < many)
    (q : ∀ d σ', d < many → ExtX na σ σ' → Dr σ' ns na is (m + 1) → Q (.int (d : Nat)) σ') : We (mlD [.ref ns, .ref na, .int (many : Nat)] σ) Q := by
  refine runE rfl rfl ?_
  obtain ⟨p, hp, ha⟩ := h.a
  lk
  refine We_idxL (k := 0) ha rfl rfl (Nat.le_of_ble_eq_true rfl) ?_
  lk
  refine ⟨_, set_list (k := 0) ha rfl Nat.zero_lt_one (Nat.le_of_ble_eq_true rfl), ?_⟩
  have hx : ExtX na σ (σ.set na (.list ([V.int (p : Nat)].set 0 (.int ((p : Int) + 1))))) := ⟨by simp, fun m o hm h => upd_ne' (Ne.symm hm) h⟩
  have hd : Dr (σ.set na (.list ([V.int (p : Nat)].set 0 (.int ((p : Int) + 1))))) ns na is (m + 1) := ⟨upd_ne' (Ne.symm h.ne) h.s, ⟨p + 1, by lia, by rw [upg ha]; rfl⟩, h.ne⟩
  generalize σ.set na (.list ([V.int (p : Nat)].set 0 (.int ((p : Int) + 1)))) = σ1 at hx hd
  lk
  refine We_lenM hd.s (by lia) ?_
  lk
  refine cbo (fun g => ?_) fun g => ?_
  · have g := of_decide_eq_true g
    have hpl : p < is.length := by lia
    lk
    refine We_idxM hd.s (List.getElem?_eq_getElem hpl) (by lia) ?_
    lk
    exact We_modI hmany fun d hdm => q d _ hdm hx hd
  · lk
    refine ⟨.int (3 ^ p), σ1, ?_, ?_⟩
    · show (if _ then some (V.int (3 ^ (p : Int).toNat), _) else none) = _
      rw [if_pos ⟨rfl, by lia, by lia⟩, Int.toNat_natCast]
    · lk
      refine We_modI (b := 1009) (by lia) fun d _ => ?_
      lk
      exact We_modI hmany fun d hdm => q d _ hdm hx hd
noncomputable def OkOp (o : Opd) : Prop := ∀ t, o.t? = some t → t < 5
theorem lop_sp {σ : H} {ns na : Nat} {is : List Int} {m : Nat} {Q : V → H → Prop} (hi : is.length ≤ 63) (h : Dr σ ns na is m) (hm : m ≤ 900)
    (q : ∀ o σ', OkOp o → ExtX na σ σ' → Dr σ' ns na is (m + 1) → Q o.e σ') : We (m_law_operand [.ref ns, .ref na] σ) Q := by
  refine runE rfl rfl ?_
  lk
  refine draw_sp (many := 9) hi h hm (by lia) fun d σ1 hd e1 h1 => ?_
  lk
  try refine Wsq ?_
  walk
  refine cbo (fun g => ?_) fun g => ?_
  · have g := of_decide_eq_true g
    have hd : d = 0 ∨ d = 1 := by lia
    rcases hd with rfl | rfl
    · walk
      refine We_idxL (k := 0) sng rfl rfl (Nat.le_of_ble_eq_true rfl) ?_
      walk
      exact q .lx _ (by intro t h; cases h) (e1.trans Ext.one.x) (h1.ext Ext.one)
    · walk
      refine We_idxL (k := 1) sng rfl rfl (Nat.le_of_ble_eq_true rfl) ?_
      walk
      exact q .ln _ (by intro t h; cases h) (e1.trans Ext.one.x) (h1.ext Ext.one)
  · have g := of_decide_eq_false g
    walk
    refine cbo (fun g2 => ?_) fun g2 => ?_
    · have g2 := of_decide_eq_true g2
      walk
      have := q (.tmp (d - 2)) σ1 (by intro t h; cases h; lia) e1 h1
      rw [show (Opd.tmp (d - 2)).e = .tup [.str [116, 109, 112], .int ((d : Int) - 2)] by show V.tup [.str [116, 109, 112], .int ((d - 2 : Nat) : Int)] = _; rw [show ((d - 2 : Nat) : Int) = (d : Int) - 2 from Int.ofNat_sub (by lia)]] at this
      exact this
    · have g2 := of_decide_eq_false g2
      walk
      have := q (.cv (d - 7)) σ1 (by intro t h; cases h) e1 h1
      rw [show (Opd.cv (d - 7)).e = .tup [.str [99, 118], .int ((d : Int) - 7)] by show V.tup [.str [99, 118], .int ((d - 7 : Nat) : Int)] = _; rw [show ((d - 7 : Nat) : Int) = (d : Int) - 7 from Int.ofNat_sub (by lia)]] at this
      exact this
structure OkRow (many : Nat) (r : Row) : Prop where
  ops : ∀ o ∈ r.ops, OkOp o
  to : ∀ t, r.to = some t → t < 5
  tgt : ∀ t, r.tgt = some t → t ≤ many
theorem okop_z : OkOp .lz := by intro t h; cases h
theorem lrow_sp {σ : H} {ns na : Nat} {is : List Int} {m many : Nat} {Q : V → H → Prop} (hi : is.length ≤ 63) (h : Dr σ ns na is m) (hm : m ≤ 800)
    (q : ∀ r σ', OkRow many r → ExtX na σ σ' → Dr σ' ns na is (m + 4) → Q r.e σ') : We (m_law_row [.ref ns, .ref na, .int (many : Nat)] σ) Q := by
  refine runE rfl rfl ?_
  lk
  refine draw_sp (many := 15) hi h (by lia) (by lia) fun d σ1 hd e1 h1 => ?_
  by_cases hd12 : 12 ≤ d
  · have hd : d = 12 ∨ d = 13 ∨ d = 14 := by lia
    rcases hd with rfl | rfl | rfl
    · try refine Wsq ?_
      walk
      refine We_idxL (k := 0) sng rfl rfl (Nat.le_of_ble_eq_true rfl) ?_
      walk
      refine lop_sp hi (h1.ext Ext.one) (by lia) fun o σ2 ho e2 h2 => ?_
      walk
      refine draw_sp (many := many + 1) hi h2 (by lia) (by lia) fun t σ3 ht e3 h3 => ?_
      walk
      exact q (.jmp t) σ3 ⟨al0, no_to, is_to (by lia)⟩ (e1.trans (Ext.one.x.trans (e2.trans e3))) (h3.up (by lia))
    · try refine Wsq ?_
      walk
      refine We_idxL (k := 1) sng rfl rfl (Nat.le_of_ble_eq_true rfl) ?_
      walk
      refine lop_sp hi (h1.ext Ext.one) (by lia) fun o σ2 ho e2 h2 => ?_
      walk
      refine draw_sp (many := many + 1) hi h2 (by lia) (by lia) fun t σ3 ht e3 h3 => ?_
      walk
      exact q (.jif o t) σ3 ⟨al1 ho, no_to, is_to (by lia)⟩ (e1.trans (Ext.one.x.trans (e2.trans e3))) (h3.up (by lia))
    · try refine Wsq ?_
      walk
      refine We_idxL (k := 2) sng rfl rfl (Nat.le_of_ble_eq_true rfl) ?_
      walk
      refine lop_sp hi (h1.ext Ext.one) (by lia) fun o σ2 ho e2 h2 => ?_
      walk
      refine draw_sp (many := many + 1) hi h2 (by lia) (by lia) fun t σ3 ht e3 h3 => ?_
      walk
      exact q (.jnl o t) σ3 ⟨al1 ho, no_to, is_to (by lia)⟩ (e1.trans (Ext.one.x.trans (e2.trans e3))) (h3.up (by lia))
  try refine Wsq ?_
  walk
  refine c_f (decide_eq_false (by lia)) ?_
  walk
  by_cases hd9 : 9 ≤ d
  · have hd : d = 9 ∨ d = 10 ∨ d = 11 := by lia
    rcases hd with rfl | rfl | rfl
    · try refine Wsq ?_
      walk
      refine We_idxL (k := 0) sng rfl rfl (Nat.le_of_ble_eq_true rfl) ?_
      walk
      refine lop_sp hi (h1.ext Ext.one) (by lia) fun o σ2 ho e2 h2 => ?_
      walk
      exact q (.thr o) σ2 ⟨al1 ho, no_to, no_to⟩ (e1.trans (Ext.one.x.trans e2)) (h2.up (by lia))
    · try refine Wsq ?_
      walk
      refine We_idxL (k := 1) sng rfl rfl (Nat.le_of_ble_eq_true rfl) ?_
      walk
      refine lop_sp hi (h1.ext Ext.one) (by lia) fun o σ2 ho e2 h2 => ?_
      walk
      exact q (.ech o) σ2 ⟨al1 ho, no_to, no_to⟩ (e1.trans (Ext.one.x.trans e2)) (h2.up (by lia))
    · try refine Wsq ?_
      walk
      refine We_idxL (k := 2) sng rfl rfl (Nat.le_of_ble_eq_true rfl) ?_
      walk
      refine lop_sp hi (h1.ext Ext.one) (by lia) fun o σ2 ho e2 h2 => ?_
      walk
      exact q (.ret o) σ2 ⟨al1 ho, no_to, no_to⟩ (e1.trans (Ext.one.x.trans e2)) (h2.up (by lia))
  try refine Wsq ?_
  walk
  refine c_f (decide_eq_false (by lia)) ?_
  walk
  lk
  refine draw_sp (many := 5) hi h1 (by lia) (by lia) fun to σ2 hto e2 h2 => ?_
  have hto' : ∀ t, some to = some t → t < 5 := fun t h => by cases h; exact hto
  by_cases hd0 : d = 0
  · subst hd0
    try refine Wsq ?_
    walk
    exact q (.arr to) σ2 ⟨al0, hto', no_to⟩ (e1.trans e2) (h2.up (by lia))
  try refine Wsq ?_
  walk
  refine c_f (by simp; lia) ?_
  walk
  lk
  refine lop_sp hi h2 (by lia) fun x σ3 hx e3 h3 => ?_
  have hx1 : ∀ o ∈ [x], OkOp o := by simpa using hx
  by_cases hd4 : d < 4
  · have hd : d = 1 ∨ d = 2 ∨ d = 3 := by lia
    rcases hd with rfl | rfl | rfl
    · try refine Wsq ?_
      walk
      refine We_idxL (k := 0) sng rfl rfl (Nat.le_of_ble_eq_true rfl) ?_
      walk
      exact q (.mov to x) _ ⟨hx1, hto', no_to⟩ ((e1.trans (e2.trans e3)).trans Ext.one.x) ((h3.ext Ext.one).up (by lia))
    · try refine Wsq ?_
      walk
      refine We_idxL (k := 1) sng rfl rfl (Nat.le_of_ble_eq_true rfl) ?_
      walk
      exact q (.mov to x) _ ⟨hx1, hto', no_to⟩ ((e1.trans (e2.trans e3)).trans Ext.one.x) ((h3.ext Ext.one).up (by lia))
    · try refine Wsq ?_
      walk
      refine We_idxL (k := 2) sng rfl rfl (Nat.le_of_ble_eq_true rfl) ?_
      walk
      exact q (.boo to x) _ ⟨hx1, hto', no_to⟩ ((e1.trans (e2.trans e3)).trans Ext.one.x) ((h3.ext Ext.one).up (by lia))
  try refine Wsq ?_
  walk
  refine c_f (decide_eq_false (by lia)) ?_
  walk
  by_cases hd6 : d < 6
  · try refine Wsq ?_
    walk
    refine c_t (decide_eq_true (by lia)) ?_
    walk
    refine lop_sp hi h3 (by lia) fun y σ4 hy e4 h4 => ?_
    walk
    exact q (.bin to x y) _ ⟨al2 hx hy, hto', no_to⟩ (e1.trans (e2.trans (e3.trans e4))) (h4.up (by lia))
  try refine Wsq ?_
  walk
  refine c_f (decide_eq_false (by lia)) ?_
  walk
  by_cases hd7 : d = 6
  · subst hd7
    try refine Wsq ?_
    walk
    exact q (.elm to x) _ ⟨al2 hx okop_z, hto', no_to⟩ (e1.trans (e2.trans e3)) (h3.up (by lia))
  try refine Wsq ?_
  walk
  refine c_f (by simp; lia) ?_
  walk
  by_cases hd8 : d = 7
  · subst hd8
    lk
    refine lop_sp hi h3 (by lia) fun y σ4 hy e4 h4 => ?_
    lk
    exact q (.wri (some to) x y) _ ⟨al2 hx hy, hto', no_to⟩ (e1.trans (e2.trans (e3.trans e4))) (h4.up (by lia))
  · lk
    refine c_f (by simp; lia) ?_
    lk
    refine lop_sp hi h3 (by lia) fun y σ4 hy e4 h4 => ?_
    lk
    exact q (.wri none x y) _ ⟨al2 hx hy, no_to, no_to⟩ (e1.trans (e2.trans (e3.trans e4))) (h4.up (by lia))
structure OkT (many : Nat) (T : List Tr) : Prop where
  len : T.length ≤ 2
  ht : ∀ p w, hdl T p = some w → w.1 < many ∧ retAt T p w.1 = w.2
  fin : ∀ f m l r, Tr.fin f m l r ∈ T → r < 5 ∧ m ≤ l ∧ l ≤ many ∧ f ≤ 1000
theorem okt_nil {many} : OkT many [] := ⟨by simp, fun p w h => by simp [hdl] at h, fun f m l r h => by simp at h⟩
theorem okt_cat {many f c e : Nat} (h : c < many) : OkT many [.cat f c e] := by
  refine ⟨by simp, fun p w hw => ?_, fun f m l r h => by simp at h⟩
  by_cases hc : (Tr.cat f c e).cov p = true
  · simp [hdl, hc, Tr.to] at hw
    subst hw
    exact ⟨h, by simp [retAt, retF]⟩
  · simp [hdl, hc] at hw
theorem okt_fin {many f m l r : Nat} (h : m < many) (h1 : r < 5) (h2 : m ≤ l) (h3 : l ≤ many) (h4 : f ≤ 1000) : OkT many [.fin f m l r] := by
  refine ⟨by simp, fun p w hw => ?_, fun f m l r h => by simp at h; lia⟩
  by_cases hc : (Tr.fin f m l r).cov p = true
  · simp [hdl, hc, Tr.to] at hw
    subst hw
    simp [Tr.cov] at hc
    exact ⟨h, by simp [retAt, retF, hc.1, hc.2]⟩
  · simp [hdl, hc] at hw
theorem okt_both {many f c e g m l r : Nat} (hc : c < many) (h : m < many) (h1 : r < 5) (h2 : m ≤ l) (h3 : l ≤ many) (h4 : g ≤ 1000) (hne : m ≠ c) : OkT many [.cat f c e, .fin g m l r] := by
  refine ⟨by simp, fun p w hw => ?_, fun f m l r h => by simp at h; lia⟩
  by_cases hf : (Tr.fin g m l r).cov p = true
  · simp [hdl, hf, Tr.to] at hw
    subst hw
    simp [Tr.cov] at hf
    exact ⟨h, by simp [retAt, retF, hf.1, hf.2]⟩
  · by_cases hcc : (Tr.cat f c e).cov p = true
    · simp [hdl, hf, hcc, Tr.to] at hw
      subst hw
      exact ⟨hc, by simp [retAt, retF, hne]⟩
    · simp [hdl, hf, hcc] at hw
theorem ExtX.upd {na n : Nat} {a b : H} {o} (x : ExtX na a b) (h : a.length ≤ n) : ExtX na a (b.set n o) :=
  ⟨by rw [List.length_set]; exact x.1, fun m o' hm h' => by
    have := get_lt h'
    exact upd_ne' (by lia) (x.2 m o' hm h')⟩
theorem Dr.upd {σ ns na is m n o} (h : Dr σ ns na is m) (h1 : ns ≠ n) (h2 : na ≠ n) : Dr (σ.set n o) ns na is m :=
  ⟨upd_ne' (Ne.symm h1) h.s, let ⟨p, a, b⟩ := h.a; ⟨p, a, upd_ne' (Ne.symm h2) b⟩, h.ne⟩
theorem Dr.lt {σ ns na is m} (h : Dr σ ns na is m) : ns < σ.length ∧ na < σ.length := ⟨get_lt h.s, let ⟨_, _, b⟩ := h.a; get_lt b⟩
theorem trys_sp {σ : H} {ns na : Nat} {is : List Int} {m many : Nat} {Q : V → H → Prop} (hi : is.length ≤ 63) (h : Dr σ ns na is m) (hm : m ≤ 800) (hmany : 5 ≤ many ∧ many ≤ 9)
    (q : ∀ n T σ', OkT many T → ExtX na σ σ' → Dr σ' ns na is (m + 8) → σ'[n]? = some (.list (T.map Tr.e)) → σ.length ≤ n → Q (.ref n) σ') : We (m_law_trys [.ref ns, .ref na, .int (many : Nat)] σ) Q := by
  refine runE rfl rfl ?_
  have hlt := h.lt
  lk
  refine draw_sp (many := 4) hi h (by lia) (by lia) fun way σ1 hway e1 h1 => ?_
  lk
  have hl1 : σ.length ≤ σ1.length := e1.1
  have hf : (σ1 ++ [MO.list []])[σ1.length]? = some (.list (List.map Tr.e [])) := sng
  have h1 : Dr (σ1 ++ [MO.list []]) ns na is (m + 1) := h1.ext Ext.one
  have e1 : ExtX na σ (σ1 ++ [MO.list []]) := e1.trans Ext.one.x
  generalize σ1 ++ [MO.list []] = σ2 at hf h1 e1
  generalize σ1.length = n at hl1 hf
  lk
  rw [n_c1 (Nat.le_trans (by decide) hmany.1)]
  refine draw_sp hi h1 (by lia) (n_p1 hmany.1) fun first σ3 hfirst e2 h2 => ?_
  have hf := e2.2 n _ (by lia) hf
  lk
  rw [n_c2 hfirst]
  refine draw_sp hi h2 (by lia) (Nat.sub_pos_of_lt hfirst) fun d2 σ4 hd2 e3 h3 => ?_
  have hf := e3.2 n _ (by lia) hf
  lk
  rw [show ((first : Nat) : Int) + 1 + ((d2 : Nat) : Int) = ((first + 1 + d2 : Nat) : Int) by lia]
  have hbeh := n_a1 hd2
  generalize first + 1 + d2 = behind at hbeh
  rw [n_c3 (Nat.le_of_lt hbeh)]
  refine draw_sp hi h3 (by lia) (by lia) fun d3 σ5 hd3 e4 h4 => ?_
  have hf := e4.2 n _ (by lia) hf
  have e4 := (e1.trans e2).trans (e3.trans e4)
  clear e1 e2 e3
  lk
  rw [show ((behind : Nat) : Int) + ((d3 : Nat) : Int) = ((behind + d3 : Nat) : Int) by lia]
  generalize behind + d3 = «end»
  refine Wsc (fun ρ σ' => ρ = [some (.ref ns), some (.ref na), some (.int (many : Nat)), some (.int (way : Nat)), some (.ref n), some (.int (first : Nat)), some (.int (behind : Nat)), some (.int («end» : Nat)), none, none, none, none] ∧
    ExtX na σ σ' ∧ Dr σ' ns na is (m + 4) ∧ σ'[n]? = some (.list ((if way = 1 ∨ way = 3 then [Tr.cat first behind «end»] else []).map Tr.e))) ?_ fun ρ σ6 hz => ?_
  · intro N' hN
    lk
    refine We_inI (l := [1, 3]) sng ?_
    lk
    refine cbo (fun g => ?_) fun g => ?_
    · have hg : way = 1 ∨ way = 3 := by simp at g; lia
      rw [if_pos hg] at hN
      lk
      refine ⟨ty_list (sno hf), ?_⟩
      lk
      refine Wap (sno hf) (Nat.le_of_ble_eq_true rfl) ?_
      lk
      exact ⟨rfl, (e4.trans Ext.one.x).upd hl1, ((h4.ext Ext.one).upd (by lia) (by lia)), upg (sno hf)⟩
    · have hg : ¬ (way = 1 ∨ way = 3) := by simp at g; lia
      rw [if_neg hg] at hN
      lk
      exact ⟨rfl, e4.trans Ext.one.x, h4.ext Ext.one, sno hf⟩
  apply and4 hz; clear hz; intro hρ e5 h5 hf5
  subst hρ
  clear hf h1 h2 h3 h4 e4
  generalize hT0 : (if way = 1 ∨ way = 3 then [Tr.cat first behind «end»] else []) = T0 at hf5
  lk
  rw [n_c1 (Nat.le_trans (by decide) hmany.1)]
  refine draw_sp hi h5 (by lia) (n_p1 hmany.1) fun start σ7 hstart e6 h6 => ?_
  have hf := e6.2 n _ (by lia) hf5
  lk
  rw [n_c2 hstart]
  refine draw_sp hi h6 (by lia) (Nat.sub_pos_of_lt hstart) fun d6 σ8 hd6 e7 h7 => ?_
  have hf := e7.2 n _ (by lia) hf
  lk
  rw [show ((start : Nat) : Int) + 1 + ((d6 : Nat) : Int) = ((start + 1 + d6 : Nat) : Int) by lia]
  have hfin := n_a1 hd6
  generalize start + 1 + d6 = final at hfin
  rw [n_c3 (Nat.le_of_lt hfin)]
  refine draw_sp hi h7 (by lia) (by lia) fun d7 σ9 hd7 e8 h8 => ?_
  have hf := e8.2 n _ (by lia) hf
  lk
  rw [show ((final : Nat) : Int) + ((d7 : Nat) : Int) = ((final + d7 : Nat) : Int) by lia]
  have hlast : final ≤ final + d7 ∧ final + d7 ≤ many := ⟨Nat.le_add_right _ _, n_a2 (Nat.le_of_lt hfin) hd7⟩
  generalize final + d7 = last at hlast
  refine draw_sp (many := 5) hi h8 (by lia) (by lia) fun ret σ10 hret e9 h9 => ?_
  have hf := e9.2 n _ (by lia) hf
  have e9 := (e5.trans e6).trans (e7.trans (e8.trans e9))
  clear e5 e6 e7 e8 h5 h6 h7 h8
  lk
  try refine Wsq ?_
  have add : ∀ (N T0' : List Tr), σ10[n]? = some (.list (T0'.map Tr.e)) → OkT many (T0' ++ [.fin start final last ret]) → Q (.ref n) (σ10.set n (.list (T0'.map Tr.e ++ [(Tr.fin start final last ret).e]))) := fun _ T0' hf hok =>
    q n (T0' ++ [.fin start final last ret]) _ hok (e9.upd hl1) (h9.upd (by lia) (by lia)) (by rw [upg hf, List.map_append]; rfl) hl1
  have hway4 : way = 0 ∨ way = 1 ∨ way = 2 ∨ way = 3 := by lia
  rcases hway4 with rfl | rfl | rfl | rfl
  · simp at hT0; subst hT0
    lk
    exact q n [] _ okt_nil e9 h9 hf hl1
  · simp at hT0; subst hT0
    lk
    exact q n [_] _ (okt_cat hbeh) e9 h9 hf hl1
  · simp at hT0; subst hT0
    lk
    refine ⟨ty_list hf, ?_⟩
    lk
    refine Wap hf (Nat.le_of_ble_eq_true rfl) ?_
    lk
    exact add [] [] hf (okt_fin hfin hret hlast.1 hlast.2 (by lia))
  · simp at hT0; subst hT0
    lk
    refine cbo (fun g => ?_) fun g => ?_
    · have g : final ≠ behind := by simp at g; lia
      lk
      refine ⟨ty_list hf, ?_⟩
      lk
      refine Wap hf (Nat.le_of_ble_eq_true rfl) ?_
      lk
      exact add [] [_] hf (okt_both hbeh hfin hret hlast.1 hlast.2 (by lia) g)
    · lk
      exact q n [_] _ (okt_cat hbeh) e9 h9 hf hl1
noncomputable def RelL (F : Nat → List Nat) (p : Nat) (v : V) (σ : H) : Prop := ∃ d : Nat, v = .ref d ∧ σ[d]? = some (.list (intsV (F p)))
theorem RelL.ext {F p v σ σ'} (h : RelL F p v σ) (e : Ext σ σ') : RelL F p v σ' := let ⟨d, a, b⟩ := h; ⟨d, a, e.get b⟩
theorem refs_of {F : Nat → List Nat} {σ : H} : ∀ (us : List V) (k : Nat), (∀ (i : Nat) u, us[i]? = some u → RelL F (k + i) u σ) →
    ∃ ls : List Nat, us = ls.map V.ref ∧ ∀ (i d : Nat), ls[i]? = some d → σ[d]? = some (.list (intsV (F (k + i))))
  | [], _, _ => ⟨[], rfl, fun i d h => by simp at h⟩
  | u :: r, k, h => by
    obtain ⟨d, hd, hg⟩ := h 0 u rfl
    obtain ⟨ls, a, b⟩ := refs_of r (k + 1) fun i v hv => by
      have := h (i + 1) v (by simpa using hv)
      rwa [show k + (i + 1) = k + 1 + i by lia] at this
    refine ⟨d :: ls, by rw [hd, a]; rfl, fun i d' hi => ?_⟩
    cases i with
    | zero => simp at hi; subst hi; exact hg
    | succ i =>
      have := b i d' (by simpa using hi)
      rwa [show k + (i + 1) = k + 1 + i by lia]
noncomputable def dataL (l : List Nat) : PyData := .list (l.map fun t : Nat => .int (t : Int))
theorem toDs_intsV {k σ} (l : List Nat) : toDs (Mine.Internal.toD (k + 1) σ) (intsV l) = some (l.map fun t : Nat => .int (t : Int)) := by
  rw [intsV_eq, toDs_ints]; simp [Function.comp_def]
theorem lay_dataL (l : List Nat) : (dataL l).canLay0 = true := by
  unfold dataL
  rw [PyData.canLay0]
  have := lay_ints (l.map fun t : Nat => (t : Int))
  rwa [List.map_map] at this
theorem toDs_rel {F : Nat → List Nat} {σ : H} {k : Nat} : ∀ (us : List V) (j : Nat), (∀ (i : Nat) u, us[i]? = some u → RelL F (j + i) u σ) →
    toDs (Mine.Internal.toD (k + 2) σ) us = some ((List.range' j us.length).map fun i => dataL (F i))
  | [], _, _ => rfl
  | u :: r, j, h => by
    obtain ⟨d, rfl, hg⟩ := h 0 u rfl
    have ih := toDs_rel (k := k) r (j + 1) fun i v hv => by
      have := h (i + 1) v (by simpa using hv)
      rwa [show j + (i + 1) = j + 1 + i by lia] at this
    have hd : Mine.Internal.toD (k + 2) σ (.ref d) = some (dataL (F j)) := toD_list hg (toDs_intsV _)
    simp only [toDs, hd, ih, List.length_cons, List.range'_succ, List.map_cons]
theorem lay_all {F : Nat → List Nat} : ∀ l : List Nat, PyData.canLayAll0 (l.map fun i => dataL (F i)) = true
  | [] => rfl
  | a :: r => by rw [List.map_cons, PyData.canLayAll0, lay_dataL, lay_all r]; rfl
theorem We_neNest {F : Nat → List Nat} {n m : Nat} {us vs : List V} {σ : H} {Q : V → H → Prop} (h1 : σ[n]? = some (.list us)) (h2 : σ[m]? = some (.list vs)) (hl : us.length = vs.length)
    (hu : ∀ (i : Nat) u, us[i]? = some u → RelL F i u σ) (hv : ∀ (i : Nat) u, vs[i]? = some u → RelL F i u σ) (q : Q (.bool false) σ) : We (vNe (.ref n) (.ref m) σ) Q := by
  have a := toDs_rel (k := 13) us 0 (by simpa using hu)
  have b := toDs_rel (k := 13) vs 0 (by simpa using hv)
  rw [← hl] at b
  refine We_neR (toD_list h1 a) (toD_list h2 b) ?_ q
  rw [PyData.canLay0]; exact lay_all _
theorem pu_log {l : List V} (h : LogOk l) : ∀ v ∈ l, Pu 10 v := by
  intro v hv
  obtain ⟨a, s, rfl, hs⟩ := h v hv
  refine (pu_tup (k := 1) fun x hx => ?_).up 8
  simp only [List.mem_cons, List.not_mem_nil, or_false] at hx
  rcases hx with rfl | rfl
  · exact pu_int _
  · exact pu_str hs
theorem We_neTold {n m : Nat} {i : Int} {l : List V} {σ : H} {Q : V → H → Prop} (h1 : σ[n]? = some (.list l)) (h2 : σ[m]? = some (.list l)) (hp : LogOk l) (q : Q (.bool false) σ) : We (vNe (.tup [.int i, .ref n]) (.tup [.int i, .ref m]) σ) Q := by
  obtain ⟨ds, a, b⟩ := pu_list (pu_log hp)
  have t : ∀ n : Nat, σ[n]? = some (.list l) → Mine.Internal.toD 16 σ (.tup [.int i, .ref n]) = some (.tuple [.int i, .list ds]) := by
    intro n hn
    refine toD_tup ?_
    simp only [toDs, toD_int, toD_list hn (a 4 σ)]
  refine We_neR (t n h1) (t m h2) ?_ q
  simp [PyData.canLay0, PyData.canLayAll0, b]
theorem map_getD (ds : List Nat) {k : Nat} (h : ds.length = k) : (List.range k).map (fun p => V.ref (ds.getD p 0)) = ds.map V.ref := by
  subst h
  apply List.ext_getElem?
  intro i
  rw [List.getElem?_map, List.getElem?_map]
  by_cases hi : i < ds.length
  · rw [List.getElem?_range hi]
    simp [List.getD_eq_getElem?_getD, hi]
  · simp [hi]
theorem wf_of {many : Nat} {L : List Row} {T : List Tr} {LV : List Live} (hm : many ≤ 9) (hl : L.length = many) (hL : ∀ r ∈ L, OkRow many r) (hT : OkT many T) (hv : LV.length ≤ 1) (hV : ∀ x ∈ LV, x.t < 5 ∧ x.b ≤ many ∧ x.f ≤ 1000) : Code.Wf ⟨L, T, LV, 5⟩ := by
  have := hT.len
  refine ⟨⟨by simp; lia, by simp; lia, by simp; lia, by simp⟩, fun r hr t ht => ?_, fun r hr t ht => (hL r hr).to t ht, fun p w hw => ?_, fun f m l r h => ?_, fun x hx => ?_⟩
  · unfold Row.rd at ht
    obtain ⟨o, ho, hot⟩ := List.mem_filterMap.mp ht
    exact (hL r hr).ops o ho t hot
  · show w.1 < L.length ∧ _
    rw [hl]; exact hT.ht p w hw
  · show r < 5 ∧ m ≤ l ∧ l ≤ L.length ∧ f ≤ 1000
    rw [hl]; exact hT.fin f m l r h
  · show x.t < 5 ∧ x.b ≤ L.length ∧ x.f ≤ 1000
    rw [hl]; exact hV x hx
structure Pre (σ : H) (na nr nt nl np : Nat) (many : Nat) (L : List Row) (T : List Tr) (LV : List Live) (tape : List V) : Prop where
  m : 5 ≤ many ∧ many ≤ 9
  len : L.length = many
  r : σ[nr]? = some (.list (L.map Row.e))
  t : σ[nt]? = some (.list (T.map Tr.e))
  l : σ[nl]? = some (.list (LV.map Live.e))
  p : σ[np]? = some (.list tape)
  ps : ∀ v ∈ tape, Simp v
  pl : tape.length = 7
  L : ∀ r ∈ L, OkRow many r
  T : OkT many T
  v : LV.length ≤ 1
  V : ∀ x ∈ LV, x.t < 5 ∧ x.b ≤ many ∧ x.f ≤ 1000
theorem Pre.ext {σ σ' na nr nt nl np many L T LV tape} (h : Pre σ na nr nt nl np many L T LV tape) (e : Ext σ σ') : Pre σ' na nr nt nl np many L T LV tape :=
  ⟨h.m, h.len, e.get h.r, e.get h.t, e.get h.l, e.get h.p, h.ps, h.pl, h.L, h.T, h.v, h.V⟩
theorem We_codeC {C : Code} (sm : C.Sm) {σ : H} {r nn y l : Nat} {Q : V → H → Prop} (h1 : σ[r]? = some (.list (C.rows.map Row.e))) (h2 : σ[nn]? = some (.list [.str [97], .str [98]])) (h3 : σ[y]? = some (.list (C.trys.map Tr.e))) (h4 : σ[l]? = some (.list (C.lives.map Live.e))) (h5 : C.temps = 5)
    (q : ∀ c σ', Ext σ σ' → IsC σ' c C → Q (.ref c) σ') : We (vCode [.ref r, .ref nn, .int 5, .ref y, .ref l] σ) Q := by
  refine We_code (q _ _ Ext.one.snoc ?_)
  have := isC_new sm h1 h2 h3 h4
  rw [h5] at this
  exact this
theorem rel_of {F : Nat → List Nat} {us : List V} {many : Nat} {σ : H} (hl : us.length = (List.range many).length) (h : ∀ (i : Nat) (x : Nat), (List.range many)[i]? = some x → ∃ u : V, us[i]? = some u ∧ RelL F x u σ) : ∀ (i : Nat) (u : V), us[i]? = some u → RelL F i u σ := by
  intro i u hu
  have hi := (List.getElem?_eq_some_iff.mp hu).1
  rw [hl, List.length_range] at hi
  obtain ⟨u', a, b⟩ := h i i (List.getElem?_range hi)
  rw [hu] at a; cases a; exact b
theorem pu_tr (t : Tr) : Pu 10 t.e := by
  cases t with
  | cat f c e =>
    refine (pu_tup (k := 1) fun x hx => ?_).up 8
    simp only [List.mem_cons, List.not_mem_nil, or_false] at hx
    rcases hx with rfl | rfl | rfl | rfl | rfl <;> first | exact pu_int _ | exact pu_none
  | fin f c e r =>
    refine (pu_tup (k := 1) fun x hx => ?_).up 8
    simp only [List.mem_cons, List.not_mem_nil, or_false] at hx
    rcases hx with rfl | rfl | rfl | rfl | rfl <;> first | exact pu_int _ | exact pu_none
theorem pu_live (t : Live) : Pu 10 t.e := by
  refine (pu_tup (k := 1) fun x hx => ?_).up 8
  simp only [List.mem_cons, List.not_mem_nil, or_false] at hx
  rcases hx with rfl | rfl | rfl | rfl <;> first | exact pu_int _ | exact pu_str (by decide)
theorem law_sp {is : List Int} (hi : is.length ≤ 63) : Ws (b_law.run (some (.ref 0) :: List.replicate 10 none) [.list (is.map .int)]) (fun _ _ => False) (fun v _ => v = .bool true) := by
  refine b_law.ok _ _ _ _ ?_
  lk
  have h0 : Dr ([MO.list (is.map V.int)] ++ [MO.list [V.int 0]]) 0 [MO.list (is.map V.int)].length is 0 := ⟨rfl, ⟨0, Nat.le_refl _, rfl⟩, by simp⟩
  generalize ([MO.list (is.map V.int)] ++ [MO.list [V.int 0]]) = σ0 at *
  generalize [MO.list (is.map V.int)].length = na at *
  refine draw_sp (many := 5) hi h0 (by lia) (by lia) fun d σ1 hd e1 h1 => ?_
  lk
  rw [show (5 : Int) + ((d : Nat) : Int) = ((5 + d : Nat) : Int) by lia]
  have hmany : 5 ≤ 5 + d ∧ 5 + d ≤ 9 := by lia
  generalize 5 + d = many at hmany
  clear hd d e1 h0
  refine We_comp ?_
  lk
  refine We_rng1 (by lia) ?_
  refine ⟨.fix, (List.range many).map fun i => V.int (i : Nat), by simp; lia, fun i acc ρ σ' => (∃ x, ρ = [x, some (.ref 0), some (.ref na), some (.int (many : Nat))]) ∧ ExtX na σ1 σ' ∧ Dr σ' 0 na is (1 + 4 * i) ∧ ∃ L : List Row, acc = L.map Row.e ∧ L.length = i ∧ ∀ r ∈ L, OkRow many r, ?_, ?_, ?_, ?_⟩
  · exact ⟨⟨_, rfl⟩, .refl, h1, [], rfl, rfl, by simp⟩
  · intro i acc ρ σ' _
    exact it_range0 (by lia)
  · rintro i x acc ρ σ' J hJ hx ⟨⟨y, hρ⟩, he, hd', L, hacc, hl, hL⟩
    subst hρ hacc
    have hi' : i < many := by have := (List.getElem?_eq_some_iff.mp hx).1; simpa using this
    lk
    refine lrow_sp hi hd' (by lia) fun r σ'' hr e h => ?_
    lk
    refine ⟨⟨_, rfl⟩, he.trans e, h, L ++ [r], by simp, by simp [hl], fun r' hr' => ?_⟩
    rcases List.mem_append.mp hr' with hr' | hr'
    · exact hL r' hr'
    · simp at hr'; subst hr'; exact hr
  rintro acc ρ σ2 ⟨_, e2, h2, L, hacc, hlen, hL⟩
  subst hacc
  rw [List.length_map, List.length_range] at h2 hlen
  have h3 : Dr (σ2 ++ [MO.list (L.map Row.e)]) 0 na is (1 + 4 * many) := h2.ext Ext.one
  have hR : (σ2 ++ [MO.list (L.map Row.e)])[σ2.length]? = some (.list (L.map Row.e)) := sng
  have hnr : na < σ2.length := h2.lt.2
  clear h2 e2 h1
  generalize (σ2 ++ [MO.list (L.map Row.e)]) = σ3 at *
  generalize σ2.length = nr at *
  lk
  refine trys_sp hi h3 (by lia) hmany fun nt T σ4 hT e4 h4 hTn hnt => ?_
  have hR4 := e4.2 nr _ (by lia) hR
  have hnrt : nr < nt := Nat.lt_of_lt_of_le (get_lt hR) hnt
  have hntl : nt < σ4.length := get_lt hTn
  lk
  have h5 := h4.ext (Ext.one (o := MO.list []))
  have hR5 := sno (o := MO.list []) hR4
  have hT5 := sno (o := MO.list []) hTn
  have hL5 : (σ4 ++ [MO.list []])[σ4.length]? = some (.list (List.map Live.e [])) := sng
  clear h4 hR4 hTn e4 hR h3 hnt
  generalize (σ4 ++ [MO.list []]) = σ5 at *
  generalize σ4.length = nl at *
  refine Wsc (fun ρ σ' => (∃ x6, ρ = [some (.ref 0), some (.ref na), some (.int (many : Nat)), some (.ref nr), some (.ref nt), some (.ref nl), x6, none, none, none, none]) ∧
    Dr σ' 0 na is (1 + 4 * many + 8 + 4) ∧ σ'[nr]? = some (.list (L.map Row.e)) ∧ σ'[nt]? = some (.list (T.map Tr.e)) ∧
    ∃ LV : List Live, σ'[nl]? = some (.list (LV.map Live.e)) ∧ LV.length ≤ 1 ∧ ∀ x ∈ LV, x.t < 5 ∧ x.b ≤ many ∧ x.f ≤ 1000) ?_ fun ρ σ6 hz => ?_
  · intro N' hN
    lk
    refine draw_sp (many := 2) hi h5 (by lia) (by lia) fun d σa hd ea ha => ?_
    have hRa := ea.2 nr _ (by lia) hR5
    have hTa := ea.2 nt _ (by lia) hT5
    have hLa := ea.2 nl _ (by lia) hL5
    lk
    refine cbo (fun g => ?_) fun g => ?_
    · lk
      refine draw_sp (many := many) hi ha (by lia) (by lia) fun first σb hfirst eb hb => ?_
      have hRb := eb.2 nr _ (by lia) hRa
      have hTb := eb.2 nt _ (by lia) hTa
      have hLb := eb.2 nl _ (by lia) hLa
      lk
      refine ⟨ty_list hLb, ?_⟩
      lk
      refine draw_sp (many := 5) hi hb (by lia) (by lia) fun t σc ht ec hc => ?_
      have hRc := ec.2 nr _ (by lia) hRb
      have hTc := ec.2 nt _ (by lia) hTb
      have hLc := ec.2 nl _ (by lia) hLb
      lk
      rw [show ((many : Nat) : Int) - ((first : Nat) : Int) = ((many - first : Nat) : Int) by lia]
      refine draw_sp hi hc (by lia) (by lia) fun d2 σd hd2 ed hdd => ?_
      have hRd := ed.2 nr _ (by lia) hRc
      have hTd := ed.2 nt _ (by lia) hTc
      have hLd := ed.2 nl _ (by lia) hLc
      lk
      rw [show ((first : Nat) : Int) + 1 + ((d2 : Nat) : Int) = ((first + 1 + d2 : Nat) : Int) by lia]
      refine Wap hLd (Nat.le_of_ble_eq_true rfl) ?_
      lk
      refine ⟨⟨_, rfl⟩, hdd.upd (by have := hdd.ne; lia) (by lia), upd_ne' (by lia) hRd, upd_ne' (by lia) hTd, [⟨t, first, first + 1 + d2⟩], by rw [upg hLd]; rfl, by simp, fun x hx => ?_⟩
      simp at hx; subst hx
      exact ⟨ht, by show first + 1 + d2 ≤ many; lia, by show first ≤ 1000; lia⟩
    · lk
      exact ⟨⟨_, rfl⟩, ha.up (by lia), hRa, hTa, [], hLa, by simp, by simp⟩
  obtain ⟨⟨x6, hρ⟩, h6, hR6, hT6, LV, hL6, hv, hV⟩ := hz
  subst hρ
  clear h5 hR5 hT5 hL5
  lk
  refine We_comp ?_
  lk
  refine We_rng1 (by lia) ?_
  refine ⟨.fix, (List.range 7).map fun i => V.int (i : Nat), by simp, fun i acc ρ σ' => (∃ x, ρ = [x, some (.ref 0), some (.ref na)]) ∧ ExtX na σ6 σ' ∧ Dr σ' 0 na is (1 + 4 * many + 8 + 4 + i) ∧ acc.length = i ∧ ∀ v ∈ acc, Simp v, ?_, ?_, ?_, ?_⟩
  · exact ⟨⟨_, rfl⟩, .refl, h6, rfl, by simp⟩
  · intro i acc ρ σ' _
    exact it_range0 (b := 7) (by lia)
  · rintro i x acc ρ σ' J hJ hx ⟨⟨y, hρ⟩, he, hd', hl, hs⟩
    subst hρ
    have hi' : i < 7 := by have := (List.getElem?_eq_some_iff.mp hx).1; simpa using this
    lk
    have hdl := hd'.lt.2
    refine draw_sp (many := 2) hi (hd'.ext Ext.one) (by lia) (by lia) fun d σ'' hd2 e h => ?_
    have hg := e.2 σ'.length _ (by lia) sng
    have hd01 : d = 0 ∨ d = 1 := by lia
    rcases hd01 with rfl | rfl
    · refine We_idxL (k := 0) hg rfl rfl (Nat.le_of_ble_eq_true rfl) ?_
      lk
      refine ⟨⟨_, rfl⟩, (he.trans Ext.one.x).trans e, h, by simp [hl], fun v hv => ?_⟩
      rcases List.mem_append.mp hv with hv | hv
      · exact hs v hv
      · simp at hv; subst hv; exact True.intro
    · refine We_idxL (k := 1) hg rfl rfl (Nat.le_of_ble_eq_true rfl) ?_
      lk
      refine ⟨⟨_, rfl⟩, (he.trans Ext.one.x).trans e, h, by simp [hl], fun v hv => ?_⟩
      rcases List.mem_append.mp hv with hv | hv
      · exact hs v hv
      · simp at hv; subst hv; exact ⟨by decide, by decide⟩
  rintro tape ρ σ7 ⟨_, e7, h7, hpl, hps⟩
  have P : Pre (σ7 ++ [MO.list tape]) na nr nt nl σ7.length many L T LV tape :=
    ⟨hmany, hlen, sno (e7.2 nr _ (by lia) hR6), sno (e7.2 nt _ (by lia) hT6), sno (e7.2 nl _ (by lia) hL6), sng, hps, by simpa using hpl, hL, hT, hv, hV⟩
  clear e7 h7 hpl hps hmany hlen hR6 hT6 hL6 hL hT hv hV h6
  generalize (σ7 ++ [MO.list tape]) = σ8 at *
  generalize σ7.length = np at *
  have W := wf_of P.m.2 P.len P.L P.T P.v P.V
  lk
  refine We_listOf (itl P.r) (by have := P.len; have := P.m; simp; lia) ?_
  lk
  refine We_listOf (itl (sno (sno P.t))) (by have := P.T.len; simp; lia) ?_
  lk
  refine We_listOf (itl (sno (sno (sno P.l)))) (by have := P.v; simp; lia) ?_
  lk
  refine We_codeC (C := ⟨L, T, LV, 5⟩) W.sm (sno (sno (sno sng))) (sno (sno sng)) (sno sng) sng rfl fun c σ9 e9 hc => ?_
  have P := P.ext (((Ext.one.snoc).snoc.snoc).trans e9)
  clear e9
  generalize hC : (⟨L, T, LV, 5⟩ : Code) = C at W hc
  have hn : C.rows.length = many := by rw [← hC]; exact P.len
  have h5 : C.temps = 5 := by rw [← hC]
  have hr : C.rows.map Row.e = L.map Row.e := by rw [← hC]
  have ht : C.trys.map Tr.e = T.map Tr.e := by rw [← hC]
  have hl : C.lives.map Live.e = LV.map Live.e := by rw [← hC]
  have hm := P.m
  lk
  refine We_comp ?_
  lk
  refine We_rng1 (by lia) ?_
  refine We_compR (α := Nat) (enc := fun i => V.int (i : Nat)) (L := List.range many) (Rel := RelL (fun p => canon fun t => LvA C t p)) (fun ρ => ∃ x, ρ = [x, some (.ref c)]) (fun x u σ σ' h e => h.ext e) ⟨.fix, by simp; lia, fun σ' _ => it_range0 (by lia), ⟨_, rfl⟩, fun p hp ρ σ' hz he => ?_, ?_⟩
  · obtain ⟨x, hρ⟩ := hz
    subst hρ
    have hp' := List.mem_range.mp hp
    refine ⟨[some (.int (p : Nat)), some (.ref c)], rfl, ⟨_, rfl⟩, ?_⟩
    lk
    refine llive_sp W (hc.ext he) (by lia) fun n σ'' e _ hn => ?_
    lk
    exact ⟨e, n, rfl, hn⟩
  intro n9 σ10 us e10 _ hn9 hus hrel
  have hrel := rel_of hus hrel
  rw [List.length_range] at hus
  have hc := hc.ext e10
  have P := P.ext e10
  clear e10
  lk
  obtain ⟨v11, σ11, heq, n, ds, F, hv11, e11, lv, bd, len, hmem⟩ : We (m_live_at [.ref c] σ10) (fun v σ' => ∃ n ds F, v = .ref n ∧ Ext σ10 σ' ∧ LvV σ' n ds F ∧ (∀ l ∈ F, Bd l) ∧ F.length = C.rows.length ∧ ∀ p t, t ∈ F.getD p [] ↔ LvA C t p) := live_sp W hc fun n ds F σ' e _ _ _ lv bd len h => ⟨n, ds, F, rfl, e, lv, bd, len, h⟩
  subst hv11
  try refine Wsq ?_
  lk
  refine We_comp ?_
  lk
  refine ⟨_, _, heq, ?_⟩
  refine We_compR (α := Nat) (enc := fun p => V.ref (ds.getD p 0)) (L := List.range many) (Rel := RelL (fun p => canon fun t => LvA C t p)) (fun ρ => ∃ x, ρ = [x]) (fun x u σ σ' h e => h.ext e) ⟨.list, by simp; lia, fun σ' e => by rw [map_getD ds (by rw [lv.len, len, hn])]; exact itl (e.get lv.l), ⟨_, rfl⟩, fun p hp ρ σ' hz he => ?_, ?_⟩
  · obtain ⟨x, hρ⟩ := hz
    subst hρ
    have hp' := List.mem_range.mp hp
    refine ⟨[some (.ref (ds.getD p 0))], rfl, ⟨_, rfl⟩, ?_⟩
    lk
    have hpF : p < F.length := by lia
    obtain ⟨d, hd1, hd2⟩ := lv.get hpF
    have hd : ds.getD p 0 = d := by rw [List.getD_eq_getElem?_getD, hd1]; rfl
    rw [hd]
    refine We_sortedD (P := fun t => LvA C t p) (he.get hd2) (bd _ ?_) (fun t _ => hmem p t) ?_
    · rw [List.getD_eq_getElem?_getD, List.getElem?_eq_getElem hpF]
      exact List.getElem_mem hpF
    · lk
      exact ⟨Ext.one, _, rfl, sng⟩
  intro n12 σ12 vs e12 _ hn12 hvs hrel12
  have hrel12 := rel_of hvs hrel12
  rw [List.length_range] at hvs
  have e12 := e11.trans e12
  have hc := hc.ext e12
  have P := P.ext e12
  have hn9 := e12.get hn9
  have hrel := fun i u h => (hrel i u h).ext e12
  clear e11 e12 heq lv bd hmem
  lk
  refine We_neNest hn12 hn9 (by lia) hrel12 hrel ?_
  have lw : LwV σ12 n9 C := by
    obtain ⟨ls, a, b⟩ := refs_of (F := fun p => canon fun t => LvA C t p) us 0 fun i u h => by rw [Nat.zero_add]; exact hrel i u h
    subst a
    refine ⟨ls, hn9, by rw [hn]; simpa using hus, fun p d h => ?_⟩
    have := b p d h
    rwa [Nat.zero_add] at this
  clear hn12 hvs hrel12 hrel hn9
  lk
  refine joined_sp W hc fun c' B TT σ13 e13 hc' LC => ?_
  have hc := hc.ext e13
  have P := P.ext e13
  have lw := lw.ext e13
  clear e13
  lk
  try refine Wsq ?_
  lk
  refine joined_is W LC hc hc' lw fun σ14 e14 => ?_
  have hc := hc.ext e14
  have hc' := hc'.ext e14
  have P := P.ext e14
  clear e14 lw
  lk
  have hpl := P.pl
  have M := run_bis W h5 LC tape 40
  refine told_sp (made_mw W LC) hc' P.p P.ps (by lia) fun n15 σ15 e15 h15 _ => ?_
  have hc := hc.ext e15
  have P := P.ext e15
  clear e15 hc'
  lk
  refine told_sp (orig_mw W h5) hc P.p P.ps (by lia) fun n16 σ16 e16 h16 fine => ?_
  have hc := hc.ext e16
  have P := P.ext e16
  have h15 := e16.get h15
  clear e16
  rw [M.log] at h15
  rw [M.here]
  refine We_neTold h15 h16 fine.ok ?_
  lk
  refine We_rows hc fun n1 hn1 => ?_
  lk
  rw [hr] at hn1
  refine We_eqSame hn1 P.r (fun v hv => by obtain ⟨r, _, rfl⟩ := List.mem_map.mp hv; exact pu_row r) ?_
  lk
  refine We_trys hc fun n2 hn2 => ?_
  lk
  rw [ht] at hn2
  refine We_eqSame hn2 P.t (fun v hv => by obtain ⟨r, _, rfl⟩ := List.mem_map.mp hv; exact pu_tr r) ?_
  lk
  refine We_lives hc fun n3 hn3 => ?_
  lk
  rw [hl] at hn3
  refine We_eqSame hn3 P.l (fun v hv => by obtain ⟨r, _, rfl⟩ := List.mem_map.mp hv; exact pu_live r) rfl
end
section
set_option maxRecDepth 100000
set_option maxHeartbeats 1000000
theorem law_run {is : List Int} (hi : is.length ≤ 63) : ∃ ρ σ, b_law.run (some (.ref 0) :: List.replicate 10 none) [.list (is.map .int)] = some (.ret (.bool true), ρ, σ) := by
  rcases law_sp hi with ⟨_, _, _, h⟩ | ⟨v, ρ, σ, e, h⟩
  · exact h.elim
  · subst h; exact ⟨ρ, σ, e⟩
theorem vrels_ints {h : Heap} {β : List Addr} : ∀ {vs : List Value} {is : List Int}, IntsAre vs is → VRels h β (is.map .int) vs
  | _, _, .nil => .nil
  | _, _, .cons n t r => .cons (.int n t) (vrels_ints r)
theorem srel_nil {X : Ctx} {s : Shared} (h : s.heap = X.h₀) : SRel X [] [] s.heap :=
  ⟨fun b o e => by rw [h]; exact e, rfl, .nil, (fun _ m => nomatch m), (fun _ m => nomatch m), fun n o a e _ => by simp at e⟩
theorem law_walk {X : Ctx} (ok : X.Ok) {fI : Addr} {ib : List Stmt} (co : CdO X fI ib) {P : Params} (hK : X.K = hd.heap_1 P)
    {sc : Scope} {nme qual : Str} {params : Arguments} {body : List Stmt} {kV doc pm cdv ct oc : Value} {an od : Option Addr} {osl : Array (Option Value)} {f : Addr}
    {x1 x2 c1 q1 q2 q3 : Pos} {k : Nat}
    (hg : nsIn X.K mainGlobals (Str.ofString "law") = some (some (.ref f)))
    (ho : X.K.lookup f = some ⟨oc, od, .func (fnOf nme qual params (.Assign [.Name (Str.ofString "script") x1] (.Subscript (.Name (Str.ofString "script") x2) (.Slice none (some (.Constant (.int 63) k c1)) none q1) q2) q3 :: body) sc .none kV doc pm an cdv ct), osl⟩)
    (hcd : codeIn X.K cdv qual = true)
    (hbind : ∀ rargs : List Value, rargs.length = 1 → bindArgs (fnOf nme qual params (.Assign [.Name (Str.ofString "script") x1] (.Subscript (.Name (Str.ofString "script") x2) (.Slice none (some (.Constant (.int 63) k c1)) none q1) q2) q3 :: body) sc .none kV doc pm an cdv ct) ⟨rargs, []⟩ = pure ((nm_law.take 1).zip rargs))
    (hk : sc.kind = .function) (hcn : ((cellsFrom 0 sc.names []).map (·.1)).Nodup) (hsk : sc.names.lookup (Str.ofString "script") = some .cell)
    (hco : sc.isCoroutine = false) (hgen : sc.isGenerator = false)
    (hsw : ∀ env : Env, env.scope = sc → swapsWith (.Subscript (.Name (Str.ofString "script") x2) (.Slice none (some (.Constant (.int 63) k c1)) none q1) q2) (some (.Name (Str.ofString "script") x1)) q3.line env = pure false)
    {A : Around} (ad : Adm 17 A) {s : Shared} (hs : s.heap = X.h₀) {a : Addr} {vs : List Value} (hL : s.heap.IsList a vs.toArray) {is : List Int} (hI : IntsAre vs is) (hle : is.length ≤ 63) {R : Result → Shared → Prop}
    (hR : ∀ s', (∀ b o, s.heap.get? b = some o → s'.heap.get? b = some o) → s'.gens = s.gens → s'.os = s.os → R (.ok (.ret (.bool true))) s') :
    codeAny (MM X) A (.call (.ref f) ⟨[.ref a], []⟩) R s := by
  have hb := sim_law ok co hK (sc := sc) hg ho rfl rfl rfl
  have S := srel_nil hs
  refine codeAny_call_cells (binds := (nm_law.take 1).zip [.ref a]) (ad.deep) (S.base _ _ (ok.kin _ _ ho)) rfl (ok.top.nolimit.keeps S.base) (codeRec_of (fun a o q => S.base _ _ (ok.kin a o q)) hcd) rfl
      (hbind _ rfl) rfl (fun y hy => ?_) (fun s₁ x => ?_) hco hgen hk
  · have hy' := (List.of_mem_zip hy).1
    have hy' : y.1 = Str.ofString "script" := by simpa [nm_law] using hy'
    rw [hy']
    exact .inr ⟨hsk, cellsFrom_some sc.names _ [] (.inl hsk)⟩
  · have g : Grow [] [] s.heap [] s₁.heap := Grow.ext x.toInCall.keep
    obtain ⟨h₁, tk, hs₁⟩ := x.toInCall.same
    have rs : Rest s s₁ := by rw [hs₁]; exact ⟨rfl, rfl⟩
    have S₁ := S.ext x.toInCall.keep
    have F₁ := frame_start (nm := nm_law) (k := 1) (args := [.opq]) (rargs := [.ref a]) (n := 10) S (.cons (.opq a) .nil) x rfl (by decide) hcn (fun y hy q => by
      have hy' : y = Str.ofString "script" := by simpa [nm_law] using hy
      rw [hy'] at q
      have q : sc.names.lookup (Str.ofString "script") = some .free := q
      rw [hsk] at q; cases q)
    generalize hfd : fnOf nme qual params (.Assign [.Name (Str.ofString "script") x1] (.Subscript (.Name (Str.ofString "script") x2) (.Slice none (some (.Constant (.int 63) k c1)) none q1) q2) q3 :: body) sc .none kV doc pm an cdv ct = fd at *
    have hfs : fd.scope = sc := by rw [← hfd]
    have ad' : Adm 16 (A.deeper (callEnvC fd s.heap.objs.size f)) :=
        ⟨ad.handled, ad.guards, by have := ad.depth; show A.depth + 1 + 16 ≤ 900; lia, by have := ad.units; show A.units + 3 + 4 * 16 ≤ 9000; lia⟩
    have en : EnvOk X sc (callEnvC fd s.heap.objs.size f) := ⟨hfs, hk, by rw [← hfd]; rfl, by rw [← hfd]; rfl⟩
    have fresh : ∀ p ∈ fa (callEnvC fd s.heap.objs.size f), s.heap.get? p = none := fun p hp => by
        have : s.heap.objs.size ≤ p := by
          cases hp with
          | head => exact Nat.le_refl _
          | tail _ hp =>
            obtain ⟨q, hq, rfl⟩ := List.mem_map.mp hp
            exact Nat.le_of_lt (x.above q.1 q.2 hq)
        cases e : s.heap.get? p with
        | none => rfl
        | some o => exact absurd (Heap.lt_size e) (Nat.not_lt.mpr this)
    have hkc : (callEnvC fd s.heap.objs.size f).kindOf (Str.ofString "script") = some .cell := by rw [en.kindOf]; exact hsk
    obtain ⟨c, hc⟩ := F₁.has _ hkc
    have hcell := x.cell _ c hc
    rw [bindC_get (i := 0) (by decide) rfl rfl hkc] at hcell
    generalize (callEnvC fd s.heap.objs.size f) = env at *
    have hL₁ : s₁.heap.IsList a vs.toArray := hL.at fun o e => x.toInCall.keep _ _ e
    have hlen := ints_len_eq hI
    have hpick : slicePick vs.toArray none (some (63 : Int)) none = vs.toArray := by
      have := slicePick_upto' vs.toArray 63
      rw [List.take_of_length_le (by simp; lia)] at this
      simpa using this
    refine wpAny_execs_cons (wpAny_Assign_Name (hs := hsw env en.scope) (Subscript_ (wpAny_Name (wpAny_loadName_cell en.fn hkc hc hcell ?_) (by decide))))
    refine wpAny_Slice (wpAny_pure (wpAny_Constant_int (env := env) (k := k) (pos := c1) (wpAny_pure ?_)))
    have hl' := hL₁.push { cls := .type "slice", data := .fields #[.none, .int 63 s₁.toks, .none] }
    refine subscriptTail_ops (s := { s₁ with heap := s₁.heap.push { cls := .type "slice", data := .fields #[.none, .int 63 s₁.toks, .none] }, toks := s₁.toks + 1 }) hl'.typeIs list_getitem_lookup
      (wpAny_getItem_list_slice hl' (Heap.IsSliceOf.new ..) .none (.int _ _) .none (by simp) ?_ (by rw [sizeLine_eq]; simp; lia)) (by rfl) (fun _ => rfl)
    rw [hpick]
    have S₂ := S₁.push { cls := .type "slice", data := .fields #[.none, .int 63 s₁.toks, .none] }
    obtain ⟨β₃, a1, a2, a3, a4⟩ := EPost.new ok (s := { s₁ with heap := s₁.heap.push { cls := .type "slice", data := .fields #[.none, .int 63 s₁.toks, .none] }, toks := s₁.toks + 1 }) (mo := .list (is.map .int))
      (o := { cls := .type "list", data := .seq vs.toArray }) S₂ rfl (fun h' e' g' => ⟨vs, _, e', vrels_ints hI⟩) (k := s₁.toks + 1)
    have F₂ := F₁.mono ((Grow.push (S := []) (β := []) { cls := .type "slice", data := .fields #[.none, .int 63 s₁.toks, .none] }).trans a2)
    refine wpAny_mono (store_any (x := Str.ofString "script") (i := 0) rfl (.inr hsk) en a1 F₂ a3) (fun _ s₂ q => ?_) fun _ _ x => x.elim
    obtain ⟨S₃, F₃, g₃, r₃⟩ := q
    obtain ⟨ρ', σ', e⟩ := law_run hle
    refine wpAny_mono (hb.run _ _ s₂ _ _ _ _ _ _ ad' en S₃ F₃ e) (fun rf s₃ p => ?_) fun _ _ x => x.elim
    obtain ⟨β', S₄, F₄, G₄, fr, r₄⟩ := p
    cases fr with
    | ret ur =>
      cases ur
      have G : Grow (fa env) [] s.heap β' s₃.heap := g.nil.trans ((Grow.push { cls := .type "slice", data := .fields #[.none, .int 63 s₁.toks, .none] }).trans (a2.nil.trans (g₃.trans G₄)))
      have G : Grow [] [] s.heap β' s₃.heap := G.drop fun p hp => .inr (fresh p hp)
      have r := rs.trans (Rest.trans ⟨a4.gens, a4.os⟩ (r₃.trans r₄))
      exact hR s₃ (fun b o e => G.keep b o e (.inl ⟨(fun m => nomatch m), (fun m => nomatch m)⟩)) r.gens r.os
end
section
set_option maxRecDepth 100000
set_option maxHeartbeats 8000000
theorem xok {prog : Program} {w : World} {s : Shared} {p : Program} {loose : List Str} {mg mb : Str → Option Value} (KX : (hd.heap_1 w.params).In s.heap) (T : TopRead p loose mg mb s.heap) :
    Ctx.Ok ⟨prog, w, hd.heap_1 w.params, s.heap, 31, p, loose, mg, mb⟩ := by
  refine ⟨fun x hx => ?_, KX, T, rfl, rfl, rfl, rfl, rfl, rfl, rfl⟩
  simp only [biNames, List.mem_cons, List.not_mem_nil, or_false] at hx
  rcases hx with rfl | rfl | rfl | rfl | rfl | rfl | rfl | rfl | rfl <;> rfl
theorem codeOk {prog : Program} {w : World} {s : Shared} {p : Program} {loose : List Str} {mg mb : Str → Option Value} : ∃ fI ib,
    CdO ⟨prog, w, hd.heap_1 w.params, s.heap, 31, p, loose, mg, mb⟩ fI ib := by
  refine ⟨_, _, ⟨rfl, rfl, rfl, rfl, rfl, rfl, rfl, rfl, rfl, rfl, rfl, rfl, ⟨_, _, rfl, rfl, rfl, rfl, rfl, rfl, rfl, rfl, ?_, ?_⟩, ?_⟩⟩
  · intro y hy
    simp only [iniNames, List.mem_cons, List.not_mem_nil, or_false] at hy
    rcases hy with rfl | rfl | rfl | rfl | rfl | rfl <;> rfl
  · intro vals h
    apply lenS h; intro _ _ h; apply len5 h; intros; rfl
  · exact ⟨fun n => List.getD [_, _, _, _, _, _, _, _, _, _, _, _, _, _, _, _, _, _, _, _] n ⟨0, 0, 0, 0⟩, rfl⟩
theorem glue {prog : Program} {w : World} {s : Shared} {p : Program} {loose : List Str} {mg mb : Str → Option Value} (KX : (hd.heap_1 w.params).In s.heap) (T : TopRead p loose mg mb s.heap)
    {a : Addr} {vs : List Value} (hL : s.heap.IsList a vs.toArray) {is : List Int} (hI : IntsAre vs is) (hle : is.length ≤ 63) {R : Result → Shared → Prop}
    (hR : ∀ s', (∀ b o, s.heap.get? b = some o → s'.heap.get? b = some o) → s'.gens = s.gens → s'.os = s.os → R (.ok (.ret (.bool true))) s') :
    codeAny (model prog w) callerA (.call (.ref 319) ⟨[.ref a], []⟩) R s := by
  obtain ⟨fI, ib, co⟩ := codeOk (prog := prog) (w := w) (s := s) (p := p) (loose := loose) (mg := mg) (mb := mb)
  refine law_walk (X := ⟨prog, w, hd.heap_1 w.params, s.heap, 31, p, loose, mg, mb⟩) (xok KX T) co rfl rfl rfl rfl (by intro _ h; apply len1 h; intros; rfl) rfl (by decide) rfl rfl rfl (fun _ _ => rfl) ?_ rfl hL hI hle hR
  exact ⟨rfl, rfl, by decide, by decide⟩
end
end Mine.Internal
set_option maxRecDepth 100000 in
set_option maxHeartbeats 8000000 in
theorem PySem.Challenge.cw_pf0209_01_holds : PySem.Challenge.rw_pf0209_01.Holds :=
  Mine.Internal.hd (by
  k_fill
  intro w s₀ s₁ mg mb G Y fa o pm cd doc dV kV ho hd hcd hD hmg hg args vals as hpre hlay hrd hwl hlo
  have KX := kIn_of Y
  have X := (Ground.X G).1
  have V := (Ground.X G).2
  refine Ground.open G ?_
  intro T B D TE TW
  try (refine guard_noD D (by decide +kernel) ?_; clear D)
  have hfa := mg_of KX T.g (n := Str.ofString "law") (v := .ref 319) rfl
  have hfa' : mg (Str.ofString "law") = some (.ref fa) := hmg
  rw [hfa] at hfa'
  cases hfa'
  clear hd hcd hD hmg ho
  have TR := topRead_of T
  wrow_args hpre hlay hrd hwl hlo
  clear Y G
  have hL := ‹s₁.heap.IsList _ (List.toArray _)›
  have hI := ‹IntsAre _ _›
  refine wpAny_call (Mine.Internal.glue KX TR hL hI (by omega) fun s' keep gens os => ?_)
  refine GoodW.toG ⟨.inl ⟨.bool true, WData.bool true, [], rfl, fun _ => rfl, .bool true, ?_, fun _ => ⟨.nil, nofun⟩⟩, keep, os, gens.trans hg⟩
  wrow_post)
