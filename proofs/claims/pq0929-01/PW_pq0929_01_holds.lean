import PyProof.Rows.All
import Wide.All
import OpenK.AllK
import Wide.FinOn
import Lean
import PySem.Challenge.RW_pq0929_01
open PySem PySem.W PySem.Calls PyProof.Rows PySem.Spec
set_option linter.unusedVariables false
set_option Elab.async false
set_option compiler.extract_closed false
set_option maxRecDepth 100000
set_option maxHeartbeats 8000000
set_option pp.deepTerms false
set_option pp.deepTerms.threshold 3
namespace Mine
noncomputable def keepN : Nat → List Stmt → List Stmt
  | _, [] => []
  | n, x :: r => if n == 1 || n == 4 || n == 6 || n == 16 then keepN (n + 1) r else x :: keepN (n + 1) r
noncomputable def viewP : Program := { PySem.Challenge.pw_pq0929_01 with main := { PySem.Challenge.pw_pq0929_01.main with body := keepN 0 PySem.Challenge.pw_pq0929_01.main.body } }
theorem left_boot {p q : Program} {loose : List PySem.Str} {Xt : Shared → Bool} {α : Type} {Yf : Shared → α} {Ya : World → α} {N : Nat} {g0 : Bool}
    (e : opening p = plainProg p.main.scope.names) (hN : Nat.ble 600 N = true) (f : ∀ s, fenceModules? p s = some s)
    (z : ∀ w : World, ((boot_heap w.params).isNs mainGlobals && (#[] : Array GenState).size == 0) = true)
    (h : ∀ (w : World) (os : OsState), (PySem.W.Fast.tw14082659384304107361 PySem.W.Fast.tw14364793385576792824 p w (boot_heap w.params).objs.size ((boot_heap w.params).nsMap mainGlobals "__annotations__") N ⟨boot_heap w.params, #[], boot_drawn, boot_toks, os⟩ (topStub p)).map
      (fun s => ((staticsOk (importedModules p.main.body) (boot_heap w.params) s.heap && namesBound p s.heap && gensDone s && laidKept (boot_heap w.params) s.heap), PySem.W.Fast.tw4187177175401517315 q loose (importedModules p.main.body) Xt g0 s, Yf s)) = some (true, openGood q loose, Ya w)) : LeftO p q loose Xt Yf Ya N g0 := fun w => by
  obtain ⟨⟨h', gs, d, k, os⟩, e1, e2⟩ := Option.map_eq_some_iff.mp (boot_open e hN f w)
  obtain ⟨rfl, rfl, rfl, rfl⟩ : h' = boot_heap w.params ∧ gs = #[] ∧ d = boot_drawn ∧ k = boot_toks := by simpa using e2
  obtain ⟨s, r1, r2⟩ := Option.map_eq_some_iff.mp (h w os)
  rw [← PySem.W.Fast.te14082659384304107361, ← PySem.W.Fast.te14364793385576792824] at r1
  rw [← PySem.W.Fast.te4187177175401517315] at r2
  obtain ⟨l1, l2⟩ := Prod.mk.inj r2
  have t : topFrom treeTable p w N ⟨boot_heap w.params, #[], boot_drawn, boot_toks, os⟩ = some s := by
    simp only [topFrom, z w, r1, Option.bind_some, l1]
  rw [openEnds, e1, Option.bind_some, t, Option.map_some, l2]
local macro_rules | `(tactic| o_head $H) => `(tactic| (
  refine holds_open (q := Mine.viewP) (loose := [PySem.Str.ofString "PostError"]) (Xt := fun s => xlAt Mine.viewP [] s && recOk (RowW.records (PySem.Challenge.rw_pq0929_01.row.toRowW)) s) (XP := XL Mine.viewP []) (Yf := Hook.obs $H) (Ya := Hook.val $H) (YP := Hook.says $H) (N := 2454) ?hl (Hook.of $H) (Hook.keeps $H) (fun s e => xl_of s (Bool.and_eq_true_iff.mp e).1) XL.keeps (by rfl) (by rfl) (by rfl) (fun s e => recFacts_of (Bool.and_eq_true_iff.mp e).2) (by rfl) (by first | assumption | decide +kernel) (by decide +kernel) ⟨rfl, rfl, rfl, rfl, rfl, by decide +kernel⟩ ?hw ?hc
  case hl => exact left_boot (by kernel_rfl) (by decide +kernel) (fun _ => by kernel_rfl) (fun _ => by kernel_rfl) (fun _ _ => by kernel_rfl)))
theorem look_o1 : (sreFenced PySem.Challenge.pw_pq0929_01.main) = true := by kernel_rfl
theorem look_o2 : (((moduleNames PySem.Challenge.pw_pq0929_01.main.body).isEmpty || lookedIntoSs (moduleNames PySem.Challenge.pw_pq0929_01.main.body) PySem.Challenge.pw_pq0929_01.main.body)) = true := by kernel_rfl
theorem look_o3 : (namesResolve PySem.Challenge.pw_pq0929_01) = true := by kernel_rfl
theorem look_o4 : (PySem.Challenge.pw_pq0929_01.boundNames.all (fun n => !worldNames.contains n)) = true := by kernel_rfl
theorem look_o5 : (noRoadLSs { strict := !(importedModules PySem.Challenge.pw_pq0929_01.main.body).all cThrough.contains, foot := none, bare := (["vars", "dir", "locals"] : List PySem.Str).filter (readsOut PySem.Challenge.pw_pq0929_01 PySem.Challenge.pw_pq0929_01.main.body) } PySem.Challenge.pw_pq0929_01.main.body) = true := by kernel_rfl
theorem look_o6 : ((namesMeet PySem.Challenge.pw_pq0929_01 PySem.Challenge.pw_pq0929_01.main.body fun _ n => attrL n)) = true := by kernel_rfl
theorem look_open : looksOpen PySem.Challenge.pw_pq0929_01 = true := by
  delta looksOpen
  exact look_both (look_both (look_both (look_both (look_both look_o1 look_o2) look_o3) look_o4) look_o5) look_o6
theorem look_part : PySem.W.OpenRow.partSaid PySem.Challenge.rw_pq0929_01.row = true := by
  delta PySem.W.OpenRow.partSaid
  exact look_both (look_both (look_both (look_both (look_both (look_both (look_both (look_both (look_both (look_both (look_both (look_both (look_both (look_open) (by kernel_rfl)) (by kernel_rfl)) (by kernel_rfl)) (by kernel_rfl)) (by kernel_rfl)) (by kernel_rfl)) (by kernel_rfl)) (by kernel_rfl)) (by kernel_rfl)) (by kernel_rfl)) (by kernel_rfl)) (by kernel_rfl)) (by kernel_rfl)
theorem look_row : PySem.W.OpenRow.wellSaid PySem.Challenge.rw_pq0929_01.row = true := by
  delta PySem.W.OpenRow.wellSaid
  exact look_both (look_both look_part (by kernel_rfl)) (by kernel_rfl)
theorem look_l1 : (decide (PySem.Challenge.rw_pq0929_01.foot ≤ (behindTheImports PySem.Challenge.rw_pq0929_01.prog).length)) = true := by kernel_rfl
theorem look_l2 : (PySem.Challenge.rw_pq0929_01.footing.all footLine) = true := by kernel_rfl
theorem look_l3 : (noClassBlock PySem.Challenge.rw_pq0929_01.prog PySem.Challenge.rw_pq0929_01.footing) = true := by kernel_rfl
theorem look_l4 : (PySem.Challenge.rw_pq0929_01.most.all (fun n => decide (63 ≤ n))) = true := by kernel_rfl
theorem look_l5 : (PySem.Challenge.rw_pq0929_01.bound.all (fun n => decide (2 ^ 63 ≤ n))) = true := by kernel_rfl
theorem look_l6 : (noRoadLSs { strict := true, foot := some PySem.Challenge.rw_pq0929_01.bound', writes := PySem.Challenge.rw_pq0929_01.writes, may := PySem.Challenge.rw_pq0929_01.may } PySem.Challenge.rw_pq0929_01.footing) = true := by kernel_rfl
theorem look_l7 : (defStands PySem.Challenge.rw_pq0929_01.about PySem.Challenge.rw_pq0929_01.above) = true := by kernel_rfl
theorem look_l8 : (PySem.Challenge.rw_pq0929_01.namesIt) = true := by kernel_rfl
theorem look_l9 : ((["type", "isinstance", "issubclass", "getattr", "hasattr"] : List PySem.Str).all (fun n => PySem.Challenge.rw_pq0929_01.about != [n])) = true := by kernel_rfl
theorem look_l10 : (PySem.Challenge.rw_pq0929_01.bound'.all (fun n => !builtinNamed n || PySem.Challenge.rw_pq0929_01.about == [n] || !PySem.Challenge.rw_pq0929_01.reads n)) = true := by kernel_rfl
theorem look_l11 : ((!PySem.Challenge.rw_pq0929_01.writes || (PySem.Challenge.rw_pq0929_01.prog.main.body.flatMap importedNames).all fun n => !PySem.Challenge.rw_pq0929_01.reads n)) = true := by kernel_rfl
theorem look_l12 : ((PySem.Challenge.rw_pq0929_01.prog.main.body.flatMap importedNames).all (fun n => !PySem.Challenge.rw_pq0929_01.reads n || (drawsOf n PySem.Challenge.rw_pq0929_01.prog.main.body).all fun mn => mn.2 != ("attrgetter" : PySem.Str) && mn.2 != ("methodcaller" : PySem.Str))) = true := by kernel_rfl
theorem look_l13 : (namesMeet PySem.Challenge.rw_pq0929_01.prog PySem.Challenge.rw_pq0929_01.footing (fun sc n => (!(["type", "isinstance", "issubclass", "getattr", "hasattr"] : List PySem.Str).contains n || sc.names.lookup n == some .globalImplicit) && (PySem.Challenge.rw_pq0929_01.may != some n || sc.kind == .module || sc.names.lookup n == some .globalImplicit))) = true := by kernel_rfl
theorem look_l14 : (PySem.Challenge.rw_pq0929_01.own.contains PySem.Challenge.rw_pq0929_01.name) = true := by kernel_rfl
theorem look_l15 : (PySem.Challenge.rw_pq0929_01.own.eraseDups.length == PySem.Challenge.rw_pq0929_01.own.length) = true := by kernel_rfl
theorem look_l16 : (PySem.Challenge.rw_pq0929_01.own.all (fun n => !builtinNamed n)) = true := by kernel_rfl
theorem look_l17 : (namesMeet PySem.Challenge.rw_pq0929_01.prog PySem.Challenge.rw_pq0929_01.above (fun _ n => !PySem.Challenge.rw_pq0929_01.own.contains n)) = true := by kernel_rfl
theorem look_l18 : ((namesMeet PySem.Challenge.rw_pq0929_01.prog PySem.Challenge.rw_pq0929_01.footing fun sc n => sc.kind == .module || sc.names.lookup n != some .globalExplicit)) = true := by kernel_rfl
theorem law_said : PySem.W.OpenLaw.wellSaid PySem.Challenge.rw_pq0929_01 = true := by
  delta PySem.W.OpenLaw.wellSaid
  exact look_both (look_both (look_both (look_both (look_both (look_both (look_both (look_both (look_both (look_both (look_both (look_both (look_both (look_both (look_both (look_both (look_both (look_both look_row look_l1) look_l2) look_l3) look_l4) look_l5) look_l6) look_l7) look_l8) look_l9) look_l10) look_l11) look_l12) look_l13) look_l14) look_l15) look_l16) look_l17) look_l18
local macro_rules | `(tactic| o_law) => `(tactic| refine PySem.W.holds_law Mine.law_said fun said => ?_)
open_top hd for PySem.Challenge.rw_pq0929_01

end Mine
namespace Mine
/- chains of ∃ and ∧ in one step each -/
inductive Ex2.{u0, u1} {α : Sort u0} {β : Sort u1} (P : α → β → Prop) : Prop where
  | mk (x0 : α) (x1 : β) (h : P x0 x1)
inductive Ex3.{u0, u1, u2} {α : Sort u0} {β : Sort u1} {γ : Sort u2} (P : α → β → γ → Prop) : Prop where
  | mk (x0 : α) (x1 : β) (x2 : γ) (h : P x0 x1 x2)
inductive Ex4.{u0, u1, u2, u3} {α : Sort u0} {β : Sort u1} {γ : Sort u2} {δ : Sort u3} (P : α → β → γ → δ → Prop) : Prop where
  | mk (x0 : α) (x1 : β) (x2 : γ) (x3 : δ) (h : P x0 x1 x2 x3)
inductive Ex5.{u0, u1, u2, u3, u4} {α : Sort u0} {β : Sort u1} {γ : Sort u2} {δ : Sort u3} {ε : Sort u4} (P : α → β → γ → δ → ε → Prop) : Prop where
  | mk (x0 : α) (x1 : β) (x2 : γ) (x3 : δ) (x4 : ε) (h : P x0 x1 x2 x3 x4)
inductive Ex6.{u0, u1, u2, u3, u4, u5} {α : Sort u0} {β : Sort u1} {γ : Sort u2} {δ : Sort u3} {ε : Sort u4} {ζ : Sort u5} (P : α → β → γ → δ → ε → ζ → Prop) : Prop where
  | mk (x0 : α) (x1 : β) (x2 : γ) (x3 : δ) (x4 : ε) (x5 : ζ) (h : P x0 x1 x2 x3 x4 x5)
inductive Ex7.{u0, u1, u2, u3, u4, u5, u6} {α : Sort u0} {β : Sort u1} {γ : Sort u2} {δ : Sort u3} {ε : Sort u4} {ζ : Sort u5} {η : Sort u6} (P : α → β → γ → δ → ε → ζ → η → Prop) : Prop where
  | mk (x0 : α) (x1 : β) (x2 : γ) (x3 : δ) (x4 : ε) (x5 : ζ) (x6 : η) (h : P x0 x1 x2 x3 x4 x5 x6)
inductive A3 (a0 a1 a2 : Prop) : Prop where
  | mk (h0 : a0) (h1 : a1) (h2 : a2)
inductive A4 (a0 a1 a2 a3 : Prop) : Prop where
  | mk (h0 : a0) (h1 : a1) (h2 : a2) (h3 : a3)
inductive A5 (a0 a1 a2 a3 a4 : Prop) : Prop where
  | mk (h0 : a0) (h1 : a1) (h2 : a2) (h3 : a3) (h4 : a4)
inductive A6 (a0 a1 a2 a3 a4 a5 : Prop) : Prop where
  | mk (h0 : a0) (h1 : a1) (h2 : a2) (h3 : a3) (h4 : a4) (h5 : a5)
inductive A7 (a0 a1 a2 a3 a4 a5 a6 : Prop) : Prop where
  | mk (h0 : a0) (h1 : a1) (h2 : a2) (h3 : a3) (h4 : a4) (h5 : a5) (h6 : a6)
inductive A8 (a0 a1 a2 a3 a4 a5 a6 a7 : Prop) : Prop where
  | mk (h0 : a0) (h1 : a1) (h2 : a2) (h3 : a3) (h4 : a4) (h5 : a5) (h6 : a6) (h7 : a7)
inductive A9 (a0 a1 a2 a3 a4 a5 a6 a7 a8 : Prop) : Prop where
  | mk (h0 : a0) (h1 : a1) (h2 : a2) (h3 : a3) (h4 : a4) (h5 : a5) (h6 : a6) (h7 : a7) (h8 : a8)
inductive A10 (a0 a1 a2 a3 a4 a5 a6 a7 a8 a9 : Prop) : Prop where
  | mk (h0 : a0) (h1 : a1) (h2 : a2) (h3 : a3) (h4 : a4) (h5 : a5) (h6 : a6) (h7 : a7) (h8 : a8) (h9 : a9)
inductive A11 (a0 a1 a2 a3 a4 a5 a6 a7 a8 a9 a10 : Prop) : Prop where
  | mk (h0 : a0) (h1 : a1) (h2 : a2) (h3 : a3) (h4 : a4) (h5 : a5) (h6 : a6) (h7 : a7) (h8 : a8) (h9 : a9) (h10 : a10)
inductive A12 (a0 a1 a2 a3 a4 a5 a6 a7 a8 a9 a10 a11 : Prop) : Prop where
  | mk (h0 : a0) (h1 : a1) (h2 : a2) (h3 : a3) (h4 : a4) (h5 : a5) (h6 : a6) (h7 : a7) (h8 : a8) (h9 : a9) (h10 : a10) (h11 : a11)


end Mine
namespace Mine

/-- the world in which the law runs -/
structure Wd where
  prog : Program
  w : World
  K : Frag
  mg : Str → Option Value
  mb : Str → Option Value
  p : Program
  loose : List Str
  mean : ExcName → Option Value

noncomputable abbrev Wd.M (W : Wd) : Model := model W.prog W.w

noncomputable def Le (g h : Heap) : Prop := ∀ b o, g.get? b = some o → h.get? b = some o
theorem Le.refl (h : Heap) : Le h h := fun _ _ e => e
theorem Le.trans {a b c : Heap} (x : Le a b) (y : Le b c) : Le a c := fun d o e => y d o (x d o e)

structure Wd.Stat (W : Wd) (h : Heap) : Prop where
  K : W.K.In h
  T : Top W.p W.loose W.mean W.mg W.mb h
  C : CodeHd h 91 89
theorem Wd.Stat.keeps {W : Wd} {h h' : Heap} (x : W.Stat h) (k : Le h h') : W.Stat h' := ⟨x.K.keeps k, x.T.keeps k, x.C.keeps k⟩

noncomputable def Rd (h : Heap) (v : Value) (d : PyData) : Prop := ∃ as, Reads h v d as
noncomputable def Rds (h : Heap) (vs : List Value) (ds : List PyData) : Prop := ∃ as, ReadsAll h vs ds as
theorem Rd.keeps {h h' : Heap} {v : Value} {d : PyData} (x : Rd h v d) (k : Le h h') : Rd h' v d := let ⟨as, r⟩ := x; ⟨as, Reads.keeps k r⟩
theorem Rds.keeps {h h' : Heap} {v : List Value} {d : List PyData} (x : Rds h v d) (k : Le h h') : Rds h' v d := let ⟨as, r⟩ := x; ⟨as, ReadsAll.keeps k r⟩
theorem Rds.nil {h : Heap} : Rds h [] [] := ⟨_, .nil⟩
theorem Rds.cons {h : Heap} {v : Value} {d : PyData} {vs : List Value} {ds : List PyData} (x : Rd h v d) (y : Rds h vs ds) : Rds h (v :: vs) (d :: ds) :=
  let ⟨_, r⟩ := x; let ⟨_, q⟩ := y; ⟨_, .cons r q⟩
theorem Rds.inv {h : Heap} {v : Value} {d : PyData} {vs : List Value} {ds : List PyData} (x : Rds h (v :: vs) (d :: ds)) : Rd h v d ∧ Rds h vs ds := by
  obtain ⟨as, r⟩ := x; cases r with | cons a b => exact ⟨⟨_, a⟩, ⟨_, b⟩⟩
theorem Rds.rec' {h : Heap} {P : List Value → List PyData → Prop} (h0 : P [] []) (h1 : ∀ v vs d ds, Rd h v d → Rds h vs ds → P vs ds → P (v :: vs) (d :: ds)) {vs : List Value} {ds : List PyData} (r : Rds h vs ds) : P vs ds := by
  induction vs generalizing ds with
  | nil => cases ds with
    | nil => exact h0
    | cons _ _ => obtain ⟨_, r⟩ := r; cases r
  | cons v vs ih => cases ds with
    | nil => obtain ⟨_, r⟩ := r; cases r
    | cons d ds => exact h1 _ _ _ _ r.inv.1 r.inv.2 (ih r.inv.2)
theorem Rds.len {h : Heap} {vs : List Value} {ds : List PyData} (r : Rds h vs ds) : vs.length = ds.length :=
  Rds.rec' (P := fun vs ds => vs.length = ds.length) rfl (fun _ _ _ _ _ _ ih => congrArg (· + 1) ih) r
theorem Rds.append {h : Heap} {vs ws : List Value} {ds es : List PyData} (r : Rds h vs ds) (q : Rds h ws es) : Rds h (vs ++ ws) (ds ++ es) :=
  Rds.rec' (P := fun vs ds => Rds h (vs ++ ws) (ds ++ es)) q (fun _ _ _ _ a _ ih => .cons a ih) r
theorem Rds.get {h : Heap} {vs : List Value} {ds : List PyData} (r : Rds h vs ds) : ∀ (i : Nat) {d : PyData}, ds[i]? = some d → ∃ v, vs[i]? = some v ∧ Rd h v d :=
  Rds.rec' (P := fun vs ds => ∀ (i : Nat) {d : PyData}, ds[i]? = some d → ∃ v, vs[i]? = some v ∧ Rd h v d) (fun _ _ e => by cases e) (fun _ _ _ _ a _ ih i _ e => match i, e with
    | 0, e => by cases e; exact ⟨_, rfl, a⟩
    | i + 1, e => ih i e) r

theorem Rd.int_inv {h : Heap} {v : Value} {i : Int} (x : Rd h v (.int i)) : ∃ t, v = .int i t := by obtain ⟨as, r⟩ := x; cases r; exact ⟨_, rfl⟩
theorem Rd.str_inv {h : Heap} {v : Value} {i : Str} (x : Rd h v (.str i)) : ∃ t, v = .str i t := by obtain ⟨as, r⟩ := x; cases r; exact ⟨_, rfl⟩
theorem Rd.bool_inv {h : Heap} {v : Value} {i : Bool} (x : Rd h v (.bool i)) : v = .bool i := by obtain ⟨as, r⟩ := x; cases r; rfl
theorem Rd.none_inv {h : Heap} {v : Value} (x : Rd h v .none) : v = .none := by obtain ⟨as, r⟩ := x; cases r; rfl
theorem Rd.list_inv {h : Heap} {v : Value} {ds : List PyData} (x : Rd h v (.list ds)) : Ex2 fun a vs => A3 (v = .ref a) (h.IsList a vs.toArray) (Rds h vs ds) := by
  obtain ⟨as, r⟩ := x; cases r with | list h1 h2 h3 h4 => rename_i a o vs n as; exact ⟨a, vs.toList, rfl, ⟨o, h1, h2, n, by simpa using h3⟩, ⟨_, h4⟩⟩
theorem Rd.tup_inv {h : Heap} {v : Value} {ds : List PyData} (x : Rd h v (.tuple ds)) : Ex2 fun a vs => A3 (v = .ref a) (IsTup h a vs.toArray) (Rds h vs ds) := by
  obtain ⟨as, r⟩ := x; cases r with | tuple h1 h2 h3 h4 => rename_i a o vs n; exact ⟨a, vs.toList, rfl, ⟨o, h1, h2, n, by simpa using h3⟩, ⟨_, h4⟩⟩
theorem Rd.int {h : Heap} {i : Int} {t : Tok} : Rd h (.int i t) (.int i) := ⟨_, .int i t⟩
theorem Rd.str {h : Heap} {i : Str} {t : Tok} : Rd h (.str i t) (.str i) := ⟨_, .str i t⟩
theorem Rd.bool {h : Heap} {i : Bool} : Rd h (.bool i) (.bool i) := ⟨_, .bool i⟩
theorem Rd.none {h : Heap} : Rd h .none .none := ⟨_, .none⟩
theorem Rd.list {h : Heap} {a : Addr} {vs : List Value} {ds : List PyData} (hl : h.IsList a vs.toArray) (r : Rds h vs ds) : Rd h (.ref a) (.list ds) := by
  obtain ⟨o, h1, h2, n, h3⟩ := hl; obtain ⟨as, r⟩ := r; exact ⟨_, .list h1 h2 h3 (by simpa using r)⟩
theorem Rd.tup {h : Heap} {a : Addr} {vs : List Value} {ds : List PyData} (hl : IsTup h a vs.toArray) (r : Rds h vs ds) : Rd h (.ref a) (.tuple ds) := by
  obtain ⟨o, h1, h2, n, h3⟩ := hl; obtain ⟨as, r⟩ := r; exact ⟨_, .tuple h1 h2 h3 (by simpa using r)⟩

/-- what a name may hold: data that stand, or a list that is still being changed -/
inductive V where
  | dat (d : PyData)
  | ref (a : Addr)

noncomputable def LayV (h : Heap) (v : Value) : V → Prop
  | .dat d => Rd h v d
  | .ref a => v = .ref a
theorem LayV.keeps {h h' : Heap} {v : Value} : ∀ {x : V}, LayV h v x → Le h h' → LayV h' v x
  | .dat _, r, k => Rd.keeps r k
  | .ref _, r, _ => r
inductive LayVs (h : Heap) : List Value → List V → Prop where
  | nil : LayVs h [] []
  | cons {v vs x xs} : LayV h v x → LayVs h vs xs → LayVs h (v :: vs) (x :: xs)
theorem LayVs.keeps {h h' : Heap} (k : Le h h') {vs : List Value} {xs : List V} (r : LayVs h vs xs) : LayVs h' vs xs := by
  induction r with
  | nil => exact .nil
  | cons a _ ih => exact .cons (a.keeps k) ih
theorem LayVs.dats {h : Heap} : ∀ {ds : List PyData} {vs : List Value}, LayVs h vs (ds.map V.dat) → Rds h vs ds
  | [], _, r => by cases r; exact .nil
  | _ :: ds, _, r => by cases r with | cons a b => exact .cons a (LayVs.dats b)
theorem LayVs.of_rds {h : Heap} {vs : List Value} {ds : List PyData} (r : Rds h vs ds) : LayVs h vs (ds.map V.dat) :=
  Rds.rec' (P := fun vs ds => LayVs h vs (ds.map V.dat)) .nil (fun _ _ _ _ a _ ih => .cons a ih) r
theorem LayVs.len {h : Heap} {vs : List Value} {xs : List V} (r : LayVs h vs xs) : vs.length = xs.length := by
  induction r with
  | nil => rfl
  | cons _ _ ih => exact congrArg (· + 1) ih
theorem LayVs.append {h : Heap} {vs ws : List Value} {xs ys : List V} (r : LayVs h vs xs) (q : LayVs h ws ys) : LayVs h (vs ++ ws) (xs ++ ys) := by
  induction r with
  | nil => exact q
  | cons a _ ih => exact .cons a ih
theorem LayVs.get {h : Heap} {vs : List Value} {xs : List V} (r : LayVs h vs xs) : ∀ (i : Nat) {x : V}, xs[i]? = some x → ∃ v, vs[i]? = some v ∧ LayV h v x := by
  induction r with
  | nil => exact fun i _ e => by cases e
  | cons a _ ih => exact fun i _ e => match i, e with
    | 0, e => by cases e; exact ⟨_, rfl, a⟩
    | i + 1, e => ih i e

noncomputable abbrev Mu := List (Addr × List V)
structure St where
  loc : List (Str × V)
  mu : Mu

/-- one activation: its block; the heap that it found, what may change hidden in it; what is its own; what it may not lay upon -/
structure Act where
  env : Env
  h₀ : Heap
  own : List Addr
  l : List Addr
  s₀ : Shared

noncomputable abbrev keys (mu : Mu) : List Addr := mu.map (·.1)
noncomputable def hid (C : Act) (mu : Mu) : List Addr := 89 :: (C.own ++ keys mu)
noncomputable def hidl (C : Act) (mu : Mu) : List Addr := C.l ++ hid C mu
noncomputable abbrev G (C : Act) (σ : St) (h : Heap) : Heap := hideAll h (hidl C σ.mu)

theorem hide_le {h : Heap} {l : List Addr} : Le (hideAll h l) h := fun _ _ e => of_hideAll l e
theorem hide_out {h : Heap} {l : List Addr} {b : Addr} {o : Obj} (e : (hideAll h l).get? b = some o) : b ∉ l := fun m => by rw [hideAll_none l m] at e; cases e
theorem hide_mono {h h' : Heap} {l l' : List Addr} (k : ∀ b o, b ∉ l → h.get? b = some o → h'.get? b = some o ∧ b ∉ l') : Le (hideAll h l) (hideAll h' l') := fun b o e =>
  let ⟨e', n⟩ := k b o (hide_out e) (of_hideAll l e); hideAll_get l' e' n
theorem hide_same {h h' : Heap} {l : List Addr} (k : ∀ b o, b ∉ l → h.get? b = some o → h'.get? b = some o) : Le (hideAll h l) (hideAll h' l) := hide_mono fun b o n e => ⟨k b o n e, n⟩
theorem hide_ext {h h' : Heap} {l : List Addr} (k : Le h h') : Le (hideAll h l) (hideAll h' l) := hide_same fun b o _ e => k b o e
theorem hide_sub {h : Heap} {l l' : List Addr} (s : ∀ a ∈ l', a ∈ l) : Le (hideAll h l) (hideAll h l') := hide_mono fun b o n e => ⟨e, fun m => n (s b m)⟩

/-- the table of the code that sort_rows makes its two functions from -/
noncomputable def CodesOk (h : Heap) (ps : List Value) : Prop :=
  ∀ (pos : Pos) (cv : Value), codeAmong pos ps = some cv → h.CodeRec cv (Str.ofString "sort_rows.<locals>.<lambda>")
noncomputable def TabOk (h : Heap) : Prop := ∃ ps, A3 (h.get? 89 = some (tabObj ps)) (TriplesOk ps.toList) (CodesOk h ps.toList)

/-- what is an activation's own beside its names: a cell, or the frame of one that waits for it -/
noncomputable def OwnD (e : Env) (g : Heap) (c : Addr) (w : Option Value) (d : Data) : Prop := (d = .cell w ∧ c ∈ e.cells.map (·.2)) ∨ ((∃ es ep, d = .dict es ep) ∧ c ∉ e.cells.map (·.2) ∧ ∃ o, g.get? c = some o ∧ o.data = d)
inductive NsOk (e : Env) (loc : List (Str × V)) (g h : Heap) : Prop where
  | mk (m : Str → Option Value) (hm : h.Ns e.locals m) (k : ∀ x v, loc.lookup x = some v → e.kindOf x = some .local → ∃ v', m x = some v' ∧ LayV g v' v)
inductive CellOk (e : Env) (g h : Heap) (x : Str) (v : V) : Prop where
  | mk (c : Addr) (v' : Value) (e : e.cells.lookup x = some c) (i : h.IsCell c (some v')) (l : LayV g v' v)
inductive OwnOk (en : Env) (g h : Heap) (c : Addr) : Prop where
  | mk (w : Option Value) (o : Obj) (e : h.get? c = some o) (d : OwnD en g c w o.data)
inductive MuOk (g h : Heap) (p : Addr × List V) : Prop where
  | mk (items : Array Value) (n : Nat) (e : h.get? p.1 = some (listOf items n)) (l : LayVs g items.toList p.2)
structure Hold (C : Act) (σ : St) (h : Heap) : Prop where
  keep : Le C.h₀ (hideAll h (hid C σ.mu))
  nodup : (hid C σ.mu).Nodup
  tab : TabOk h
  ns : NsOk C.env σ.loc (G C σ h) h
  cell : ∀ x v, σ.loc.lookup x = some v → C.env.kindOf x ≠ some .local → CellOk C.env (G C σ h) h x v
  ownc : ∀ c ∈ C.own, c ≠ C.env.locals → OwnOk C.env C.s₀.heap h c
  mus : ∀ p ∈ σ.mu, MuOk (G C σ h) h p

structure ActOk (W : Wd) (C : Act) : Prop where
  loc : C.env.locals ∈ C.own
  kind : C.env.scope.kind = .function
  glob : C.env.globals = mainGlobals
  blt : C.env.builtins = builtinsNs
  lex : ∀ a ∈ C.l, ∃ o, C.h₀.get? a = some o
  stat : W.Stat (hideAll C.h₀ C.l)
  inj : ∀ x y c, C.env.cells.lookup x = some c → C.env.cells.lookup y = some c → c ∈ C.own → c ≠ C.env.locals → x = y

theorem hideAll_append (h : Heap) : ∀ l l' : List Addr, hideAll h (l ++ l') = hideAll (hideAll h l) l'
  | [], _ => rfl
  | a :: r, l' => hideAll_append (h.hide a) r l'
theorem Hold.lt {W : Wd} {C : Act} {σ : St} {h : Heap} (hC : ActOk W C) (H : Hold C σ h) : ∀ a ∈ hidl C σ.mu, a < h.objs.size := by
  intro a ha
  rcases List.mem_append.mp ha with ha | ha
  · obtain ⟨o, e⟩ := hC.lex a ha
    exact Heap.lt_size (of_hideAll _ (H.keep _ _ e))
  · rcases List.mem_cons.mp ha with rfl | ha
    · obtain ⟨ps, e, _⟩ := H.tab
      exact Heap.lt_size e
    · rcases List.mem_append.mp ha with ha | ha
      · by_cases q : a = C.env.locals
        · obtain ⟨m, e, _⟩ := H.ns
          rw [q]; exact e.lt
        · obtain ⟨w, o, e, _⟩ := H.ownc a ha q
          exact Heap.lt_size e
      · obtain ⟨p, hp, rfl⟩ := List.mem_map.mp ha
        obtain ⟨i, n, e, _⟩ := H.mus p hp
        exact Heap.lt_size e
theorem Hold.base {W : Wd} {C : Act} {σ : St} {h : Heap} (hC : ActOk W C) (H : Hold C σ h) : Le (hideAll C.h₀ C.l) (G C σ h) := by
  intro b o e
  have e1 := H.keep b o (of_hideAll _ e)
  refine hideAll_get _ (of_hideAll _ e1) fun m => ?_
  rcases List.mem_append.mp m with m | m
  · exact hide_out e m
  · exact hide_out e1 m
theorem Hold.stat {W : Wd} {C : Act} {σ : St} {h : Heap} (hC : ActOk W C) (H : Hold C σ h) : W.Stat (G C σ h) := hC.stat.keeps (H.base hC)

inductive Sm (s s' : Shared) : Prop where
  | mk (h : Heap) (tk : Nat) (e : s' = { s with heap := h, toks := tk })
theorem Sm.refl (s : Shared) : Sm s s := ⟨s.heap, s.toks, rfl⟩
theorem Sm.trans {a b c : Shared} (x : Sm a b) (y : Sm b c) : Sm a c := by obtain ⟨h, t, rfl⟩ := x; obtain ⟨h', t', rfl⟩ := y; exact ⟨h', t', rfl⟩
theorem Sm.heap {s s' : Shared} (h : Heap) (x : s' = { s with heap := h }) : Sm s s' := ⟨h, s.toks, by rw [x]⟩

/-- room for calls -/
structure Rm (d : Nat) (A : Around) : Prop where
  depth : A.depth + d ≤ 900
  units : A.units + 10 * d ≤ 9000
  handled : A.handled = none
theorem Rm.mono {d d' : Nat} {A : Around} (r : Rm d A) (h : d' ≤ d) : Rm d' A := ⟨by have := r.depth; lia, by have := r.units; lia, r.handled⟩

/-- what a piece of the walk leaves behind it -/
inductive Post (C : Act) (σ : St) (s : Shared) (k : V → St → Prop) (v : Value) (s' : Shared) : Prop where
  | mk (x : V) (σ' : St) (hk : k x σ') (sm : Sm s s') (H : Hold C σ' s'.heap) (le : Le (G C σ s.heap) (G C σ' s'.heap)) (l : LayV (G C σ' s'.heap) v x)
inductive Posts (C : Act) (σ : St) (s : Shared) (k : List V → St → Prop) (vs : List Value) (s' : Shared) : Prop where
  | mk (x : List V) (σ' : St) (hk : k x σ') (sm : Sm s s') (H : Hold C σ' s'.heap) (le : Le (G C σ s.heap) (G C σ' s'.heap)) (l : LayVs (G C σ' s'.heap) vs x)
noncomputable abbrev NoE : Value → Shared → Prop := fun _ _ => False

noncomputable def WE (W : Wd) (A : Around) (C : Act) (e : Expr) (σ : St) (k : V → St → Prop) : Prop :=
  ∀ s, Hold C σ s.heap → wpAny W.M A (eval e C.env) (Post C σ s k) NoE s
noncomputable def WEs (W : Wd) (A : Around) (C : Act) (pos : Pos) (es : List Expr) (σ : St) (k : List V → St → Prop) : Prop :=
  ∀ s, Hold C σ s.heap → wpAny W.M A (spliced (backTo pos (starEach es C.env))) (Posts C σ s k) NoE s

/-- a step that changes nothing but what it makes; the names of L stay, whatever their dict -/
structure Stp (L : Addr) (m : Str → Option Value) (s s' : Shared) : Prop where
  sm : Sm s s'
  ns : s'.heap.Ns L m
  keep : ∀ b o, b ≠ L → s.heap.get? b = some o → s'.heap.get? b = some o
theorem Stp.of_le {L : Addr} {m : Str → Option Value} {s s' : Shared} (sm : Sm s s') (n : s.heap.Ns L m) (k : Le s.heap s'.heap) : Stp L m s s' := ⟨sm, n.keeps k, fun b o _ e => k b o e⟩
theorem Stp.trans {L : Addr} {m : Str → Option Value} {a b c : Shared} (x : Stp L m a b) (y : Stp L m b c) : Stp L m a c := ⟨x.sm.trans y.sm, y.ns, fun d o n e => y.keep d o n (x.keep d o n e)⟩
theorem Stp.hide {L : Addr} {m : Str → Option Value} {s s' : Shared} {l : List Addr} (x : Stp L m s s') (h : L ∈ l) : Le (hideAll s.heap l) (hideAll s'.heap l) :=
  hide_same fun b o n e => x.keep b o (fun q => n (q ▸ h)) e

theorem TabOk.keeps {h h' : Heap} (t : TabOk h) {l : List Addr} (k : ∀ b o, b ∉ l → h.get? b = some o → h'.get? b = some o) (n89 : 89 ∉ l) (hl : ∀ a ∈ l, ∀ o vs, h.get? a = some o → o.data ≠ .fields vs) : TabOk h' := by
  obtain ⟨ps, a, b, c⟩ := t
  refine ⟨ps, k _ _ n89 a, b, fun p v e => ?_⟩
  obtain ⟨cd, o, vs, t, h1, h2, h3, h4⟩ := c p v e
  exact ⟨cd, o, vs, t, h1, k _ _ (fun m => hl cd m o vs h2 h3) h2, h3, h4⟩

theorem ns_no_fields {h : Heap} {L : Addr} {m : Str → Option Value} (n : h.Ns L m) : ∀ o vs, h.get? L = some o → o.data ≠ .fields vs := by
  obtain ⟨o', es, ep, e, d, _⟩ := n
  intro o vs e'
  rw [e] at e'; cases e'; rw [d]; exact fun q => by cases q

theorem Act.ne89 {C : Act} {mu : Mu} (n : (hid C mu).Nodup) {a : Addr} (h : a ∈ C.own) : a ≠ 89 := fun q => by
  have := (List.nodup_cons.mp n).1
  exact this (List.mem_append_left _ (q ▸ h))

theorem Hold.step {W : Wd} {C : Act} {σ : St} {s s' : Shared} {m : Str → Option Value} (hC : ActOk W C) (H : Hold C σ s.heap) (hm : s.heap.Ns C.env.locals m) (x : Stp C.env.locals m s s') :
    Hold C σ s'.heap ∧ Le (G C σ s.heap) (G C σ s'.heap) := by
  have hL : C.env.locals ∈ hid C σ.mu := List.mem_cons_of_mem _ (List.mem_append_left _ hC.loc)
  have le1 : Le (hideAll s.heap (hid C σ.mu)) (hideAll s'.heap (hid C σ.mu)) := x.hide hL
  have le2 : Le (G C σ s.heap) (G C σ s'.heap) := x.hide (List.mem_append_right _ hL)
  have hL89 := Act.ne89 H.nodup hC.loc
  refine ⟨⟨H.keep.trans le1, H.nodup, ?_, ?_, ?_, ?_, ?_⟩, le2⟩
  · refine H.tab.keeps (l := [C.env.locals]) (fun b o n e => x.keep b o (by simpa using n) e) (by simpa using Ne.symm hL89) fun a ha => ?_
    rw [List.mem_singleton.mp ha]; exact ns_no_fields hm
  · obtain ⟨m', a, b⟩ := H.ns
    refine ⟨m, x.ns, fun y v e1 e2 => ?_⟩
    obtain ⟨v', c1, c2⟩ := b y v e1 e2
    refine ⟨v', ?_, c2.keeps le2⟩
    obtain ⟨o1, es1, ep1, f1, f2, f3, f4⟩ := hm
    obtain ⟨o2, es2, ep2, g1, g2, g3, g4⟩ := a
    rw [f1] at g1; cases g1; rw [f2] at g2; cases g2
    rw [← f4, g4]; exact c1
  · intro y v e1 e2
    obtain ⟨c, v', c1, ⟨o, c2, c3⟩, c4⟩ := H.cell y v e1 e2
    refine ⟨c, v', c1, ⟨o, x.keep c o (fun q => ?_) c2, c3⟩, c4.keeps le2⟩
    obtain ⟨o1, es1, ep1, f1, f2, _⟩ := hm
    rw [q, f1] at c2; cases c2; rw [f2] at c3; cases c3
  · intro c hc hn
    obtain ⟨w, o, e, d⟩ := H.ownc c hc hn
    exact ⟨w, o, x.keep c o hn e, d⟩
  · intro p hp
    obtain ⟨i, n, e, l⟩ := H.mus p hp
    refine ⟨i, n, x.keep _ _ (fun q => ?_) e, l.keeps le2⟩
    obtain ⟨o1, es1, ep1, f1, f2, _⟩ := hm
    rw [q, f1] at e; cases e; cases f2

section
variable {W : Wd} {A : Around} {C : Act} {σ : St} {k : V → St → Prop}

theorem WE.mono {e : Expr} {k' : V → St → Prop} (h : WE W A C e σ k) (hk : ∀ x σ', k x σ' → k' x σ') : WE W A C e σ k' := fun s H =>
  wpAny_mono (h s H) (fun _ _ ⟨x, σ', a, b, c, d, e⟩ => ⟨x, σ', hk _ _ a, b, c, d, e⟩) fun _ _ x => x

/-- a value that is at hand, the state as it stands -/
theorem Post.here {s s' : Shared} {x : V} {v : Value} (hC : ActOk W C) (hk : k x σ) (H : Hold C σ s.heap) (hs : Sm s s') (hh : Le s.heap s'.heap) (l : LayV (G C σ s'.heap) v x) : Post C σ s k v s' :=
  let ⟨_, hm, _⟩ := H.ns
  let ⟨a, b⟩ := H.step hC hm (.of_le hs hm hh)
  ⟨x, σ, hk, hs, a, b, l⟩
theorem Post.step {s s' : Shared} {x : V} {v : Value} {m : Str → Option Value} (hC : ActOk W C) (hk : k x σ) (H : Hold C σ s.heap) (hm : s.heap.Ns C.env.locals m) (hs : Stp C.env.locals m s s') (l : LayV (G C σ s'.heap) v x) : Post C σ s k v s' :=
  let ⟨a, b⟩ := H.step hC hm hs
  ⟨x, σ, hk, hs.sm, a, b, l⟩
theorem Post.lift {s s' s'' : Shared} {σ' : St} {v : Value} (hs : Sm s s') (hle : Le (G C σ s.heap) (G C σ' s'.heap)) (p : Post C σ' s' k v s'') : Post C σ s k v s'' :=
  let ⟨x, σ2, a, b, c, d, e⟩ := p; ⟨x, σ2, a, hs.trans b, c, hle.trans d, e⟩
theorem Posts.lift {s s' s'' : Shared} {σ' : St} {kk : List V → St → Prop} {v : List Value} (hs : Sm s s') (hle : Le (G C σ s.heap) (G C σ' s'.heap)) (p : Posts C σ' s' kk v s'') : Posts C σ s kk v s'' :=
  let ⟨x, σ2, a, b, c, d, e⟩ := p; ⟨x, σ2, a, hs.trans b, c, hle.trans d, e⟩

theorem WE.const_int {i : Int} {n : Nat} {pos : Pos} (hC : ActOk W C) (h : k (.dat (.int i)) σ) : WE W A C (.Constant (.int i) n pos) σ k := fun s H =>
  wpAny_Constant_int (Post.here hC h H ⟨_, _, rfl⟩ (Le.refl _) Rd.int)
theorem WE.const_str {i : Str} {n : Nat} {pos : Pos} (hC : ActOk W C) (h : k (.dat (.str i)) σ) : WE W A C (.Constant (.str i) n pos) σ k := fun s H =>
  Constant_str (Post.here hC h H ⟨_, _, rfl⟩ (Le.refl _) Rd.str)
theorem WE.const_bool {i : Bool} {n : Nat} {pos : Pos} (hC : ActOk W C) (h : k (.dat (.bool i)) σ) : WE W A C (.Constant (.bool i) n pos) σ k := fun s H =>
  wpAny_pure (Post.here hC h H (Sm.refl _) (Le.refl _) Rd.bool)

theorem WE.local' {x : Str} {pos : Pos} {v : V} (hC : ActOk W C) (hl : σ.loc.lookup x = some v) (h : k v σ) (hk : C.env.kindOf x = some .local := by rfl) (hd : (x == ("__debug__" : Str)) = false := by decide) :
    WE W A C (.Name x pos) σ k := fun s H => by
  obtain ⟨m, hn, hm⟩ := H.ns
  obtain ⟨v', e1, e2⟩ := hm x v hl hk
  exact wpAny_Name (wpAny_loadName_local hC.kind hk hn e1 (Post.here hC h H (Sm.refl _) (Le.refl _) e2)) hd
theorem WE.cell' {x : Str} {pos : Pos} {v : V} (hC : ActOk W C) (hl : σ.loc.lookup x = some v) (h : k v σ) (hk : C.env.kindOf x = some .cell := by rfl) (hd : (x == ("__debug__" : Str)) = false := by decide) :
    WE W A C (.Name x pos) σ k := fun s H => by
  obtain ⟨c, v', e0, e1, e2⟩ := H.cell x v hl (by rw [hk]; decide)
  exact wpAny_Name (wpAny_loadName_cell hC.kind hk e0 e1 (Post.here hC h H (Sm.refl _) (Le.refl _) e2)) hd
theorem WE.free' {x : Str} {pos : Pos} {v : V} (hC : ActOk W C) (hl : σ.loc.lookup x = some v) (h : k v σ) (hk : C.env.kindOf x = some .free := by rfl) (hd : (x == ("__debug__" : Str)) = false := by decide)
    (hn : (x == ("__classdict__" : Str)) = false := by decide) :
    WE W A C (.Name x pos) σ k := fun s H => by
  obtain ⟨c, v', e0, e1, e2⟩ := H.cell x v hl (by rw [hk]; decide)
  exact wpAny_Name (wpAny_loadName_free hC.kind hk e0 e1 (Post.here hC h H (Sm.refl _) (Le.refl _) e2) hn) hd

theorem WEs.nil {pos : Pos} {kk : List V → St → Prop} (h : kk [] σ) : WEs W A C pos [] σ kk := fun s H =>
  args_nil ⟨[], σ, h, Sm.refl _, H, Le.refl _, .nil⟩
theorem WEs.cons {pos : Pos} {e : Expr} {es : List Expr} {kk : List V → St → Prop} (h : WE W A C e σ fun x σ1 => WEs W A C pos es σ1 fun xs σ2 => kk (x :: xs) σ2)
    (he : starEach (e :: es) C.env = (false, eval e C.env) :: starEach es C.env := by rfl) : WEs W A C pos (e :: es) σ kk := fun s H => by
  refine args_cons (wpAny_mono (h s H) (fun v s1 hqq => ?_) fun _ _ e => e) he
  obtain ⟨x, σ1, h1, sm1, H1, le1, l1⟩ := hqq
  refine wpAny_mono (h1 s1 H1) (fun vs s2 hqq => ?_) fun _ _ e => e
  obtain ⟨xs, σ2, h2, sm2, H2, le2, l2⟩ := hqq
  exact ⟨x :: xs, σ2, h2, sm1.trans sm2, H2, le1.trans le2, .cons (l1.keeps le2) l2⟩

end

end Mine
namespace Mine

/-- every object of a heap but one -/
noncomputable def ledger (h : Heap) (L : Addr) : List (Addr × Obj) := (List.range h.objs.size).filterMap fun a => if a = L then none else (h.get? a).map fun o => (a, o)
theorem ledger_mem {h : Heap} {L a : Addr} {o : Obj} (hn : a ≠ L) (e : h.get? a = some o) : (a, o) ∈ ledger h L :=
  List.mem_filterMap.mpr ⟨a, List.mem_range.mpr (Heap.lt_size e), by rw [if_neg hn, e]; rfl⟩
theorem ledger_of {h : Heap} {L a : Addr} {o : Obj} (m : (a, o) ∈ ledger h L) : a ≠ L ∧ h.get? a = some o := by
  obtain ⟨b, _, e⟩ := List.mem_filterMap.mp m
  by_cases q : b = L
  · rw [if_pos q] at e; cases e
  · rw [if_neg q] at e
    cases f : h.get? b with
    | none => rw [f] at e; cases e
    | some o' => rw [f] at e; cases e; exact ⟨q, f⟩
noncomputable def noHeap : Heap := {}
theorem noHeap_get (a : Addr) : noHeap.get? a = none := by
  simp [noHeap, Heap.get?]
theorem frAny {h : Heap} {L : Addr} {m : Str → Option Value} (n : h.Ns L m) : Fr noHeap L h m := ⟨n, fun b o e => absurd e (by rw [noHeap_get]; exact fun q => by cases q), Nat.zero_le _⟩
theorem newsAll (h : Heap) (L : Addr) : News noHeap L h (ledger h L) := fun p hp => ⟨(ledger_of hp).2, (ledger_of hp).1, noHeap_get _⟩
theorem Stp.of_fr {L : Addr} {m : Str → Option Value} {s : Shared} {h' : Heap} {tk : Nat} {news : List (Addr × Obj)} (F : Fr noHeap L h' m) (N : News noHeap L h' news) (hn : ∀ p ∈ ledger s.heap L, p ∈ news) :
    Stp L m s { s with heap := h', toks := tk } := ⟨⟨h', tk, rfl⟩, F.ns, fun b o n e => (N _ (hn _ (ledger_mem n e))).1⟩
theorem Stp.of_fr' {L : Addr} {m : Str → Option Value} {s : Shared} {h' : Heap} {news : List (Addr × Obj)} (F : Fr noHeap L h' m) (N : News noHeap L h' news) (hn : ∀ p ∈ ledger s.heap L, p ∈ news) :
    Stp L m s { s with heap := h' } := ⟨⟨h', s.toks, rfl⟩, F.ns, fun b o n e => (N _ (hn _ (ledger_mem n e))).1⟩

/-- a step upon data that gives a datum -/
structure Res (L : Addr) (m : Str → Option Value) (s : Shared) (l : List Addr) (r : PyData) (u : Value) (s' : Shared) : Prop where
  stp : Stp L m s s'
  rd : Rd (hideAll s'.heap l) u r
noncomputable def Op1 (W : Wd) (t : Value → Sem Value) (x r : PyData) : Prop :=
  ∀ A s l v L m, Rm 10 A → (∀ a ∈ l, a < s.heap.objs.size) → L ∈ l → s.heap.Ns L m → Rd (hideAll s.heap l) v x → wpAny W.M A (t v) (Res L m s l r) NoE s
noncomputable def Op2 (W : Wd) (t : Value → Value → Sem Value) (x y r : PyData) : Prop :=
  ∀ A s l v w L m, Rm 10 A → (∀ a ∈ l, a < s.heap.objs.size) → L ∈ l → s.heap.Ns L m → Rd (hideAll s.heap l) v x → Rd (hideAll s.heap l) w y → wpAny W.M A (t v w) (Res L m s l r) NoE s

theorem cLine_eq : cLine = 9900 := rfl
theorem Rm.u64 {A : Around} (r : Rm 10 A) : A.units + 64 < cLine := by have := r.units; rw [cLine_eq]; lia
theorem Rm.u66 {A : Around} (r : Rm 10 A) : A.units + 66 < cLine := by have := r.units; rw [cLine_eq]; lia
theorem Rm.u65 {A : Around} (r : Rm 10 A) : A.units + 65 < cLine := by have := r.units; rw [cLine_eq]; lia

section
variable {W : Wd}
theorem res_here {L : Addr} {m : Str → Option Value} {s : Shared} {l : List Addr} {r : PyData} {u : Value} {tk : Nat} (n : s.heap.Ns L m) (h : Rd (hideAll s.heap l) u r) : Res L m s l r u { s with toks := tk } :=
  ⟨.of_le ⟨s.heap, tk, rfl⟩ n (Le.refl _), h⟩
theorem res_here' {L : Addr} {m : Str → Option Value} {s : Shared} {l : List Addr} {r : PyData} {u : Value} (n : s.heap.Ns L m) (h : Rd (hideAll s.heap l) u r) : Res L m s l r u s :=
  ⟨.of_le (Sm.refl _) n (Le.refl _), h⟩

theorem Op2.add_int {a b : Int} : Op2 W (binaryOp .Add) (.int a) (.int b) (.int (a + b)) := fun A s l v w L m hr hl hL n x y => by
  obtain ⟨t, rfl⟩ := x.int_inv; obtain ⟨u, rfl⟩ := y.int_inv; exact PyProof.Rows.add_int (res_here n Rd.int)
theorem Op2.sub_int {a b : Int} : Op2 W (binaryOp .Sub) (.int a) (.int b) (.int (a - b)) := fun A s l v w L m hr hl hL n x y => by
  obtain ⟨t, rfl⟩ := x.int_inv; obtain ⟨u, rfl⟩ := y.int_inv; exact PyProof.Rows.sub_int (res_here n Rd.int)
theorem Op2.mul_int {a b : Int} (h : IntMulOk a b) : Op2 W (binaryOp .Mult) (.int a) (.int b) (.int (a * b)) := fun A s l v w L m hr hl hL n x y => by
  obtain ⟨t, rfl⟩ := x.int_inv; obtain ⟨u, rfl⟩ := y.int_inv; exact PyProof.Rows.mul_int (res_here n Rd.int) h
theorem Op2.mod_int {a b : Int} (h : b ≠ 0) : Op2 W (binaryOp .Mod) (.int a) (.int b) (.int (a.fmod b)) := fun A s l v w L m hr hl hL n x y => by
  obtain ⟨t, rfl⟩ := x.int_inv; obtain ⟨u, rfl⟩ := y.int_inv; exact PyProof.Rows.mod_int h (res_here n Rd.int)
theorem Op2.fdiv_int {a b : Int} (h : b ≠ 0) (hp : Builtin.divisionGoesByPylong a b = false) : Op2 W (binaryOp .FloorDiv) (.int a) (.int b) (.int (a.fdiv b)) := fun A s l v w L m hr hl hL n x y => by
  obtain ⟨t, rfl⟩ := x.int_inv; obtain ⟨u, rfl⟩ := y.int_inv; exact PyProof.Rows.floordiv_int h (res_here n Rd.int) (.inl hp)
theorem Op2.shr_int {a b : Int} (h : 0 ≤ b) : Op2 W (binaryOp .RShift) (.int a) (.int b) (.int (a.fdiv (2 ^ b.toNat))) := fun A s l v w L m hr hl hL n x y => by
  obtain ⟨t, rfl⟩ := x.int_inv; obtain ⟨u, rfl⟩ := y.int_inv; exact PyProof.Rows.rshift_int h (res_here n Rd.int)
theorem Op2.and_int {a b : Int} : Op2 W (binaryOp .BitAnd) (.int a) (.int b) (.int (Builtin.bitAnd a b)) := fun A s l v w L m hr hl hL n x y => by
  obtain ⟨t, rfl⟩ := x.int_inv; obtain ⟨u, rfl⟩ := y.int_inv; exact PyProof.Rows.and_int (res_here n Rd.int)
theorem Op2.pow_int {a b : Int} (h : 0 ≤ b) (hb : b ≤ 1000000) (ha : a.natAbs < 2 ^ 64) : Op2 W (binaryOp .Pow) (.int a) (.int b) (.int (a ^ b.toNat)) := fun A s l v w L m hr hl hL n x y => by
  obtain ⟨t, rfl⟩ := x.int_inv; obtain ⟨u, rfl⟩ := y.int_inv; exact pow_int_small h hb ha (res_here n Rd.int)
theorem Op2.add_str {a b : Str} (h : a.length + b.length ≤ sizeLine) : Op2 W (binaryOp .Add) (.str a) (.str b) (.str (a ++ b)) := fun A s l v w L m hr hl hL n x y => by
  obtain ⟨t, rfl⟩ := x.str_inv; obtain ⟨u, rfl⟩ := y.str_inv; exact PyProof.Rows.add_str (fun t' tk => res_here n Rd.str) h
theorem Op2.add_list {a b : List PyData} (h : a.length + b.length ≤ sizeLine) : Op2 W (binaryOp .Add) (.list a) (.list b) (.list (a ++ b)) := fun A s l v w L m hr hl hL n x y => by
  obtain ⟨a1, vs, rfl, i1, r1⟩ := x.list_inv
  obtain ⟨a2, ws, rfl, i2, r2⟩ := y.list_inv
  have up {a : Addr} {its : Array Value} (i : (hideAll s.heap l).IsList a its) : s.heap.IsList a its := let ⟨o, e, r⟩ := i; ⟨o, hide_le _ _ e, r⟩
  refine add_arrays (frAny n) (newsAll s.heap L) (up i1) (up i2) (fun h' F N => ?_) (by simpa [r1.len, r2.len] using h)
  have st : Stp L m s { s with heap := h' } := .of_fr' F N fun p hp => .tail _ hp
  refine ⟨st, ?_⟩
  have hN := (N _ (.head _)).1
  have hnew : s.heap.objs.size ∉ l := fun q => Nat.lt_irrefl _ (hl _ q)
  have le := st.hide hL
  exact Rd.list (vs := vs ++ ws) ⟨_, hideAll_get _ hN hnew, rfl, 0, by simp⟩ ((r1.keeps le).append (r2.keeps le))

theorem Op2.eq {a b : PyData} (ha : SeqAt.shaped a = true) (hb : SeqAt.shaped b = true) : Op2 W (compareOp .Eq) a b (.bool (PyData.eqv a b)) := fun A s l v w L m hr hl hL n ⟨as, x⟩ ⟨bs, y⟩ =>
  eq_dataH (Reads.keeps hide_le x) (Reads.keeps hide_le y) ha hb hr.u64 (res_here' n Rd.bool)
theorem Op2.ne {a b : PyData} (ha : SeqAt.shaped a = true) (hb : SeqAt.shaped b = true) : Op2 W (compareOp .NotEq) a b (.bool (!PyData.eqv a b)) := fun A s l v w L m hr hl hL n ⟨as, x⟩ ⟨bs, y⟩ =>
  ne_dataH (Reads.keeps hide_le x) (Reads.keeps hide_le y) ha hb hr.u64 (res_here' n Rd.bool)
theorem Op2.in_list {a : PyData} {b : List PyData} (ha : SeqAt.shaped a = true) (hb : SeqAt.shaped (.list b) = true) : Op2 W (compareOp .In) a (.list b) (.bool (b.any fun y => PyData.eqv y a)) := fun A s l v w L m hr hl hL n ⟨as, x⟩ ⟨bs, y⟩ =>
  PySem.SeqAt.in_list_reads (Reads.keeps hide_le y) (Reads.keeps hide_le x) (SeqAt.canLay_of_shaped hb) (SeqAt.canLay_of_shaped ha) (room_in_shaped ha hr.u65) (res_here' n Rd.bool)
theorem Op2.in_tup {a : PyData} {b : List PyData} (ha : SeqAt.shaped a = true) (hb : SeqAt.shaped (.tuple b) = true) : Op2 W (compareOp .In) a (.tuple b) (.bool (b.any fun y => PyData.eqv y a)) := fun A s l v w L m hr hl hL n ⟨as, x⟩ ⟨bs, y⟩ =>
  PySem.SeqAt.in_tuple_reads (Reads.keeps hide_le y) (Reads.keeps hide_le x) (SeqAt.canLay_of_shaped hb) (SeqAt.canLay_of_shaped ha) (room_in_shaped ha hr.u65) (res_here' n Rd.bool)
theorem Op2.lt_int {a b : Int} : Op2 W (compareOp .Lt) (.int a) (.int b) (.bool (decide (a < b))) := fun A s l v w L m hr hl hL n x y => by
  obtain ⟨t, rfl⟩ := x.int_inv; obtain ⟨u, rfl⟩ := y.int_inv; exact PyProof.Rows.lt_int (res_here' n Rd.bool)
theorem Op2.lt_str {a b : Str} : Op2 W (compareOp .Lt) (.str a) (.str b) (.bool (decide (a.cps.toList < b.cps.toList))) := fun A s l v w L m hr hl hL n x y => by
  obtain ⟨t, rfl⟩ := x.str_inv; obtain ⟨u, rfl⟩ := y.str_inv; exact PyProof.Rows.lt_str (res_here' n Rd.bool)
theorem Op2.le_str {a b : Str} : Op2 W (compareOp .LtE) (.str a) (.str b) (.bool (!(decide (b.cps.toList < a.cps.toList)))) := fun A s l v w L m hr hl hL n x y => by
  obtain ⟨t, rfl⟩ := x.str_inv; obtain ⟨u, rfl⟩ := y.str_inv; exact PySem.P.le_str (res_here' n Rd.bool)
theorem Op1.neg_int {a : Int} : Op1 W (unaryOp .USub) (.int a) (.int (-a)) := fun A s l v L m hr hl hL n x => by
  obtain ⟨t, rfl⟩ := x.int_inv; exact PySem.P.neg_int (res_here n Rd.int)
theorem Op1.not_bool {a : Bool} : Op1 W (unaryOp .Not) (.bool a) (.bool (!a)) := fun A s l v L m hr hl hL n x => by
  rw [x.bool_inv]; exact not_of (wpAny_truthy_bool (res_here' n Rd.bool))
end

end Mine
namespace Mine

inductive PostB (C : Act) (σ : St) (s : Shared) (k : Bool → St → Prop) (b : Bool) (s' : Shared) : Prop where
  | mk (σ' : St) (hk : k b σ') (sm : Sm s s') (H : Hold C σ' s'.heap) (le : Le (G C σ s.heap) (G C σ' s'.heap))
noncomputable def WT (W : Wd) (A : Around) (C : Act) (e : Expr) (σ : St) (k : Bool → St → Prop) : Prop :=
  ∀ s, Hold C σ s.heap → wpAny W.M A (isTrue e C.env (eval e C.env)) (PostB C σ s k) NoE s

section
variable {W : Wd} {A : Around} {C : Act} {σ : St} {k : V → St → Prop}

theorem PostB.lift {s s' s'' : Shared} {σ' : St} {k : Bool → St → Prop} {b : Bool} (hs : Sm s s') (hle : Le (G C σ s.heap) (G C σ' s'.heap)) (p : PostB C σ' s' k b s'') : PostB C σ s k b s'' :=
  let ⟨σ2, a, b, c, d⟩ := p; ⟨σ2, a, hs.trans b, c, hle.trans d⟩
theorem ownL (hC : ActOk W C) : C.env.locals ∈ hidl C σ.mu := List.mem_append_right _ (List.mem_cons_of_mem _ (List.mem_append_left _ hC.loc))

theorem op2_post {t : Value → Value → Sem Value} {x y r : PyData} {v w : Value} {s : Shared} (hC : ActOk W C) (hr : Rm 10 A) (o : Op2 W t x y r) (H : Hold C σ s.heap) (hk : k (.dat r) σ) (a : LayV (G C σ s.heap) v (.dat x)) (b : LayV (G C σ s.heap) w (.dat y)) :
    wpAny W.M A (t v w) (Post C σ s k) NoE s := by
  obtain ⟨m, hm, _⟩ := H.ns
  exact wpAny_mono (o A s _ v w _ m hr (H.lt hC) (ownL hC) hm a b) (fun u s' ⟨st, rd⟩ => Post.step (x := .dat r) hC hk H hm st rd) fun _ _ e => e
theorem op1_post {t : Value → Sem Value} {x r : PyData} {v : Value} {s : Shared} (hC : ActOk W C) (hr : Rm 10 A) (o : Op1 W t x r) (H : Hold C σ s.heap) (hk : k (.dat r) σ) (a : LayV (G C σ s.heap) v (.dat x)) :
    wpAny W.M A (t v) (Post C σ s k) NoE s := by
  obtain ⟨m, hm, _⟩ := H.ns
  exact wpAny_mono (o A s _ v _ m hr (H.lt hC) (ownL hC) hm a) (fun u s' ⟨st, rd⟩ => Post.step (x := .dat r) hC hk H hm st rd) fun _ _ e => e

/-- two operands, then what is done with them -/
theorem WE.two {l r e : Expr} {t : Value → Value → Sem Value} (hC : ActOk W C) (hr : Rm 10 A)
    (he : ∀ (Q : Value → Shared → Prop) s, wpAny W.M A (eval l C.env) (fun a s₁ => wpAny W.M A (eval r C.env) (fun b s₂ => wpAny W.M A (t a b) Q NoE s₂) NoE s₁) NoE s → wpAny W.M A (eval e C.env) Q NoE s)
    (h : WE W A C l σ fun x σ1 => WE W A C r σ1 fun y σ2 => Ex3 fun dx dy dr => A4 (x = .dat dx) (y = .dat dy) (Op2 W t dx dy dr) (k (.dat dr) σ2)) : WE W A C e σ k := fun s H => by
  refine he _ s (wpAny_mono (h s H) (fun v s1 hqq => ?_) fun _ _ e => e)
  obtain ⟨x, σ1, h1, sm1, H1, le1, l1⟩ := hqq
  refine wpAny_mono (h1 s1 H1) (fun w s2 hqq => ?_) fun _ _ e => e
  obtain ⟨y, σ2, ⟨dx, dy, dr, ex0, ex1, o, hk⟩, sm2, H2, le2, l2⟩ := hqq
  subst ex0 ex1
  exact wpAny_mono (op2_post hC hr o H2 hk (l1.keeps le2) l2) (fun u s3 p => p.lift (sm1.trans sm2) (le1.trans le2)) fun _ _ e => e
theorem WE.binop {l r : Expr} {op : Operator} {pos : Pos} (hC : ActOk W C) (hr : Rm 10 A)
    (h : WE W A C l σ fun x σ1 => WE W A C r σ1 fun y σ2 => Ex3 fun dx dy dr => A4 (x = .dat dx) (y = .dat dy) (Op2 W (binaryOp op) dx dy dr) (k (.dat dr) σ2)) : WE W A C (.BinOp l op r pos) σ k :=
  WE.two hC hr (fun Q s h => wpAny_BinOp h) h
theorem WE.cmp {l r : Expr} {op : CmpOp} {pos : Pos} (hC : ActOk W C) (hr : Rm 10 A)
    (h : WE W A C l σ fun x σ1 => WE W A C r σ1 fun y σ2 => Ex3 fun dx dy dr => A4 (x = .dat dx) (y = .dat dy) (Op2 W (compareOp op) dx dy dr) (k (.dat dr) σ2))
    (hm : behindInMarks op r = false := by with_unfolding_all rfl) : WE W A C (.Compare l [op] [r] pos) σ k :=
  WE.two hC hr (fun Q s h => wpAny_Compare1 h hm) h
theorem WE.unary {e : Expr} {op : UnaryOp} {pos : Pos} (hC : ActOk W C) (hr : Rm 10 A)
    (h : WE W A C e σ fun x σ1 => Ex2 fun dx dr => A3 (x = .dat dx) (Op1 W (unaryOp op) dx dr) (k (.dat dr) σ1)) : WE W A C (.UnaryOp op e pos) σ k := fun s H => by
  refine wpAny_UnaryOp (wpAny_mono (h s H) (fun v s1 hqq => ?_) fun _ _ e => e)
  obtain ⟨x, σ1, ⟨dx, dr, ex0, o, hk⟩, sm1, H1, le1, l1⟩ := hqq
  subst ex0
  exact wpAny_mono (op1_post hC hr o H1 hk l1) (fun u s3 p => p.lift sm1 le1) fun _ _ e => e

/-- a truth asked of an expression whose value is a bool -/
theorem WT.plain {e : Expr} (h : WE W A C e σ fun x σ1 => ∃ b, x = .dat (.bool b) ∧ kb b σ1)
    (he : isTrue e C.env (eval e C.env) = (do let v ← eval e C.env; standAt e.pos; holding [v] (truthy v)) := by rfl) : WT W A C e σ kb := fun s H => by
  refine isTrue_plain (wpAny_mono (h s H) (fun v s1 hqq => ?_) fun _ _ e => e) he
  obtain ⟨x, σ1, ⟨b, ex0, hk⟩, sm1, H1, le1, l1⟩ := hqq
  subst ex0
  rw [Rd.bool_inv l1]
  exact wpAny_truthy_bool ⟨σ1, hk, sm1, H1, le1⟩
theorem WT.cmp {l r : Expr} {op : CmpOp} {pos : Pos} {kb : Bool → St → Prop} (hC : ActOk W C) (hr : Rm 10 A)
    (h : WE W A C l σ fun x σ1 => WE W A C r σ1 fun y σ2 => Ex3 fun dx dy b => A4 (x = .dat dx) (y = .dat dy) (Op2 W (compareOp op) dx dy (.bool b)) (kb b σ2))
    (hm : behindInMarks op r = false := by with_unfolding_all rfl) : WT W A C (.Compare l [op] [r] pos) σ kb := fun s H => by
  refine wpAny_isTrue_Compare1 (wpAny_mono (h s H) (fun v s1 hqq => ?_) fun _ _ e => e) hm
  obtain ⟨x, σ1, h1, sm1, H1, le1, l1⟩ := hqq
  refine wpAny_mono (h1 s1 H1) (fun w s2 hqq => ?_) fun _ _ e => e
  obtain ⟨y, σ2, ⟨dx, dy, b, ex0, ex1, o, hk⟩, sm2, H2, le2, l2⟩ := hqq
  subst ex0 ex1
  refine wpAny_mono (op2_post (k := fun x σ' => x = .dat (.bool b) ∧ kb b σ') hC hr o H2 ⟨rfl, hk⟩ (l1.keeps le2) l2) (fun u s3 hqq => ?_) fun _ _ e => e
  obtain ⟨x, σ3, ⟨ex0, hk3⟩, sm3, H3, le3, l3⟩ := hqq
  subst ex0
  rw [Rd.bool_inv l3]
  exact wpAny_truthy_bool ⟨σ3, hk3, sm1.trans (sm2.trans sm3), H3, le1.trans (le2.trans le3)⟩
theorem WT.chain2 {l r₁ r₂ : Expr} {o₁ o₂ : CmpOp} {pos : Pos} {kb : Bool → St → Prop} (hC : ActOk W C) (hr : Rm 10 A)
    (h : WE W A C l σ fun x σ1 => WE W A C r₁ σ1 fun y σ2 => Ex3 fun dx dy b => A5 (x = .dat dx) (y = .dat dy) (Op2 W (compareOp o₁) dx dy (.bool b)) ((b = false → kb false σ2)) ((b = true → WE W A C r₂ σ2 fun z σ3 => Ex2 fun dz b2 => A3 (z = .dat dz) (Op2 W (compareOp o₂) dy dz (.bool b2)) (kb b2 σ3))))
    (hm : lastMarks [o₁, o₂] [r₁, r₂] = false := by with_unfolding_all rfl) : WT W A C (.Compare l [o₁, o₂] [r₁, r₂] pos) σ kb := fun s H => by
  refine isTrue_chain (wpAny_mono (h s H) (fun v s1 hqq => ?_) fun _ _ e => e) hm
  obtain ⟨x, σ1, h1, sm1, H1, le1, l1⟩ := hqq
  refine test_link (wpAny_mono (h1 s1 H1) (fun w s2 hqq => ?_) fun _ _ e => e)
  obtain ⟨y, σ2, ⟨dx, dy, b, ex0, ex1, o, hf, ht⟩, sm2, H2, le2, l2⟩ := hqq
  subst ex0 ex1
  refine wpAny_mono (op2_post (k := fun x σ' => x = .dat (.bool b) ∧ σ' = σ2) hC hr o H2 ⟨rfl, rfl⟩ (l1.keeps le2) l2) (fun u s3 hqq => ?_) fun _ _ e => e
  obtain ⟨x, σ3, ⟨ex0, ex1⟩, sm3, H3, le3, l3⟩ := hqq
  subst ex0 ex1
  rw [Rd.bool_inv l3]
  refine wpAny_truthy_bool ?_
  cases b with
  | false => exact ⟨σ3, hf rfl, sm1.trans (sm2.trans sm3), H3, le1.trans (le2.trans le3)⟩
  | true =>
    refine test_last (wpAny_mono (ht rfl s3 H3) (fun z s4 hqq => ?_) fun _ _ e => e)
    obtain ⟨zz, σ4, ⟨dz, b2, ex0, o4, hk4⟩, sm4, H4, le4, l4⟩ := hqq
    subst ex0
    refine wpAny_mono (op2_post (k := fun x σ' => x = .dat (.bool b2) ∧ kb b2 σ') hC hr o4 H4 ⟨rfl, hk4⟩ (l2.keeps (le3.trans le4)) l4) (fun u s5 hqq => ?_) fun _ _ e => e
    obtain ⟨x, σ5, ⟨ex0, hk5⟩, sm5, H5, le5, l5⟩ := hqq
    subst ex0
    rw [Rd.bool_inv l5]
    exact wpAny_truthy_bool ⟨σ5, hk5, sm1.trans (sm2.trans (sm3.trans (sm4.trans sm5))), H5, le1.trans (le2.trans (le3.trans (le4.trans le5)))⟩
theorem WT.not {e : Expr} {pos : Pos} {kb : Bool → St → Prop} (h : WT W A C e σ fun b σ1 => kb (!b) σ1) : WT W A C (.UnaryOp .Not e pos) σ kb := fun s H =>
  PyProof.Rows.isTrue_not (wpAny_mono (h s H) (fun _ _ ⟨σ', a, b, c, d⟩ => ⟨σ', a, b, c, d⟩) fun _ _ e => e)
theorem WT.and_nil {pos : Pos} {kb : Bool → St → Prop} (h : kb true σ) : WT W A C (.BoolOp .And [] pos) σ kb := fun s H => isTrue_and_nil ⟨σ, h, Sm.refl _, H, Le.refl _⟩
theorem WT.or_nil {pos : Pos} {kb : Bool → St → Prop} (h : kb false σ) : WT W A C (.BoolOp .Or [] pos) σ kb := fun s H => isTrue_or_nil ⟨σ, h, Sm.refl _, H, Le.refl _⟩
theorem WT.and {e : Expr} {es : List Expr} {pos : Pos} {kb : Bool → St → Prop} (h : WT W A C e σ fun b σ1 => (b = false → kb false σ1) ∧ (b = true → WT W A C (.BoolOp .And es pos) σ1 kb)) : WT W A C (.BoolOp .And (e :: es) pos) σ kb := fun s H => by
  refine isTrue_and (wpAny_mono (h s H) (fun b s1 hqq => ?_) fun _ _ e => e)
  obtain ⟨σ1, ⟨hf, ht⟩, sm1, H1, le1⟩ := hqq
  cases b with
  | false => exact ⟨σ1, hf rfl, sm1, H1, le1⟩
  | true => exact wpAny_mono (ht rfl s1 H1) (fun b s2 p => p.lift sm1 le1) fun _ _ e => e
theorem WT.or {e : Expr} {es : List Expr} {pos : Pos} {kb : Bool → St → Prop} (h : WT W A C e σ fun b σ1 => (b = true → kb true σ1) ∧ (b = false → WT W A C (.BoolOp .Or es pos) σ1 kb)) : WT W A C (.BoolOp .Or (e :: es) pos) σ kb := fun s H => by
  refine isTrue_or (wpAny_mono (h s H) (fun b s1 hqq => ?_) fun _ _ e => e)
  obtain ⟨σ1, ⟨ht, hf⟩, sm1, H1, le1⟩ := hqq
  cases b with
  | true => exact ⟨σ1, ht rfl, sm1, H1, le1⟩
  | false => exact wpAny_mono (hf rfl s1 H1) (fun b s2 p => p.lift sm1 le1) fun _ _ e => e
theorem WE.bool_one {e : Expr} {op : BoolOp} {pos : Pos} (h : WE W A C e σ k) : WE W A C (.BoolOp op [e] pos) σ k := fun s H => BoolOp_one (h s H)
theorem WE.and {e e' : Expr} {es : List Expr} {pos : Pos} (h : WE W A C e σ fun x σ1 => ∃ b, A3 (x = .dat (.bool b)) ((b = false → k (.dat (.bool false)) σ1)) ((b = true → WE W A C (.BoolOp .And (e' :: es) pos) σ1 k))) : WE W A C (.BoolOp .And (e :: e' :: es) pos) σ k := fun s H => by
  refine BoolOp_and (wpAny_mono (h s H) (fun v s1 hqq => ?_) fun _ _ e => e)
  obtain ⟨x, σ1, ⟨b, ex0, hf, ht⟩, sm1, H1, le1, l1⟩ := hqq
  subst ex0
  rw [Rd.bool_inv l1]
  refine wpAny_truthy_bool ?_
  cases b with
  | false => exact ⟨_, σ1, hf rfl, sm1, H1, le1, Rd.bool⟩
  | true => exact wpAny_mono (ht rfl s1 H1) (fun b s2 p => p.lift sm1 le1) fun _ _ e => e
theorem WE.ifexp {t a b : Expr} {pos : Pos} (h : WT W A C t σ fun c σ1 => (c = true → WE W A C a σ1 k) ∧ (c = false → WE W A C b σ1 k)) : WE W A C (.IfExp t a b pos) σ k := fun s H => by
  refine IfExp_ (wpAny_mono (h s H) (fun c s1 hqq => ?_) fun _ _ e => e)
  obtain ⟨σ1, ⟨ht, hf⟩, sm1, H1, le1⟩ := hqq
  cases c with
  | false => exact wpAny_mono (hf rfl s1 H1) (fun b s2 p => p.lift sm1 le1) fun _ _ e => e
  | true => exact wpAny_mono (ht rfl s1 H1) (fun b s2 p => p.lift sm1 le1) fun _ _ e => e

/-- an object made: it stands from now on -/
theorem made_le {s : Shared} {o : Obj} : Le s.heap (s.heap.push o) := fun b o' e => Heap.get?_push_of_some _ e
theorem made_out {s : Shared} {o : Obj} (hC : ActOk W C) (H : Hold C σ s.heap) (ho : o.isFreed = false := by rfl) : (G C σ (s.heap.push o)).get? s.heap.objs.size = some o :=
  hideAll_get _ (Heap.get?_push_size _ ho) fun m => Nat.lt_irrefl _ (H.lt hC _ m)
theorem made_le' {s : Shared} {o : Obj} : Le (G C σ s.heap) (G C σ (s.heap.push o)) := hide_ext fun b o' e => Heap.get?_push_of_some _ e

theorem WE.tuple {es : List Expr} {n : Nat} {pos : Pos} (hC : ActOk W C) (h : WEs W A C pos es σ fun xs σ1 => ∃ ds, xs = ds.map V.dat ∧ ds.length ≤ sizeLine ∧ k (.dat (.tuple ds)) σ1) : WE W A C (.Tuple es n pos) σ k := fun s H => by
  refine Tuple_ (wpAny_mono (h s H) (fun vs s1 hqq => ?_) fun _ _ e => e)
  obtain ⟨x, σ1, ⟨ds, ex0, hsz, hk⟩, sm1, H1, le1, l1⟩ := hqq
  subst ex0
  have r := l1.dats
  refine wpAny_newTuple (Post.lift sm1 le1 (Post.here (s := s1) (x := .dat (.tuple ds)) hC hk H1 ⟨_, s1.toks, rfl⟩ made_le ?_)) (by rw [r.len]; exact hsz)
  exact Rd.tup ⟨_, made_out hC H1, rfl, 0, rfl⟩ (r.keeps made_le')
theorem WE.list {es : List Expr} {pos : Pos} (hC : ActOk W C) (h : WEs W A C pos es σ fun xs σ1 => ∃ ds, xs = ds.map V.dat ∧ ds.length ≤ sizeLine ∧ k (.dat (.list ds)) σ1) : WE W A C (.List es pos) σ k := fun s H => by
  refine List_ (wpAny_mono (h s H) (fun vs s1 hqq => ?_) fun _ _ e => e)
  obtain ⟨x, σ1, ⟨ds, ex0, hsz, hk⟩, sm1, H1, le1, l1⟩ := hqq
  subst ex0
  have r := l1.dats
  refine wpAny_newObj_type (Post.lift sm1 le1 (Post.here (s := s1) (x := .dat (.list ds)) hC hk H1 ⟨_, s1.toks, rfl⟩ made_le ?_)) (by show vs.toArray.size ≤ sizeLine; rw [List.size_toArray, r.len]; exact hsz)
  exact Rd.list ⟨_, made_out hC H1, rfl, 0, rfl⟩ (r.keeps made_le')

/-- a list made that is still to be changed -/
theorem Hold.newMu {s : Shared} {vs : List Value} {xs : List V} (hC : ActOk W C) (H : Hold C σ s.heap) (l : LayVs (G C σ s.heap) vs xs) :
    Hold C ⟨σ.loc, (s.heap.objs.size, xs) :: σ.mu⟩ (s.heap.push { cls := .type "list", data := .seq vs.toArray }) ∧
    Le (G C σ s.heap) (G C ⟨σ.loc, (s.heap.objs.size, xs) :: σ.mu⟩ (s.heap.push { cls := .type "list", data := .seq vs.toArray })) := by
  have hlt := H.lt hC
  have hnew : s.heap.objs.size ∉ hidl C σ.mu := fun m => Nat.lt_irrefl _ (hlt _ m)
  have hnew' : s.heap.objs.size ∉ hid C σ.mu := fun m => hnew (List.mem_append_right _ m)
  have hm : ∀ b, b ∈ hid C ((s.heap.objs.size, xs) :: σ.mu) → b = s.heap.objs.size ∨ b ∈ hid C σ.mu := fun b hb => by
    rcases List.mem_cons.mp hb with q | hb
    · exact .inr (q ▸ .head _)
    · rcases List.mem_append.mp hb with hb | hb
      · exact .inr (.tail _ (List.mem_append_left _ hb))
      · rcases List.mem_cons.mp hb with hb | hb
        · exact .inl hb
        · exact .inr (.tail _ (List.mem_append_right _ hb))
  have le1 : Le (hideAll s.heap (hid C σ.mu)) (hideAll (s.heap.push { cls := .type "list", data := .seq vs.toArray }) (hid C ((s.heap.objs.size, xs) :: σ.mu))) :=
    hide_mono fun b o n e => ⟨Heap.get?_push_of_some _ e, fun m => (hm b m).elim (fun q => Nat.lt_irrefl _ (Nat.lt_of_lt_of_eq (Heap.lt_size e) q.symm)) n⟩
  have le2 : Le (G C σ s.heap) (G C ⟨σ.loc, (s.heap.objs.size, xs) :: σ.mu⟩ (s.heap.push { cls := .type "list", data := .seq vs.toArray })) :=
    hide_mono fun b o n e => ⟨Heap.get?_push_of_some _ e, fun m => (List.mem_append.mp m).elim (fun m => n (List.mem_append_left _ m)) fun m =>
      (hm b m).elim (fun q => Nat.lt_irrefl _ (Nat.lt_of_lt_of_eq (Heap.lt_size e) q.symm)) fun m => n (List.mem_append_right _ m)⟩
  have kp : Le s.heap (s.heap.push { cls := .type "list", data := .seq vs.toArray }) := fun b o e => Heap.get?_push_of_some _ e
  refine ⟨⟨H.keep.trans le1, ?_, ?_, ?_, ?_, ?_, ?_⟩, le2⟩
  · have n := H.nodup
    unfold hid at n ⊢
    have hn89 : s.heap.objs.size ≠ 89 := fun q => hnew' (q ▸ .head _)
    rw [List.nodup_cons] at n ⊢
    refine ⟨fun m => ?_, ?_⟩
    · rcases List.mem_append.mp m with m | m
      · exact n.1 (List.mem_append_left _ m)
      · rcases List.mem_cons.mp m with m | m
        · exact hn89 m.symm
        · exact n.1 (List.mem_append_right _ m)
    · show (C.own ++ s.heap.objs.size :: keys σ.mu).Nodup
      rw [List.nodup_append] at n ⊢
      refine ⟨n.2.1, List.nodup_cons.mpr ⟨fun m => hnew' (.tail _ (List.mem_append_right _ m)), n.2.2.1⟩, fun a ha b hb => ?_⟩
      rcases List.mem_cons.mp hb with rfl | hb
      · exact fun q => hnew' (.tail _ (List.mem_append_left _ (q ▸ ha)))
      · exact n.2.2.2 a ha b hb
  · exact H.tab.keeps (l := []) (fun b o _ e => kp b o e) (by simp) (by simp)
  · obtain ⟨m, a, b⟩ := H.ns
    exact ⟨m, a.keeps kp, fun x v e1 e2 => let ⟨v', c1, c2⟩ := b x v e1 e2; ⟨v', c1, c2.keeps le2⟩⟩
  · exact fun x v e1 e2 => let ⟨c, v', c1, c2, c3⟩ := H.cell x v e1 e2; ⟨c, v', c1, c2.keeps kp, c3.keeps le2⟩
  · exact fun c hc hn => let ⟨w, o, e, d⟩ := H.ownc c hc hn; ⟨w, o, kp _ _ e, d⟩
  · intro p hp
    rcases List.mem_cons.mp hp with rfl | hp
    · exact ⟨vs.toArray, 0, Heap.get?_push_size _ rfl, by simpa using l.keeps le2⟩
    · obtain ⟨i, n, e, l⟩ := H.mus p hp
      exact ⟨i, n, kp _ _ e, l.keeps le2⟩
theorem WE.listMu {es : List Expr} {pos : Pos} (hC : ActOk W C) (h : WEs W A C pos es σ fun xs σ1 => xs.length ≤ sizeLine ∧ ∀ a, k (.ref a) ⟨σ1.loc, (a, xs) :: σ1.mu⟩) : WE W A C (.List es pos) σ k := fun s H => by
  refine List_ (wpAny_mono (h s H) (fun vs s1 hqq => ?_) fun _ _ e => e)
  obtain ⟨x, σ1, ⟨hsz, hk⟩, sm1, H1, le1, l1⟩ := hqq
  obtain ⟨H2, le2⟩ := H1.newMu hC l1
  exact wpAny_newObj_type ⟨.ref s1.heap.objs.size, _, hk _, sm1.trans ⟨_, s1.toks, rfl⟩, H2, le1.trans le2, rfl⟩ (by show vs.toArray.size ≤ sizeLine; rw [List.size_toArray, l1.len]; exact hsz)
end

end Mine
namespace Mine

noncomputable def Indexed (d : PyData) : Prop := (∃ x, d = .list x) ∨ (∃ x, d = .tuple x) ∨ ∃ x, d = .str x
theorem Indexed.list {x} : Indexed (.list x) := .inl ⟨x, rfl⟩
theorem Indexed.tup {x} : Indexed (.tuple x) := .inr (.inl ⟨x, rfl⟩)
theorem Indexed.str {x} : Indexed (.str x) := .inr (.inr ⟨x, rfl⟩)
theorem Indexed.slot {d : PyData} {h : Heap} {v : Value} {s : Shared} (i : Indexed d) (r : Rd h v d) (k : Le h s.heap) : ∃ T id, s.TypeIs v T ∧ typeLookup (.type T) "__getitem__" = pure (some (.builtin id)) := by
  rcases i with ⟨x, rfl⟩ | ⟨x, rfl⟩ | ⟨x, rfl⟩
  · obtain ⟨a, vs, rfl, ⟨o, e, r⟩, _⟩ := r.list_inv
    exact ⟨_, _, Heap.IsList.typeIs (items := vs.toArray) ⟨o, k _ _ e, r⟩, slot_list_getitem.lookup⟩
  · obtain ⟨a, vs, rfl, ⟨o, e, r⟩, _⟩ := r.tup_inv
    exact ⟨_, _, IsTup.typeIs (items := vs.toArray) ⟨o, k _ _ e, r⟩, slot_tuple_getitem.lookup⟩
  · obtain ⟨t, rfl⟩ := r.str_inv
    exact ⟨_, _, typeIs_str _ _ _, F.slot_str_getitem.lookup⟩

theorem seqIndex_nn {i : Int} {n : Nat} (h0 : 0 ≤ i) (h : i.toNat < n) : seqIndex? i n = some i.toNat := by
  have h1 : ¬ i < 0 := by lia
  have h2 : i < (n : Int) := by lia
  simp [seqIndex?, h1, h2, h0]

section
variable {W : Wd} {A : Around} {C : Act} {σ : St} {k : V → St → Prop}

theorem up_list {h : Heap} {l : List Addr} {a : Addr} {its : Array Value} (i : (hideAll h l).IsList a its) : h.IsList a its := let ⟨o, e, r⟩ := i; ⟨o, hide_le _ _ e, r⟩
theorem up_tup {h : Heap} {l : List Addr} {a : Addr} {its : Array Value} (i : IsTup (hideAll h l) a its) : IsTup h a its := let ⟨o, e, r⟩ := i; ⟨o, hide_le _ _ e, r⟩

theorem Op2.get_list {ds : List PyData} {i : Int} {d : PyData} (h0 : 0 ≤ i) (h1 : i < 2 ^ 63) (hd : ds[i.toNat]? = some d) : Op2 W getItem (.list ds) (.int i) d := fun A s l v w L m hr hl hL n x y => by
  obtain ⟨a, vs, rfl, il, r⟩ := x.list_inv
  obtain ⟨t, rfl⟩ := y.int_inv
  obtain ⟨u, e, rd⟩ := r.get _ hd
  exact wpAny_getItem_list (up_list il) h0 h1 (by simpa using e) (res_here' n rd)
theorem Op2.get_tup {ds : List PyData} {i : Int} {d : PyData} (h0 : 0 ≤ i) (h1 : i < 2 ^ 63) (hd : ds[i.toNat]? = some d) : Op2 W getItem (.tuple ds) (.int i) d := fun A s l v w L m hr hl hL n x y => by
  obtain ⟨a, vs, rfl, il, r⟩ := x.tup_inv
  obtain ⟨t, rfl⟩ := y.int_inv
  obtain ⟨u, e, rd⟩ := r.get _ hd
  have hlt : i.toNat < vs.length := (List.getElem?_eq_some_iff.mp e).1
  exact getItem_tuple (j := i.toNat) (up_tup il) (by lia) h1 (seqIndex_nn h0 (by rw [List.size_toArray]; exact hlt)) (by simpa using e) (res_here' n rd)
theorem Op2.get_str {x : Str} {i : Int} {c : Nat} (h0 : 0 ≤ i) (h1 : i < 2 ^ 63) (hd : x.cps[i.toNat]? = some c) : Op2 W getItem (.str x) (.int i) (.str ⟨#[c]⟩) := fun A s l v w L m hr hl hL n x' y => by
  obtain ⟨t, rfl⟩ := x'.str_inv
  obtain ⟨t', rfl⟩ := y.int_inv
  refine PySem.P.getItem_str (c := c) ?_ ?_ (res_here n Rd.str)
  · rw [decide_eq_false (by lia), decide_eq_false (by lia)]; rfl
  · have hlt : i.toNat < x.length := (Array.getElem?_eq_some_iff.mp hd).1
    rw [seqIndex_nn h0 hlt]
    exact hd

theorem subTail {value slice : Expr} {o i : Value} {T id : String} {s : Shared} {Q : Value → Shared → Prop} (hT : s.TypeIs o T)
    (hl : typeLookup (.type T) "__getitem__" = pure (some (.builtin id))) (hs : ∃ ops, subscripted slice false o i = operate ops (getItem o i)) (h : wpAny W.M A (getItem o i) Q NoE s) :
    wpAny W.M A (subscriptTail value slice o i) Q NoE s := by
  obtain ⟨ops, hs⟩ := hs
  unfold subscriptTail
  refine wpAny_bind ?_
  rw [getitemInPython_of_ne hT.not_modules]
  refine wpAny_bind (wpAny_specialOf hT hl ?_)
  refine wpAny_pure (wpAny_bind ?_)
  rw [hs]
  exact wpAny_operating (wpAny_mono h (fun r s₃ h₃ => wpAny_bind (wpAny_letTemporaryGo (wpAny_pure h₃))) fun _ _ x => x)

theorem WE.sub {v i : Expr} {pos : Pos} (hC : ActOk W C) (hr : Rm 10 A)
    (h : WE W A C v σ fun x σ1 => WE W A C i σ1 fun y σ2 => Ex3 fun dx dy dr => A5 (x = .dat dx) (y = .dat dy) (Indexed dx) (Op2 W getItem dx dy dr) (k (.dat dr) σ2))
    (hs : ∀ o j, subscripted i false o j = operate [o, j] (getItem o j) := by intro _ _; rfl) : WE W A C (.Subscript v i pos) σ k := fun s H => by
  refine Subscript_ (wpAny_mono (h s H) (fun v s1 hqq => ?_) fun _ _ e => e)
  obtain ⟨x, σ1, h1, sm1, H1, le1, l1⟩ := hqq
  refine wpAny_mono (h1 s1 H1) (fun w s2 hqq => ?_) fun _ _ e => e
  obtain ⟨y, σ2, ⟨dx, dy, dr, ex, ey, ix, o, hk⟩, sm2, H2, le2, l2⟩ := hqq
  subst ex ey
  obtain ⟨T, id, hT, hl⟩ := ix.slot (l1.keeps le2) (hide_le (h := s2.heap))
  refine subTail hT hl ⟨_, hs _ _⟩ ?_
  exact wpAny_mono (op2_post hC hr o H2 hk (l1.keeps le2) l2) (fun u s3 p => p.lift (sm1.trans sm2) (le1.trans le2)) fun _ _ e => e

/-- an item of a list that is being changed -/
theorem WE.subMu {v i : Expr} {pos : Pos} (hC : ActOk W C)
    (h : WE W A C v σ fun x σ1 => WE W A C i σ1 fun y σ2 => Ex4 fun a xs j z => A7 (x = .ref a) (y = .dat (.int j)) ((a, xs) ∈ σ2.mu) (0 ≤ j) (j < 2 ^ 63) (xs[j.toNat]? = some z) (k z σ2))
    (hs : ∀ o j, subscripted i false o j = operate [o, j] (getItem o j) := by intro _ _; rfl) : WE W A C (.Subscript v i pos) σ k := fun s H => by
  refine Subscript_ (wpAny_mono (h s H) (fun v s1 hqq => ?_) fun _ _ e => e)
  obtain ⟨x, σ1, h1, sm1, H1, le1, l1⟩ := hqq
  refine wpAny_mono (h1 s1 H1) (fun w s2 hqq => ?_) fun _ _ e => e
  obtain ⟨y, σ2, ⟨a, xs, j, z, ex, ey, hm, h0, hj, hz, hk⟩, sm2, H2, le2, l2⟩ := hqq
  subst ex ey
  obtain ⟨t, rfl⟩ := Rd.int_inv l2
  obtain rfl : v = .ref a := l1
  obtain ⟨its, n, e, lx⟩ := H2.mus _ hm
  have il : s2.heap.IsList a its := ⟨_, e, rfl, n, rfl⟩
  obtain ⟨u, eu, lu⟩ := lx.get _ hz
  refine subTail il.typeIs slot_list_getitem.lookup ⟨_, hs _ _⟩ (wpAny_getItem_list il h0 hj (by simpa using eu) ?_)
  exact ⟨z, σ2, hk, sm1.trans sm2, H2, le1.trans le2, lu⟩

theorem slice_to_eq (items : Array Value) (n : Nat) : slicePick items none (some (n : Int)) none = (items.toList.take n).toArray := by
  by_cases h : n ≤ items.size
  · exact slicePick_upto items n h
  · have e : slicePick items none (some (n : Int)) none = slicePick items none (some (items.size : Int)) none := by
      unfold slicePick sliceBounds
      have h1 : ¬ ((n : Int) < 0) := by lia
      have h2 : ¬ ((items.size : Int) < 0) := by lia
      have h3 : min (n : Int) (items.size : Int) = items.size := by lia
      simp [h1, h2, h3]
    rw [e, slicePick_upto items _ (Nat.le_refl _)]
    rw [List.take_of_length_le (by simp), List.take_of_length_le (by simp; lia)]
theorem Rds.take {h : Heap} : ∀ {vs : List Value} {ds : List PyData} (n : Nat), Rds h vs ds → Rds h (vs.take n) (ds.take n)
  | _, _, 0, _ => by simpa using Rds.nil
  | [], [], _ + 1, r => r
  | [], _ :: _, _, ⟨_, r⟩ => by cases r
  | _ :: _, [], _, ⟨_, r⟩ => by cases r
  | _ :: _, _ :: _, n + 1, r => .cons r.inv.1 (r.inv.2.take n)
theorem Rds.drop {h : Heap} : ∀ {vs : List Value} {ds : List PyData} (n : Nat), Rds h vs ds → Rds h (vs.drop n) (ds.drop n)
  | _, _, 0, r => r
  | [], [], _ + 1, r => r
  | [], _ :: _, _, ⟨_, r⟩ => by cases r
  | _ :: _, [], _, ⟨_, r⟩ => by cases r
  | _ :: _, _ :: _, n + 1, r => r.inv.2.drop n

theorem WE.sliceTo {v e : Expr} {p pos : Pos} (hC : ActOk W C)
    (h : WE W A C v σ fun x σ1 => WE W A C e σ1 fun y σ2 => Ex2 fun ds n => A5 (x = .dat (.list ds)) (y = .dat (.int n)) (0 ≤ n) (ds.length ≤ sizeLine) (k (.dat (.list (ds.take n.toNat))) σ2))
    (ht : ∀ o r, letTemporaryGo v o r = pure () := by intro _ _; rfl) : WE W A C (.Subscript v (.Slice none (some e) none p) pos) σ k := fun s H => by
  refine wpAny_Subscript_Slice slot_list_getitem.lookup (wpAny_mono (h s H) (fun v s1 ⟨x, σ1, h1, sm1, H1, le1, l1⟩ => wpAny_Slice (wpAny_pure (wpAny_mono (h1 s1 H1) (fun w s2 ⟨y, σ2, ⟨ds, n, ex, ey, h0, hsz, hk⟩, sm2, H2, le2, l2⟩ => wpAny_pure ?_) fun _ _ e => e))) fun _ _ e => e) ht
  subst ex ey
  obtain ⟨t, rfl⟩ := Rd.int_inv l2
  obtain ⟨a, vs, rfl, il, r⟩ := Rd.list_inv (l1.keeps le2)
  have il2 := (up_list il).push { cls := .type "slice", data := .fields #[.none, .int n t, .none] }
  refine ⟨il2.typeIs, wpAny_getItem_list_slice il2 (Heap.IsSliceOf.new ..) .none (.int n t) .none (by simp) ?_ (by rw [List.size_toArray, r.len]; exact hsz)⟩
  have en : n = (n.toNat : Int) := by lia
  have e1 : slicePick vs.toArray none (some n) none = (vs.take n.toNat).toArray := by
    have := slice_to_eq vs.toArray n.toNat
    rw [← en] at this; exact this
  rw [e1]
  refine Post.lift (sm1.trans sm2) (le1.trans le2) (Post.here (s := s2) (x := .dat (.list (ds.take n.toNat))) hC hk H2 ⟨_, s2.toks, rfl⟩ (fun b o e => Heap.get?_push_of_some _ (Heap.get?_push_of_some _ e)) ?_)
  have H3 := let ⟨_, hm, _⟩ := H2.ns; (H2.step hC hm (.of_le (s' := { s2 with heap := s2.heap.push { cls := .type "slice", data := .fields #[.none, .int n t, .none] } }) ⟨_, s2.toks, rfl⟩ hm made_le)).1
  exact Rd.list ⟨_, made_out hC H3, rfl, 0, rfl⟩ ((r.keeps (hide_ext fun b o e => Heap.get?_push_of_some _ (Heap.get?_push_of_some _ e))).take _)
theorem WE.sliceFrom {v e : Expr} {p pos : Pos} (hC : ActOk W C)
    (h : WE W A C v σ fun x σ1 => WE W A C e σ1 fun y σ2 => Ex2 fun ds n => A6 (x = .dat (.list ds)) (y = .dat (.int n)) (0 ≤ n) (n ≤ ds.length) (ds.length ≤ sizeLine) (k (.dat (.list (ds.drop n.toNat))) σ2))
    (ht : ∀ o r, letTemporaryGo v o r = pure () := by intro _ _; rfl) : WE W A C (.Subscript v (.Slice (some e) none none p) pos) σ k := fun s H => by
  refine wpAny_Subscript_Slice slot_list_getitem.lookup (wpAny_mono (h s H) (fun v s1 ⟨x, σ1, h1, sm1, H1, le1, l1⟩ => wpAny_Slice (wpAny_mono (h1 s1 H1) (fun w s2 ⟨y, σ2, ⟨ds, n, ex, ey, h0, hn, hsz, hk⟩, sm2, H2, le2, l2⟩ => wpAny_pure (wpAny_pure ?_)) fun _ _ e => e)) fun _ _ e => e) ht
  subst ex ey
  obtain ⟨t, rfl⟩ := Rd.int_inv l2
  obtain ⟨a, vs, rfl, il, r⟩ := Rd.list_inv (l1.keeps le2)
  have il2 := (up_list il).push { cls := .type "slice", data := .fields #[.int n t, .none, .none] }
  refine ⟨il2.typeIs, wpAny_getItem_list_slice il2 (Heap.IsSliceOf.new ..) (.int n t) .none .none (by simp) ?_ (by rw [List.size_toArray, r.len]; exact hsz)⟩
  have en : n = (n.toNat : Int) := by lia
  have e1 : slicePick vs.toArray (some n) none none = (vs.drop n.toNat).toArray := by
    have := slicePick_from vs.toArray n.toNat (by rw [List.size_toArray, r.len]; lia)
    rw [← en] at this; exact this
  rw [e1]
  refine Post.lift (sm1.trans sm2) (le1.trans le2) (Post.here (s := s2) (x := .dat (.list (ds.drop n.toNat))) hC hk H2 ⟨_, s2.toks, rfl⟩ (fun b o e => Heap.get?_push_of_some _ (Heap.get?_push_of_some _ e)) ?_)
  have H3 := let ⟨_, hm, _⟩ := H2.ns; (H2.step hC hm (.of_le (s' := { s2 with heap := s2.heap.push { cls := .type "slice", data := .fields #[.int n t, .none, .none] } }) ⟨_, s2.toks, rfl⟩ hm made_le)).1
  exact Rd.list ⟨_, made_out hC H3, rfl, 0, rfl⟩ ((r.keeps (hide_ext fun b o e => Heap.get?_push_of_some _ (Heap.get?_push_of_some _ e))).drop _)

theorem WE.sliceStr {v e f : Expr} {p pos : Pos} (hC : ActOk W C)
    (h : WE W A C v σ fun x σ1 => WE W A C e σ1 fun y σ2 => WE W A C f σ2 fun z σ3 => Ex3 fun w i j => A5 (x = .dat (.str w)) (y = .dat (.int i)) (z = .dat (.int j)) (w.length ≤ sizeLine) (k (.dat (.str (Txt.slice w (some i) (some j)))) σ3))
    (ht : ∀ o r, letTemporaryGo v o r = pure () := by intro _ _; rfl) : WE W A C (.Subscript v (.Slice (some e) (some f) none p) pos) σ k := fun s H => by
  refine wpAny_Subscript_str_slice (wpAny_mono (h s H) (fun v s1 ⟨x, σ1, h1, sm1, H1, le1, l1⟩ => wpAny_mono (h1 s1 H1) (fun w s2 ⟨y, σ2, h2, sm2, H2, le2, l2⟩ =>
    wpAny_mono (h2 s2 H2) (fun u s3 ⟨z, σ3, ⟨w, i, j, ex, ey, ez, hsz, hk⟩, sm3, H3, le3, l3⟩ => ?_) fun _ _ e => e) fun _ _ e => e) fun _ _ e => e) ht
  subst ex ey ez
  obtain ⟨t1, rfl⟩ := Rd.str_inv l1
  obtain ⟨t2, rfl⟩ := Rd.int_inv l2
  obtain ⟨t3, rfl⟩ := Rd.int_inv l3
  refine ⟨w, t1, some (i, t2), some (j, t3), rfl, rfl, rfl, ?_⟩
  have fin : ∀ t tk, Post C σ s k (.str (Txt.slice w (some i) (some j)) t) { s3 with heap := s3.heap.push { cls := .type "slice", data := .fields #[.int i t2, .int j t3, .none] }, toks := tk } := fun t tk =>
    Post.lift (sm1.trans (sm2.trans sm3)) (le1.trans (le2.trans le3)) (Post.here (s := s3) (x := .dat (.str (Txt.slice w (some i) (some j)))) hC hk H3 ⟨_, tk, rfl⟩ made_le Rd.str)
  unfold sliceMade
  have e0 : slicePicked w (some (i, t2)) (some (j, t3)) none = Builtin.Str.strSliceIndices (some i) (some j) 1 w.length := rfl
  rw [e0]
  by_cases hc : ((1 : Int) == 1 && (Builtin.Str.strSliceIndices (some i) (some j) 1 w.length).length == w.length) = true
  · have e : Txt.slice w (some i) (some j) = w := by unfold Txt.slice; rw [if_pos hc]
    rw [show ((Option.map (fun x => x.fst) (none : Option (Int × Tok))).getD 1 == 1 && (Builtin.Str.strSliceIndices (some i) (some j) 1 w.length).length == w.length) = true from hc, if_pos rfl]
    have := fin t1 s3.toks
    rw [e] at this
    exact this
  · have e : Txt.slice w (some i) (some j) = ⟨((Builtin.Str.strSliceIndices (some i) (some j) 1 w.length).filterMap (w.cps[·]?)).toArray⟩ := by unfold Txt.slice; rw [if_neg hc]
    rw [if_neg (show ¬ (((Option.map (fun x => x.fst) (none : Option (Int × Tok))).getD 1 == 1 && (Builtin.Str.strSliceIndices (some i) (some j) 1 w.length).length == w.length) = true) from hc), ← e]
    refine ⟨?_, fin _ _⟩
    rw [e]
    have h1 := sliceIndices_le (some i) (some j) w.length
    have h2 := List.length_filterMap_le (w.cps[·]?) (Builtin.Str.strSliceIndices (some i) (some j) 1 w.length)
    show (List.toArray _).size ≤ sizeLine
    rw [List.size_toArray]
    lia
end

end Mine
namespace Mine

noncomputable def setL (x : Str) (v : V) : List (Str × V) → List (Str × V)
  | [] => [(x, v)]
  | (y, w) :: r => if y = x then (x, v) :: r else (y, w) :: setL x v r
theorem setL_lookup (x : Str) (v : V) (y : Str) : ∀ l : List (Str × V), (setL x v l).lookup y = if y = x then some v else l.lookup y
  | [] => by
    by_cases h : y = x
    · simp [setL, h]
    · simp [setL, h, List.lookup, beq_eq_false_iff_ne.mpr h]
  | (z, w) :: r => by
    have ih := setL_lookup x v y r
    by_cases hz : z = x
    · subst hz
      by_cases h : y = z
      · simp [setL, h]
      · simp [setL, h, List.lookup, beq_eq_false_iff_ne.mpr h]
    · by_cases h : y = x
      · subst h
        have hy : y ≠ z := fun q => hz q.symm
        simp only [setL, if_neg hz, List.lookup, beq_eq_false_iff_ne.mpr hy]
        simpa using ih
      · by_cases hyz : y = z
        · subst hyz; simp [setL, h]
        · simp only [setL, if_neg hz, List.lookup, beq_eq_false_iff_ne.mpr hyz, if_neg h]
          rw [ih, if_neg h]
noncomputable def St.put (σ : St) (x : Str) (v : V) : St := ⟨setL x v σ.loc, σ.mu⟩
noncomputable def St.putAll (σ : St) : List Str → List V → St
  | x :: xs, v :: vs => (σ.put x v).putAll xs vs
  | _, _ => σ

inductive Can (C : Act) (x : Str) : Prop where
  | loc (h : C.env.kindOf x = some .local)
  | cell {c : Addr} (h : C.env.kindOf x = some .cell) (hc : C.env.cells.lookup x = some c) (ho : c ∈ C.own) (hn : c ≠ C.env.locals)

inductive PostU (C : Act) (σ : St) (s : Shared) (k : St → Prop) (s' : Shared) : Prop where
  | mk (σ' : St) (hk : k σ') (sm : Sm s s') (H : Hold C σ' s'.heap) (le : Le (G C σ s.heap) (G C σ' s'.heap))

section
variable {W : Wd} {A : Around} {C : Act} {σ : St} {k : V → St → Prop}

theorem PostU.lift {s s' s'' : Shared} {σ' : St} {k : St → Prop} (hs : Sm s s') (hle : Le (G C σ s.heap) (G C σ' s'.heap)) (p : PostU C σ' s' k s'') : PostU C σ s k s'' :=
  let ⟨σ2, a, b, c, d⟩ := p; ⟨σ2, a, hs.trans b, c, hle.trans d⟩

theorem ns_val {h : Heap} {L : Addr} {m m' : Str → Option Value} (a : h.Ns L m) (b : h.Ns L m') (x : Str) : m x = m' x := by
  obtain ⟨o1, es1, ep1, f1, f2, f3, f4⟩ := a
  obtain ⟨o2, es2, ep2, g1, g2, g3, g4⟩ := b
  rw [f1] at g1; cases g1; rw [f2] at g2; cases g2
  rw [← f4, g4]

theorem Hold.store {x : Str} {v : Value} {xv : V} {s : Shared} {Q : Unit → Shared → Prop} (hC : ActOk W C) (hx : Can C x) (H : Hold C σ s.heap) (l : LayV (G C σ s.heap) v xv)
    (h : ∀ s', Sm s s' → Hold C (σ.put x xv) s'.heap → Le (G C σ s.heap) (G C (σ.put x xv) s'.heap) → Q () s') : wpAny W.M A (storeName C.env x v) Q NoE s := by
  have hlk : ∀ y, (σ.put x xv).loc.lookup y = if y = x then some xv else σ.loc.lookup y := fun y => setL_lookup x xv y σ.loc
  cases hx with
  | loc hk =>
    obtain ⟨m, hn, hm⟩ := H.ns
    have hL : C.env.locals ∈ hid C σ.mu := List.mem_cons_of_mem _ (List.mem_append_left _ hC.loc)
    have hLl : C.env.locals ∈ hidl C σ.mu := List.mem_append_right _ hL
    refine wpAny_storeName_local hk hn (fun h' hn' hs => ?_) (by rw [hC.kind]; rfl)
    have keep : ∀ b o, b ≠ C.env.locals → s.heap.get? b = some o → h'.get? b = some o := fun b o n e => (hs.2 b n).trans e
    have le1 : Le (hideAll s.heap (hid C σ.mu)) (hideAll h' (hid C σ.mu)) := hide_same fun b o n e => keep b o (fun q => n (q ▸ hL)) e
    have le2 : Le (G C σ s.heap) (G C (σ.put x xv) h') := hide_same fun b o n e => keep b o (fun q => n (q ▸ hLl)) e
    refine h _ ⟨h', _, rfl⟩ ⟨H.keep.trans le1, H.nodup, ?_, ?_, ?_, ?_, ?_⟩ le2
    · refine H.tab.keeps (l := [C.env.locals]) (fun b o n e => keep b o (by simpa using n) e) (by simpa using Ne.symm (Act.ne89 H.nodup hC.loc)) fun a ha => ?_
      rw [List.mem_singleton.mp ha]; exact ns_no_fields hn
    · refine ⟨_, hn', fun y w e1 e2 => ?_⟩
      rw [hlk] at e1
      by_cases hy : y = x
      · rw [if_pos hy] at e1; cases e1
        exact ⟨v, by simp [hy], l.keeps le2⟩
      · rw [if_neg hy] at e1
        obtain ⟨v', c1, c2⟩ := hm y w e1 e2
        exact ⟨v', by simp [hy, c1], c2.keeps le2⟩
    · intro y w e1 e2
      rw [hlk] at e1
      by_cases hy : y = x
      · subst hy; exact absurd hk e2
      · rw [if_neg hy] at e1
        obtain ⟨c, v', c1, ⟨o, c2, c3⟩, c4⟩ := H.cell y w e1 e2
        refine ⟨c, v', c1, ⟨o, keep c o (fun q => ?_) c2, c3⟩, c4.keeps le2⟩
        obtain ⟨o1, es1, ep1, f1, f2, _⟩ := hn
        rw [q, f1] at c2; cases c2; rw [f2] at c3; cases c3
    · intro c hc hne
      obtain ⟨w, o, e, d⟩ := H.ownc c hc hne
      exact ⟨w, o, keep c o hne e, d⟩
    · intro p hp
      obtain ⟨i, n, e, l⟩ := H.mus p hp
      refine ⟨i, n, keep _ _ (fun q => ?_) e, l.keeps le2⟩
      obtain ⟨o1, es1, ep1, f1, f2, _⟩ := hn
      rw [q, f1] at e; cases e; cases f2
  | cell hk hc ho hne =>
    rename_i c
    obtain ⟨m, hn, hm⟩ := H.ns
    obtain ⟨w0, o0, e0, d0'⟩ := H.ownc c ho hne
    have hcm : c ∈ C.env.cells.map (·.2) := List.mem_map_of_mem (f := fun p : Str × Addr => p.2) (mem_of_lookup hc)
    have d0 : o0.data = .cell w0 := (d0'.resolve_right fun q => q.2.1 hcm).1
    have hL : c ∈ hid C σ.mu := List.mem_cons_of_mem _ (List.mem_append_left _ ho)
    have hLl : c ∈ hidl C σ.mu := List.mem_append_right _ hL
    refine wpAny_storeName_cell hC.kind hk hc ⟨o0, e0, d0⟩ fun h' hcell hs => ?_
    have keep : ∀ b o, b ≠ c → s.heap.get? b = some o → h'.get? b = some o := fun b o n e => (hs.2 b n).trans e
    have le1 : Le (hideAll s.heap (hid C σ.mu)) (hideAll h' (hid C σ.mu)) := hide_same fun b o n e => keep b o (fun q => n (q ▸ hL)) e
    have le2 : Le (G C σ s.heap) (G C (σ.put x xv) h') := hide_same fun b o n e => keep b o (fun q => n (q ▸ hLl)) e
    refine h _ ⟨h', _, rfl⟩ ⟨H.keep.trans le1, H.nodup, ?_, ?_, ?_, ?_, ?_⟩ le2
    · refine H.tab.keeps (l := [c]) (fun b o n e => keep b o (by simpa using n) e) (by simpa using Ne.symm (Act.ne89 H.nodup ho)) fun a ha o vs e d => ?_
      rw [List.mem_singleton.mp ha, e0] at e; cases e; rw [d0] at d; cases d
    · refine ⟨m, hn.sameBut hs hne.symm, fun y w e1 e2 => ?_⟩
      rw [hlk] at e1
      by_cases hy : y = x
      · subst hy; rw [hk] at e2; cases e2
      · rw [if_neg hy] at e1
        obtain ⟨v', c1, c2⟩ := hm y w e1 e2
        exact ⟨v', c1, c2.keeps le2⟩
    · intro y w e1 e2
      rw [hlk] at e1
      by_cases hy : y = x
      · rw [if_pos hy] at e1; cases e1; subst hy
        exact ⟨c, v, hc, hcell, l.keeps le2⟩
      · rw [if_neg hy] at e1
        obtain ⟨c', v', c1, ⟨o, c2, c3⟩, c4⟩ := H.cell y w e1 e2
        exact ⟨c', v', c1, ⟨o, keep c' o (fun q => hy (hC.inj y x c (q ▸ c1) hc ho hne)) c2, c3⟩, c4.keeps le2⟩
    · intro c' hc' hne'
      by_cases q : c' = c
      · subst q; exact let ⟨o, e, d⟩ := hcell; ⟨_, o, e, .inl ⟨d, hcm⟩⟩
      · obtain ⟨w, o, e, d⟩ := H.ownc c' hc' hne'
        exact ⟨w, o, keep c' o q e, d⟩
    · intro p hp
      obtain ⟨i, n, e, l⟩ := H.mus p hp
      refine ⟨i, n, keep _ _ (fun q => ?_) e, l.keeps le2⟩
      rw [q, e0] at e; cases e; cases d0

/-- to lay a value under a target -/
noncomputable def WA (W : Wd) (A : Around) (C : Act) (t : Expr) (x : V) (σ : St) (k : St → Prop) : Prop :=
  ∀ s v, Hold C σ s.heap → LayV (G C σ s.heap) v x → wpAny W.M A (assign t C.env v) (fun _ => PostU C σ s k) NoE s
noncomputable def WAs (W : Wd) (A : Around) (C : Act) (ts : List Expr) (xs : List V) (σ : St) (k : St → Prop) : Prop :=
  ∀ s vs, Hold C σ s.heap → LayVs (G C σ s.heap) vs xs → wpAny W.M A (assignInOrder ((assignEach ts C.env).map (·.2)) vs) (fun _ => PostU C σ s k) NoE s
theorem WA.name {x : Str} {pos : Pos} {v : V} {k : St → Prop} (hC : ActOk W C) (hx : Can C x) (h : k (σ.put x v)) : WA W A C (.Name x pos) v σ k := fun s w H l =>
  assign_Name (H.store hC hx l fun s' sm H' le => ⟨_, h, sm, H', le⟩)
theorem WAs.nil {k : St → Prop} (h : k σ) : WAs W A C [] [] σ k := fun s vs H l => assignInOrder_nil ⟨σ, h, Sm.refl _, H, Le.refl _⟩
theorem WAs.cons {t : Expr} {ts : List Expr} {x : V} {xs : List V} {k : St → Prop} (h : WA W A C t x σ fun σ1 => WAs W A C ts xs σ1 k)
    (he : assignEach (t :: ts) C.env = (false, assign t C.env) :: assignEach ts C.env := by rfl) : WAs W A C (t :: ts) (x :: xs) σ k := fun s vs H l => by
  cases l with | cons a b =>
  rw [he]
  refine assignInOrder_cons (wpAny_mono (h s _ H a) (fun _ s1 hqq => ?_) fun _ _ e => e)
  obtain ⟨σ1, h1, sm1, H1, le1⟩ := hqq
  exact wpAny_mono (h1 s1 _ H1 (b.keeps le1)) (fun _ s2 p => p.lift sm1 le1) fun _ _ e => e
theorem ext_le {h h' : Heap} (e : Heap.ExtBut h.objs.size h h') : Le h h' := fun b o g => e b o (Nat.ne_of_lt (Heap.lt_size g)) g
theorem WA.tuple {ts : List Expr} {n : Nat} {pos : Pos} {ds : List PyData} {k : St → Prop} (hC : ActOk W C) (hr : Rm 10 A) (hn : (assignEach ts C.env).length = ds.length) (h : WAs W A C ts (ds.map V.dat) σ k)
    (hstar : (assignEach ts C.env).findIdx? (·.1) = none := by rfl) : WA W A C (.Tuple ts n pos) (.dat (.tuple ds)) σ k := fun s v H l => by
  obtain ⟨a, vs, rfl, it, r⟩ := Rd.tup_inv l
  refine assign_Tuple_tuple hr.handled (up_tup it) (by rw [List.size_toArray, r.len]; exact hn) hstar fun h' he => ?_
  obtain ⟨m, hm, _⟩ := H.ns
  obtain ⟨H1, le1⟩ := H.step (s' := { s with heap := h' }) hC hm (.of_le ⟨h', s.toks, rfl⟩ hm (ext_le he))
  have := h { s with heap := h' } vs H1 (LayVs.of_rds (r.keeps le1))
  exact wpAny_mono this (fun _ s2 p => p.lift ⟨h', s.toks, rfl⟩ le1) fun _ _ e => e

/-- what a statement ends with -/
inductive Fl where
  | next | brk | cont
  | ret (x : V)
noncomputable def LayFl (h : Heap) : Flow → Fl → Prop
  | .next, .next => True
  | .brk, .brk => True
  | .cont, .cont => True
  | .ret v, .ret x => LayV h v x
  | _, _ => False
inductive PostF (C : Act) (σ : St) (s : Shared) (k : Fl → St → Prop) (f : Flow) (s' : Shared) : Prop where
  | mk (g : Fl) (σ' : St) (hk : k g σ') (sm : Sm s s') (H : Hold C σ' s'.heap) (le : Le (G C σ s.heap) (G C σ' s'.heap)) (l : LayFl (G C σ' s'.heap) f g)
noncomputable def WS (W : Wd) (A : Around) (C : Act) (E : Value → Shared → Prop) (st : Stmt) (σ : St) (k : Fl → St → Prop) : Prop :=
  ∀ s, Sm C.s₀ s → Hold C σ s.heap → wpAny W.M A (exec st C.env) (PostF C σ s k) E s
noncomputable def WX (W : Wd) (A : Around) (C : Act) (E : Value → Shared → Prop) (st : List Stmt) (σ : St) (k : Fl → St → Prop) : Prop :=
  ∀ s, Sm C.s₀ s → Hold C σ s.heap → wpAny W.M A (execs st C.env) (PostF C σ s k) E s

variable {E : Value → Shared → Prop} {kf : Fl → St → Prop}
theorem PostF.lift {s s' s'' : Shared} {σ' : St} {f : Flow} (hs : Sm s s') (hle : Le (G C σ s.heap) (G C σ' s'.heap)) (p : PostF C σ' s' kf f s'') : PostF C σ s kf f s'' :=
  let ⟨g, σ2, a, b, c, d, e⟩ := p; ⟨g, σ2, a, hs.trans b, c, hle.trans d, e⟩
theorem noE {e : Value} {s : Shared} : NoE e s → E e s := fun x => x.elim
theorem WX.nil (h : kf .next σ) : WX W A C E [] σ kf := fun s sm H => wpAny_execs_nil ⟨.next, σ, h, Sm.refl _, H, Le.refl _, trivial⟩
theorem WX.cons {st : Stmt} {rest : List Stmt} (h : WS W A C E st σ fun f σ1 => match f with | .next => WX W A C E rest σ1 kf | g => kf g σ1) : WX W A C E (st :: rest) σ kf := fun s sm H => by
  refine wpAny_execs_cons (wpAny_mono (h s sm H) (fun f s1 hqq => ?_) fun _ _ e => e)
  obtain ⟨g, σ1, h1, sm1, H1, le1, l1⟩ := hqq
  cases f <;> cases g <;> try (exact l1.elim)
  · exact wpAny_mono (h1 s1 (sm.trans sm1) H1) (fun f s2 p => p.lift sm1 le1) fun _ _ e => e
  · exact ⟨.brk, σ1, h1, sm1, H1, le1, trivial⟩
  · exact ⟨.cont, σ1, h1, sm1, H1, le1, trivial⟩
  · exact ⟨.ret _, σ1, h1, sm1, H1, le1, l1⟩
theorem WS.mono {st : Stmt} {kf' : Fl → St → Prop} (h : WS W A C E st σ kf) (hk : ∀ f σ', kf f σ' → kf' f σ') : WS W A C E st σ kf' := fun s sm H =>
  wpAny_mono (h s sm H) (fun _ _ ⟨x, σ', a, b, c, d, e⟩ => ⟨x, σ', hk _ _ a, b, c, d, e⟩) fun _ _ x => x
theorem WX.mono {st : List Stmt} {kf' : Fl → St → Prop} (h : WX W A C E st σ kf) (hk : ∀ f σ', kf f σ' → kf' f σ') : WX W A C E st σ kf' := fun s sm H =>
  wpAny_mono (h s sm H) (fun _ _ ⟨x, σ', a, b, c, d, e⟩ => ⟨x, σ', hk _ _ a, b, c, d, e⟩) fun _ _ x => x

theorem WS.ret {e : Expr} {pos : Pos} (h : WE W A C e σ fun x σ1 => kf (.ret x) σ1) : WS W A C E (.Return (some e) pos) σ kf := fun s sm H =>
  wpAny_Return_some (wpAny_mono (h s H) (fun v s1 ⟨x, σ1, h1, sm1, H1, le1, l1⟩ => ⟨.ret x, σ1, h1, sm1, H1, le1, l1⟩) fun _ _ e => noE e)
theorem WS.pass {pos : Pos} (h : kf .next σ) : WS W A C E (.Pass pos) σ kf := fun s sm H => wpAny_Pass ⟨.next, σ, h, Sm.refl _, H, Le.refl _, trivial⟩
theorem WS.ite {t : Expr} {a b : List Stmt} {pos : Pos} (h : WT W A C t σ fun c σ1 => (c = true → WX W A C E a σ1 kf) ∧ (c = false → WX W A C E b σ1 kf)) : WS W A C E (.If t a b pos) σ kf := fun s sm H => by
  refine wpAny_If (wpAny_mono (h s H) (fun c s1 hqq => ?_) fun _ _ e => noE e)
  obtain ⟨σ1, ⟨ht, hf⟩, sm1, H1, le1⟩ := hqq
  cases c with
  | false => exact wpAny_mono (hf rfl s1 (sm.trans sm1) H1) (fun b s2 p => p.lift sm1 le1) fun _ _ e => e
  | true => exact wpAny_mono (ht rfl s1 (sm.trans sm1) H1) (fun b s2 p => p.lift sm1 le1) fun _ _ e => e
theorem WS.assign {x : Str} {p pos : Pos} {e : Expr} (hC : ActOk W C) (hx : Can C x) (h : WE W A C e σ fun v σ1 => kf .next (σ1.put x v))
    (hs : swapsWith e (some (.Name x p)) pos.line C.env = pure false := by rfl) : WS W A C E (.Assign [.Name x p] e pos) σ kf := fun s sm H =>
  wpAny_Assign_Name (wpAny_mono (h s H) (fun v s1 ⟨y, σ1, h1, sm1, H1, le1, l1⟩ => wpAny_mono (H1.store hC hx l1 fun s' sm2 H2 le2 => (⟨.next, _, h1, sm1.trans sm2, H2, le1.trans le2, trivial⟩ : PostF C σ s kf .next s'))
    (fun _ _ p => p) fun _ _ e => noE e) fun _ _ e => noE e) hs
end

end Mine
namespace Mine
section
variable {W : Wd} {A : Around} {C : Act} {σ : St} {k : V → St → Prop} {E : Value → Shared → Prop} {kf : Fl → St → Prop}

theorem tuple_made {es : List Expr} {n : Nat} {pos : Pos} {s : Shared} {kk : List V → St → Prop} (hC : ActOk W C) (H : Hold C σ s.heap) (h : WEs W A C pos es σ fun xs σ1 => xs.length ≤ sizeLine ∧ kk xs σ1) :
    wpAny W.M A (eval (.Tuple es n pos) C.env) (fun v s' => Ex4 fun t vs xs σ' => A7 (v = .ref t) (IsTup s'.heap t vs.toArray) (LayVs (G C σ' s'.heap) vs xs) (kk xs σ') (Sm s s') (Hold C σ' s'.heap) (Le (G C σ s.heap) (G C σ' s'.heap))) NoE s := by
  refine Tuple_ (wpAny_mono (h s H) (fun vs s1 hqq => ?_) fun _ _ e => e)
  obtain ⟨xs, σ1, ⟨hsz, hk⟩, sm1, H1, le1, l1⟩ := hqq
  refine wpAny_newTuple ?_ (by rw [l1.len]; exact hsz)
  obtain ⟨m, hm, _⟩ := H1.ns
  obtain ⟨H2, le2⟩ := H1.step (s' := { s1 with heap := s1.heap.push { cls := .type "tuple", data := .seq vs.toArray } }) hC hm (.of_le ⟨_, s1.toks, rfl⟩ hm made_le)
  exact ⟨_, vs, xs, σ1, rfl, ⟨_, Heap.get?_push_size _ rfl, rfl, 0, rfl⟩, l1.keeps le2, hk, sm1.trans ⟨_, s1.toks, rfl⟩, H2, le1.trans le2⟩

theorem WS.assignTup {ts es : List Expr} {n n' : Nat} {tp vp pos : Pos} (hC : ActOk W C) (hr : Rm 10 A) (hn : (assignEach ts C.env).length = es.length)
    (h : WEs W A C vp es σ fun xs σ1 => xs.length ≤ sizeLine ∧ xs.length = es.length ∧ WAs W A C ts xs σ1 fun σ2 => kf .next σ2)
    (hs : swapsWithSole [.Tuple ts n tp] (.Tuple es n' vp) pos.line C.env = pure false := by rfl)
    (hw : swappedStores [.Tuple ts n tp] (.Tuple es n' vp) C.env = pure none := by rfl) (hstar : (assignEach ts C.env).findIdx? (·.1) = none := by rfl) :
    WS W A C E (.Assign [.Tuple ts n tp] (.Tuple es n' vp) pos) σ kf := fun s sm H => by
  refine Assign_Tuple (wpAny_mono (tuple_made (n := n') hC H h) (fun v s1 hqq => ?_) fun _ _ e => noE e) hs hw
  obtain ⟨t, vs, xs, σ1, ev, it, l1, ⟨hlen, hk⟩, sm1, H1, le1⟩ := hqq
  subst ev
  refine wpAny_mono (assign_Tuple_tuple (E := NoE) hr.handled it (by rw [List.size_toArray, l1.len, hlen]; exact hn) hstar fun h' he => ?_) (fun _ _ p => p) fun _ _ e => noE e
  obtain ⟨m, hm, _⟩ := H1.ns
  obtain ⟨H2, le2⟩ := H1.step (s' := { s1 with heap := h' }) hC hm (.of_le ⟨h', s1.toks, rfl⟩ hm (ext_le he))
  exact wpAny_mono (hk _ vs H2 (l1.keeps le2)) (fun _ s2 ⟨σ3, k3, sm3, H3, le3⟩ => ⟨.next, σ3, k3, sm1.trans (Sm.trans ⟨h', s1.toks, rfl⟩ sm3), H3, le1.trans (le2.trans le3), trivial⟩) fun _ _ e => e

inductive Cans (C : Act) : List Str → Prop where
  | nil : Cans C []
  | cons {x : Str} {xs : List Str} : Can C x → Cans C xs → Cans C (x :: xs)
theorem bindAll (hC : ActOk W C) : ∀ {xs : List Str} {σ : St} {vs : List Value} {ys : List V} {s : Shared}, Cans C xs → Hold C σ s.heap → LayVs (G C σ s.heap) vs ys →
    wpAny W.M A (assignInOrder (xs.map fun n => bindName C.env n) vs) (fun _ s' => Sm s s' ∧ Hold C (σ.putAll xs ys) s'.heap ∧ Le (G C σ s.heap) (G C (σ.putAll xs ys) s'.heap)) NoE s := by
  intro xs
  induction xs with
  | nil => intro σ vs ys s _ H l; exact assignInOrder_nil ⟨Sm.refl _, by simpa [St.putAll] using H, by simpa [St.putAll] using Le.refl _⟩
  | cons x xs ih =>
    intro σ vs ys s c H l
    cases c with | cons c1 c2 =>
    cases l with
    | nil => exact wpAny_pure ⟨Sm.refl _, by simpa [St.putAll] using H, by simpa [St.putAll] using Le.refl _⟩
    | cons a b =>
      refine assignInOrder_cons (wpAny_bindName (H.store hC c1 a fun s' sm1 H1 le1 => ?_))
      exact wpAny_mono (ih c2 H1 (b.keeps le1)) (fun _ s2 ⟨sm2, H2, le2⟩ => ⟨sm1.trans sm2, H2, le1.trans le2⟩) fun _ _ e => e
theorem LayVs.reverse {h : Heap} : ∀ {vs : List Value} {xs : List V}, LayVs h vs xs → LayVs h vs.reverse xs.reverse
  | _, _, .nil => .nil
  | _, _, .cons a b => by rw [List.reverse_cons, List.reverse_cons]; exact b.reverse.append (.cons a .nil)

theorem WS.assignSwap {ts es : List Expr} {n n' : Nat} {tp vp pos : Pos} {names : List Str} (hC : ActOk W C) (hr : Rm 10 A) (hc : Cans C names.reverse)
    (h : WEs W A C vp es σ fun xs σ1 => xs.length ≤ sizeLine ∧ names.length = xs.length ∧ kf .next (σ1.putAll names.reverse xs.reverse))
    (hs : swapsWithSole [.Tuple ts n tp] (.Tuple es n' vp) pos.line C.env = pure false := by rfl)
    (hw : swappedStores [.Tuple ts n tp] (.Tuple es n' vp) C.env = pure (some names) := by rfl) :
    WS W A C E (.Assign [.Tuple ts n tp] (.Tuple es n' vp) pos) σ kf := fun s sm H => by
  refine Assign_Tuple_swapped (wpAny_mono (tuple_made (n := n') hC H h) (fun v s1 hqq => ?_) fun _ _ e => noE e) hs hw
  obtain ⟨t, vs, xs, σ1, ev, it, l1, ⟨hlen, hk⟩, sm1, H1, le1⟩ := hqq
  subst ev
  have e : names.length = vs.toArray.size := by rw [List.size_toArray, l1.len, hlen]
  rw [e]
  refine wpAny_mono (unpackItems_tuple (E := NoE) hr.handled it fun h' he => ?_) (fun _ _ p => p) fun _ _ e => noE e
  obtain ⟨m, hm, _⟩ := H1.ns
  obtain ⟨H2, le2⟩ := H1.step (s' := { s1 with heap := h' }) hC hm (.of_le ⟨h', s1.toks, rfl⟩ hm (ext_le he))
  refine wpAny_mono (bindAll hC hc H2 (l1.keeps le2).reverse) (fun _ s2 hqq => ?_) fun _ _ e => noE e
  obtain ⟨sm3, H3, le3⟩ := hqq
  exact ⟨.next, _, hk, sm1.trans (Sm.trans ⟨h', s1.toks, rfl⟩ sm3), H3, le1.trans (le2.trans le3), trivial⟩

/-- a tuple taken apart -/
theorem WS.unpack {ts : List Expr} {n : Nat} {tp pos : Pos} {e : Expr} (hC : ActOk W C)
    (h : WE W A C e σ fun x σ1 => WA W A C (.Tuple ts n tp) x σ1 fun σ2 => kf .next σ2)
    (hs : swapsWithSole [.Tuple ts n tp] e pos.line C.env = pure false := by rfl)
    (hw : swappedStores [.Tuple ts n tp] e C.env = pure none := by rfl) : WS W A C E (.Assign [.Tuple ts n tp] e pos) σ kf := fun s sm H => by
  refine Assign_Tuple (wpAny_mono (h s H) (fun v s1 hqq => ?_) fun _ _ e => noE e) hs hw
  obtain ⟨x, σ1, h1, sm1, H1, le1, l1⟩ := hqq
  exact wpAny_mono (h1 s1 v H1 l1) (fun _ s2 ⟨σ3, k3, sm3, H3, le3⟩ => ⟨.next, σ3, k3, sm1.trans sm3, H3, le1.trans le3, trivial⟩) fun _ _ e => noE e
/-- a list that is being changed, taken apart -/
theorem WA.unpackMu {ts : List Expr} {n : Nat} {pos : Pos} {a : Addr} {xs : List V} {k : St → Prop} (hC : ActOk W C) (hr : Rm 10 A) (hm : (a, xs) ∈ σ.mu) (hn : (assignEach ts C.env).length = xs.length) (h : WAs W A C ts xs σ k)
    (hstar : (assignEach ts C.env).findIdx? (·.1) = none := by rfl) : WA W A C (.Tuple ts n pos) (.ref a) σ k := fun s v H l => by
  obtain rfl : v = .ref a := l
  obtain ⟨its, nn, e, lx⟩ := H.mus _ hm
  have il : s.heap.IsList a its := ⟨_, e, rfl, nn, rfl⟩
  rw [assign_Tuple]
  refine wpAny_bind (wpAny_standAt ?_)
  unfold unpack
  have hsz : (assignEach ts C.env).length = its.size := by rw [hn, ← lx.len]; simp
  rw [hsz, hstar]
  refine wpAny_bind (wpAny_holding (kun_itemsOf hr.handled il fun h' he => ?_))
  obtain ⟨m, hm', _⟩ := H.ns
  obtain ⟨H1, le1⟩ := H.step (s' := { s with heap := h' }) hC hm' (.of_le ⟨h', s.toks, rfl⟩ hm' (ext_le he))
  exact wpAny_mono (h { s with heap := h' } _ H1 (lx.keeps le1)) (fun _ s2 p => p.lift ⟨h', s.toks, rfl⟩ le1) fun _ _ e => e

/-- the items of one list are others now -/
noncomputable def setMu (a : Addr) (xs : List V) (mu : Mu) : Mu := mu.map fun p => if p.1 = a then (a, xs) else p
theorem setMu_keys (a : Addr) (xs : List V) (mu : Mu) : keys (setMu a xs mu) = keys mu := by
  unfold setMu keys
  rw [List.map_map]
  apply List.map_congr_left
  intro p hp
  simp only [Function.comp]
  split
  · rename_i h; exact h.symm
  · rfl
theorem Hold.setMu {a : Addr} {xs ys : List V} {s : Shared} {h' : Heap} {its : Array Value} {n : Nat} (hC : ActOk W C) (H : Hold C σ s.heap) (hm : (a, xs) ∈ σ.mu) (hs : Heap.SameBut a s.heap h') (hg : h'.get? a = some (listOf its n))
    (l : LayVs (G C σ s.heap) its.toList ys) : Hold C ⟨σ.loc, Mine.setMu a ys σ.mu⟩ h' ∧ Le (G C σ s.heap) (G C ⟨σ.loc, Mine.setMu a ys σ.mu⟩ h') := by
  obtain ⟨i0, n0, e0, l0⟩ := H.mus _ hm
  have hL : a ∈ hid C σ.mu := List.mem_cons_of_mem _ (List.mem_append_right _ (List.mem_map_of_mem hm))
  have hk : hid C (Mine.setMu a ys σ.mu) = hid C σ.mu := by unfold hid; rw [setMu_keys]
  have hkl : hidl C (Mine.setMu a ys σ.mu) = hidl C σ.mu := by unfold hidl; rw [hk]
  have keep : ∀ b o, b ≠ a → s.heap.get? b = some o → h'.get? b = some o := fun b o n e => (hs.2 b n).trans e
  have le1 : Le (hideAll s.heap (hid C σ.mu)) (hideAll h' (hid C (Mine.setMu a ys σ.mu))) := by rw [hk]; exact hide_same fun b o n e => keep b o (fun q => n (q ▸ hL)) e
  have le2 : Le (G C σ s.heap) (G C ⟨σ.loc, Mine.setMu a ys σ.mu⟩ h') := by
    show Le _ (hideAll h' (hidl C (Mine.setMu a ys σ.mu)))
    rw [hkl]; exact hide_same fun b o n e => keep b o (fun q => n (q ▸ List.mem_append_right _ hL)) e
  have n0' := H.nodup
  have ha89 : a ≠ 89 := fun q => (List.nodup_cons.mp n0').1 (List.mem_append_right _ (q ▸ List.mem_map_of_mem hm))
  refine ⟨⟨H.keep.trans le1, by rw [hk]; exact H.nodup, ?_, ?_, ?_, ?_, ?_⟩, le2⟩
  · refine H.tab.keeps (l := [a]) (fun b o n e => keep b o (by simpa using n) e) (by simpa using Ne.symm ha89) fun b hb o vs e d => ?_
    rw [List.mem_singleton.mp hb, e0] at e; cases e; cases d
  · obtain ⟨m, b, c⟩ := H.ns
    refine ⟨m, b.sameBut hs (fun q => ?_), fun x v e1 e2 => let ⟨v', c1, c2⟩ := c x v e1 e2; ⟨v', c1, c2.keeps le2⟩⟩
    obtain ⟨o1, es1, ep1, f1, f2, _⟩ := b
    rw [q, e0] at f1; cases f1; cases f2
  · intro x v e1 e2
    obtain ⟨c, v', c1, ⟨o, c2, c3⟩, c4⟩ := H.cell x v e1 e2
    refine ⟨c, v', c1, ⟨o, keep c o (fun q => ?_) c2, c3⟩, c4.keeps le2⟩
    rw [q, e0] at c2; cases c2; cases c3
  · intro c hc hn
    obtain ⟨w, o, e, d⟩ := H.ownc c hc hn
    refine ⟨w, o, keep c o (fun q => ?_) e, d⟩
    rw [q, e0] at e; cases e; rcases d with ⟨d, _⟩ | ⟨⟨_, _, d⟩, _⟩ <;> cases d
  · intro p hp
    obtain ⟨q, hq, rfl⟩ := List.mem_map.mp hp
    by_cases e : q.1 = a
    · rw [if_pos e]
      exact ⟨its, n, hg, l.keeps le2⟩
    · rw [if_neg e]
      obtain ⟨i, n', e', l'⟩ := H.mus q hq
      exact ⟨i, n', keep _ _ e e', l'.keeps le2⟩
theorem get_mapSeq {h : Heap} {a : Addr} {its : Array Value} {n : Nat} {f : Array Value → Array Value} (e : h.get? a = some (listOf its n)) : ∃ n', (h.update a (Obj.mapSeq f)).get? a = some (listOf (f its) n') :=
  ⟨_, Heap.get?_update_self _ e rfl⟩
end

end Mine
namespace Mine
theorem lay_set {h : Heap} {v : Value} {x : V} : ∀ {vs : List Value} {xs : List V}, LayVs h vs xs → LayV h v x → ∀ j : Nat, LayVs h (vs.set j v) (xs.set j x)
  | _, _, .nil, _, _ => .nil
  | _, _, .cons _ b, l, 0 => .cons l b
  | _, _, .cons a b, l, j + 1 => .cons a (lay_set b l j)
section
variable {W : Wd} {A : Around} {C : Act} {σ : St} {k : V → St → Prop} {E : Value → Shared → Prop} {kf : Fl → St → Prop}

/-- the same heap seen by another state -/
noncomputable def View (C : Act) (σ σ' : St) : Prop := ∀ h, Hold C σ h → Hold C σ' h ∧ Le (G C σ h) (G C σ' h)
theorem View.refl : View C σ σ := fun h H => ⟨H, Le.refl _⟩
theorem View.trans {σ' σ'' : St} (a : View C σ σ') (b : View C σ' σ'') : View C σ σ'' := fun h H => let ⟨x, y⟩ := a h H; let ⟨z, w⟩ := b h x; ⟨z, y.trans w⟩
theorem WX.view {σ' : St} {st : List Stmt} (v : View C σ σ') (h : WX W A C E st σ' kf) : WX W A C E st σ kf := fun s sm H => by
  obtain ⟨H', le⟩ := v _ H
  exact wpAny_mono (h s sm H') (fun f s2 p => p.lift (Sm.refl _) le) fun _ _ e => e
theorem WE.view {σ' : St} {e : Expr} (v : View C σ σ') (h : WE W A C e σ' k) : WE W A C e σ k := fun s H => by
  obtain ⟨H', le⟩ := v _ H
  exact wpAny_mono (h s H') (fun f s2 p => p.lift (Sm.refl _) le) fun _ _ e => e

/-- a list that is no longer changed is let go; names that bore it bear the datum -/
noncomputable def thaw (a : Addr) (d : PyData) : V → V
  | .ref b => if b = a then .dat d else .ref b
  | .dat d => .dat d
noncomputable def St.freeze (σ : St) (a : Addr) (d : PyData) : St := ⟨σ.loc.map fun p => (p.1, thaw a d p.2), σ.mu.filter fun p => p.1 ≠ a⟩
theorem lookup_map {f : V → V} (x : Str) : ∀ l : List (Str × V), (l.map fun p => (p.1, f p.2)).lookup x = (l.lookup x).map f
  | [] => rfl
  | (y, v) :: r => by
    simp only [List.map_cons, List.lookup]
    cases x == y <;> simp [lookup_map x r]
theorem keys_filter {a : Addr} {mu : Mu} : ∀ b ∈ keys (mu.filter fun p => p.1 ≠ a), b ∈ keys mu := fun b hb => by
  obtain ⟨p, hp, rfl⟩ := List.mem_map.mp hb
  exact List.mem_map_of_mem (List.mem_filter.mp hp).1
theorem keys_filter_not {a : Addr} {mu : Mu} : a ∉ keys (mu.filter fun p => p.1 ≠ a) := fun hb => by
  obtain ⟨p, hp, e⟩ := List.mem_map.mp hb
  have := (List.mem_filter.mp hp).2
  simp at this; exact this e
theorem freeze_lay {h : Heap} {a : Addr} {ds : List PyData} {v : Value} {x : V} (r : Rd h (.ref a) (.list ds)) (l : LayV h v x) : LayV h v (thaw a (.list ds) x) := by
  cases x with
  | dat d => exact l
  | ref b =>
    by_cases q : b = a
    · obtain rfl : v = .ref b := l
      subst q
      have e : thaw b (.list ds) (.ref b) = .dat (.list ds) := by simp [thaw]
      rw [e]; exact r
    · simpa [thaw, q] using l
theorem Conv.freeze {a : Addr} {ds : List PyData} {h : Heap} (hC : ActOk W C) (hm : (a, ds.map V.dat) ∈ σ.mu) (H : Hold C σ h) :
    Hold C (σ.freeze a (.list ds)) h ∧ Le (G C σ h) (G C (σ.freeze a (.list ds)) h) ∧ Rd (G C (σ.freeze a (.list ds)) h) (.ref a) (.list ds) := by
  have sub : ∀ b ∈ hid C (σ.freeze a (.list ds)).mu, b ∈ hid C σ.mu := fun b hb => by
    rcases List.mem_cons.mp hb with q | hb
    · exact q ▸ .head _
    · rcases List.mem_append.mp hb with hb | hb
      · exact .tail _ (List.mem_append_left _ hb)
      · exact .tail _ (List.mem_append_right _ (keys_filter b hb))
  have subl : ∀ b ∈ hidl C (σ.freeze a (.list ds)).mu, b ∈ hidl C σ.mu := fun b hb =>
    (List.mem_append.mp hb).elim (fun q => List.mem_append_left _ q) fun q => List.mem_append_right _ (sub b q)
  have le : Le (G C σ h) (G C (σ.freeze a (.list ds)) h) := hide_sub subl
  obtain ⟨its, n, e, lx⟩ := H.mus _ hm
  have nd := H.nodup
  unfold hid at nd
  rw [List.nodup_cons, List.nodup_append] at nd
  have hout : a ∉ hidl C (σ.freeze a (.list ds)).mu := fun m => by
    rcases List.mem_append.mp m with m | m
    · obtain ⟨o, e'⟩ := hC.lex a m
      exact hide_out (H.keep a o e') (.tail _ (List.mem_append_right _ (List.mem_map_of_mem hm)))
    · rcases List.mem_cons.mp m with q | m
      · exact nd.1 (List.mem_append_right _ (q ▸ List.mem_map_of_mem hm))
      · rcases List.mem_append.mp m with m | m
        · exact nd.2.2.2 a m a (List.mem_map_of_mem hm) rfl
        · exact keys_filter_not m
  have r : Rd (G C (σ.freeze a (.list ds)) h) (.ref a) (.list ds) :=
    Rd.list (vs := its.toList) ⟨_, hideAll_get _ e hout, rfl, n, by simp⟩ ((lx.keeps le).dats)
  refine ⟨⟨H.keep.trans (hide_sub sub), ?_, H.tab, ?_, ?_, H.ownc, ?_⟩, le, r⟩
  · unfold hid
    rw [List.nodup_cons, List.nodup_append]
    refine ⟨fun m => nd.1 ?_, nd.2.1, ?_, fun x hx y hy => nd.2.2.2 x hx y (keys_filter y hy)⟩
    · exact (List.mem_append.mp m).elim (fun q => List.mem_append_left _ q) fun q => List.mem_append_right _ (keys_filter _ q)
    · exact List.Nodup.sublist (List.Sublist.map _ List.filter_sublist) nd.2.2.1
  · obtain ⟨m, b, c⟩ := H.ns
    refine ⟨m, b, fun x v e1 e2 => ?_⟩
    change (σ.loc.map fun p => (p.1, thaw a (.list ds) p.2)).lookup x = some v at e1
    rw [lookup_map] at e1
    cases q : σ.loc.lookup x with
    | none => rw [q] at e1; cases e1
    | some w =>
      rw [q] at e1; cases e1
      obtain ⟨v', c1, c2⟩ := c x w q e2
      exact ⟨v', c1, freeze_lay r (c2.keeps le)⟩
  · intro x v e1 e2
    change (σ.loc.map fun p => (p.1, thaw a (.list ds) p.2)).lookup x = some v at e1
    rw [lookup_map] at e1
    cases q : σ.loc.lookup x with
    | none => rw [q] at e1; cases e1
    | some w =>
      rw [q] at e1; cases e1
      obtain ⟨c, v', c1, c2, c3⟩ := H.cell x w q e2
      exact ⟨c, v', c1, c2, freeze_lay r (c3.keeps le)⟩
  · intro p hp
    obtain ⟨i, n, e, l⟩ := H.mus p (List.mem_filter.mp hp).1
    exact ⟨i, n, e, l.keeps le⟩

theorem View.freeze {a : Addr} {ds : List PyData} (hC : ActOk W C) (hm : (a, ds.map V.dat) ∈ σ.mu) : View C σ (σ.freeze a (.list ds)) := fun h H => ⟨(Conv.freeze hC hm H).1, (Conv.freeze hC hm H).2.1⟩
/-- the value too is seen so -/
theorem WE.frozen {e : Expr} (hC : ActOk W C) (h : WE W A C e σ fun x σ1 => Ex2 fun a ds => A3 (x = .ref a) ((a, ds.map V.dat) ∈ σ1.mu) (k (.dat (.list ds)) (σ1.freeze a (.list ds)))) : WE W A C e σ k := fun s H =>
  wpAny_mono (h s H) (fun v s1 ⟨x, σ1, ⟨a, ds, ex, hm, hk⟩, sm1, H1, le1, l1⟩ => by
    subst ex
    obtain ⟨H2, le2, r⟩ := Conv.freeze hC hm H1
    obtain rfl : v = .ref a := l1
    exact ⟨_, _, hk, sm1, H2, le1.trans le2, r⟩) fun _ _ e => e

/-- a list that is not asked any more -/
theorem View.drop {loc : List (Str × V)} {p : Addr × List V} {mu : Mu} (hC : ActOk W C) : View C ⟨loc, p :: mu⟩ ⟨loc, mu⟩ := fun h H => by
  have sub : ∀ b ∈ hid C mu, b ∈ hid C (p :: mu) := fun b hb => by
    rcases List.mem_cons.mp hb with q | hb
    · exact q ▸ .head _
    · rcases List.mem_append.mp hb with hb | hb
      · exact .tail _ (List.mem_append_left _ hb)
      · exact .tail _ (List.mem_append_right _ (.tail _ hb))
  have le : Le (G C ⟨loc, p :: mu⟩ h) (G C ⟨loc, mu⟩ h) := hide_sub fun b hb => (List.mem_append.mp hb).elim (fun q => List.mem_append_left _ q) fun q => List.mem_append_right _ (sub b q)
  have nd := H.nodup
  refine ⟨⟨H.keep.trans (hide_sub sub), ?_, H.tab, ?_, ?_, H.ownc, ?_⟩, le⟩
  · show (hid C mu).Nodup
    unfold hid at nd ⊢
    rw [List.nodup_cons, List.nodup_append] at nd ⊢
    refine ⟨fun m => nd.1 ((List.mem_append.mp m).elim (fun q => List.mem_append_left _ q) fun q => List.mem_append_right _ (.tail _ q)), nd.2.1, ?_, fun x hx y hy => nd.2.2.2 x hx y (.tail _ hy)⟩
    exact (List.nodup_cons.mp nd.2.2.1).2
  · obtain ⟨m, b, c⟩ := H.ns
    exact ⟨m, b, fun x v e1 e2 => let ⟨v', c1, c2⟩ := c x v e1 e2; ⟨v', c1, c2.keeps le⟩⟩
  · exact fun x v e1 e2 => let ⟨c, v', c1, c2, c3⟩ := H.cell x v e1 e2; ⟨c, v', c1, c2, c3.keeps le⟩
  · intro q hq
    obtain ⟨i, n, e, l⟩ := H.mus q (.tail _ hq)
    exact ⟨i, n, e, l.keeps le⟩

theorem mu_key {mu : Mu} {a : Addr} {xs ys : List V} (n : (keys mu).Nodup) (h1 : (a, xs) ∈ mu) (h2 : (a, ys) ∈ mu) : xs = ys := by
  induction mu with
  | nil => cases h1
  | cons p r ih =>
    obtain ⟨n1, n2⟩ := List.nodup_cons.mp n
    rcases List.mem_cons.mp h1 with q1 | q1
    · rcases List.mem_cons.mp h2 with q2 | q2
      · have := q1.trans q2.symm; cases this; rfl
      · subst q1; exact absurd (List.mem_map_of_mem (f := fun p : Addr × List V => p.1) q2) n1
    · rcases List.mem_cons.mp h2 with q2 | q2
      · subst q2; exact absurd (List.mem_map_of_mem (f := fun p : Addr × List V => p.1) q1) n1
      · exact ih n2 q1 q2
theorem Hold.mund {h : Heap} (H : Hold C σ h) : (keys σ.mu).Nodup := by
  have nd := H.nodup
  unfold hid at nd
  rw [List.nodup_cons, List.nodup_append] at nd
  exact nd.2.2.1

theorem WE.append {o e : Expr} {apos pos : Pos} (hC : ActOk W C)
    (h : WE W A C o σ fun x σ1 => ∃ a, A3 (x = .ref a) ((∃ xs, (a, xs) ∈ σ1.mu)) (WE W A C e σ1 fun y σ2 => ∃ xs, A3 ((a, xs) ∈ σ2.mu) (xs.length ≤ 1000000) (k (.dat .none) ⟨σ2.loc, setMu a (xs ++ [y]) σ2.mu⟩)))
    (he : eval (.Call (.Attribute o (Str.ofString "append") apos) [e] [] pos) C.env = (do
      let ov ← eval o C.env
      standAt apos.atName
      let (f, first) ← holding [ov] (getMethod ov (Str.ofString "append") (do return (← importBound o C.env).getD true))
      callWith pos f first (backTo pos (starEach [e] C.env)) []) := by rfl)
    (he1 : starEach [e] C.env = [(false, eval e C.env)] := by rfl) : WE W A C (.Call (.Attribute o (Str.ofString "append") apos) [e] [] pos) σ k := fun s H => by
  refine MethodCall_ (wpAny_mono (h s H) (fun v s1 hqq => ?_) fun _ _ e => e) he
  obtain ⟨x, σ1, ⟨a, ex, ⟨xs0, hm0⟩, h1⟩, sm1, H1, le1, l1⟩ := hqq
  subst ex
  obtain rfl : v = .ref a := l1
  obtain ⟨i0, n0, e0, _⟩ := H1.mus _ hm0
  refine Calls.getMethod_list_append e0 rfl rfl ?_
  refine callWith_method1 (args_cons (wpAny_mono (h1 s1 H1) (fun w s2 ⟨y, σ2, ⟨xs, hm, hsz, hk⟩, sm2, H2, le2, l2⟩ => args_nil ?_) fun _ _ e => e) he1) he1
  obtain ⟨its, n, e2, lx⟩ := H2.mus _ hm
  have hz : its.size ≤ 1000000 := by rw [← Array.length_toList, lx.len]; exact hsz
  refine append_at (its := its) (n := n) e2 (fun h' hs hg => ?_) (Nat.le_trans hz (by decide))
  obtain ⟨H3, le3⟩ := H2.setMu (ys := xs ++ [y]) hC hm hs hg (by rw [Array.toList_push]; exact lx.append (.cons l2 .nil))
  exact ⟨_, _, hk, sm1.trans (sm2.trans ⟨h', s2.toks, rfl⟩), H3, le1.trans (le2.trans le3), Rd.none⟩

theorem getMethod_extend {l : Addr} {o : Obj} {pl : Sem Bool} {M : Model} {E : Value → Shared → Prop} {s : Shared} {Q : Value × List Value → Shared → Prop} (ho : s.heap.get? l = some o) (hc : o.cls = .type "list") (hd : o.dict = none)
    (h : Q (.builtin "list.extend", [.ref l]) s) : wpAny M A (getMethod (.ref l) (Str.ofString "extend") pl) Q E s := by
  have hT : s.TypeIs (.ref l) "list" := ⟨o, ho, hc⟩
  unfold getMethod
  refine wpAny_bind (wpAny_specialOf hT list_getattribute ?_)
  show wpAny M A (if (Manifest.canonical "list.__getattribute__" != "object.__getattribute__") = true then _ else _) Q E s
  rw [canon_list_getattribute, if_neg Bool.false_ne_true]
  refine wpAny_bind (wpAny_specialOf hT list_getattr_none ?_)
  refine wpAny_bind (wpAny_specialOf hT F.slot_list_extend.lookup ?_)
  refine wpAny_bind (wpAny_of_eq F.type_list_extend ?_)
  refine wpAny_bind (wpAny_load ho ?_)
  rw [hd]
  exact wpAny_bind (wpAny_rule (wpAny_pure h))

theorem WE.extend {o e : Expr} {apos pos : Pos} (hC : ActOk W C)
    (h : WE W A C o σ fun x σ1 => ∃ a, A3 (x = .ref a) ((∃ xs, (a, xs) ∈ σ1.mu)) (WE W A C e σ1 fun y σ2 => Ex3 fun b xs ys => A5 (y = .ref b) ((a, xs) ∈ σ2.mu) ((b, ys) ∈ σ2.mu) (xs.length + ys.length ≤ 1000000) (k (.dat .none) ⟨σ2.loc, setMu a (xs ++ ys) σ2.mu⟩)))
    (he : eval (.Call (.Attribute o (Str.ofString "extend") apos) [e] [] pos) C.env = (do
      let ov ← eval o C.env
      standAt apos.atName
      let (f, first) ← holding [ov] (getMethod ov (Str.ofString "extend") (do return (← importBound o C.env).getD true))
      callWith pos f first (backTo pos (starEach [e] C.env)) []) := by rfl)
    (he1 : starEach [e] C.env = [(false, eval e C.env)] := by rfl) : WE W A C (.Call (.Attribute o (Str.ofString "extend") apos) [e] [] pos) σ k := fun s H => by
  refine MethodCall_ (wpAny_mono (h s H) (fun v s1 hqq => ?_) fun _ _ e => e) he
  obtain ⟨x, σ1, ⟨a, ex, ⟨xs0, hm0⟩, h1⟩, sm1, H1, le1, l1⟩ := hqq
  subst ex
  obtain rfl : v = .ref a := l1
  obtain ⟨i0, n0, e0, _⟩ := H1.mus _ hm0
  refine getMethod_extend e0 rfl rfl ?_
  refine callWith_method1 (args_cons (wpAny_mono (h1 s1 H1) (fun w s2 ⟨y, σ2, ⟨b, xs, ys, ey, hm, hmb, hsz, hk⟩, sm2, H2, le2, l2⟩ => args_nil ?_) fun _ _ e => e) he1) he1
  subst ey
  obtain rfl : w = .ref b := l2
  obtain ⟨its, n, e2, lx⟩ := H2.mus _ hm
  obtain ⟨its2, n2, e3, ly⟩ := H2.mus _ hmb
  have hz : its.size + its2.size ≤ 1000000 := by rw [← Array.length_toList, lx.len, ← Array.length_toList, ly.len]; exact hsz
  have hline : (1000000 : Nat) ≤ sizeLine := by decide
  have hd : ¬(!its.isEmpty && Builtin.List.listTooLong (its.size + its2.size)) = true := by
    have : Builtin.List.listTooLong (its.size + its2.size) = false := by
      unfold Builtin.List.listTooLong
      exact decide_eq_false (by lia)
    simp [this]
  refine call_meets PySem.F.slot_list_extend ⟨_, e2, rfl⟩ PySem.F.entry_list_extend (PySem.F.args_list_extend_2 _ _) (PySem.AutoSeq1.list_extend_list_list_0 a its n b its2 n2 hd (by lia) (by lia)) ⟨e2, e3, ?_⟩
  obtain ⟨n', hg⟩ := get_mapSeq (f := fun x => x ++ its2) e2
  obtain ⟨H3, le3⟩ := H2.setMu (ys := xs ++ ys) hC hm (Heap.SameBut.update ..) hg (by rw [Array.toList_append]; exact lx.append ly)
  exact ⟨_, _, hk, sm1.trans (sm2.trans ⟨_, s2.toks, rfl⟩), H3, le1.trans (le2.trans le3), Rd.none⟩

theorem WS.expr {e : Expr} {pos : Pos} (h : WE W A C e σ fun x σ1 => x = .dat .none ∧ kf .next σ1) (hi : interactive C.env = false := by rfl) (hs : swapsWith e none pos.line C.env = pure false := by rfl) : WS W A C E (.Expr e pos) σ kf := fun s sm H =>
  wpAny_Expr (wpAny_mono (h s H) (fun v s1 ⟨x, σ1, ⟨ex, hk⟩, sm1, H1, le1, l1⟩ => by
    subst ex
    rw [Rd.none_inv l1]
    exact ⟨.next, σ1, hk, sm1, H1, le1, trivial⟩) fun _ _ e => noE e) hi hs

theorem WS.setItem {o i e : Expr} {p pos : Pos} (hC : ActOk W C)
    (h : WE W A C e σ fun z σ1 => WE W A C o σ1 fun x σ2 => WE W A C i σ2 fun y σ3 => Ex3 fun a xs j => A7 (x = .ref a) (y = .dat (.int j)) ((a, xs) ∈ σ3.mu) (0 ≤ j) (j < 2 ^ 63) (j < xs.length) (kf .next ⟨σ3.loc, setMu a (xs.set j.toNat z) σ3.mu⟩))
    (hs : swapsWith e (some (.Subscript o i p)) pos.line C.env = pure false := by rfl) : WS W A C E (.Assign [.Subscript o i p] e pos) σ kf := fun s sm H => by
  refine wpAny_Assign_Subscript (wpAny_mono (h s H) (fun zv s1 ⟨z, σ1, h1, sm1, H1, le1, l1⟩ => wpAny_mono (h1 s1 H1) (fun ov s2 ⟨x, σ2, h2, sm2, H2, le2, l2⟩ => wpAny_mono (h2 s2 H2)
    (fun iv s3 ⟨y, σ3, ⟨a, xs, j, ex, ey, hm, h0, h63, hj, hk⟩, sm3, H3, le3, l3⟩ => ?_) fun _ _ e => noE e) fun _ _ e => noE e) fun _ _ e => noE e) hs
  subst ex ey
  obtain rfl : ov = .ref a := l2
  obtain ⟨t, rfl⟩ := Rd.int_inv l3
  obtain ⟨its, n, e2, lx⟩ := H3.mus _ hm
  have hlen : its.size = xs.length := by rw [← Array.length_toList]; exact lx.len
  refine ki_setAt e2 h0 h63 (by rw [hlen]; exact hj) ?_
  obtain ⟨n', hg⟩ := get_mapSeq (f := fun x => x.setIfInBounds j.toNat zv) e2
  have lset : LayVs (G C σ3 s3.heap) (its.setIfInBounds j.toNat zv).toList (xs.set j.toNat z) := by
    rw [Array.toList_setIfInBounds]
    exact lay_set lx (l1.keeps (le2.trans le3)) j.toNat
  obtain ⟨H4, le4⟩ := H3.setMu (ys := xs.set j.toNat z) hC hm (Heap.SameBut.update ..) hg lset
  exact ⟨.next, _, hk, sm1.trans (sm2.trans (sm3.trans ⟨_, s3.toks, rfl⟩)), H4, le1.trans (le2.trans (le3.trans le4)), trivial⟩
end

end Mine
namespace Mine

/-- the ground that a call finds and leaves: what is laid upon (all but l, the table and what changes) -/
structure Base (W : Wd) (h : Heap) (l : List Addr) (mu : Mu) : Prop where
  stat : W.Stat (hideAll h (l ++ 89 :: keys mu))
  tab : TabOk h
  nodup : (89 :: keys mu).Nodup
  lex : ∀ a ∈ l, ∃ o, (hideAll h (89 :: keys mu)).get? a = some o
  mus : ∀ p ∈ mu, MuOk (hideAll h (l ++ 89 :: keys mu)) h p
inductive Ret (W : Wd) (l : List Addr) (mu : Mu) (s : Shared) (k : V → Mu → Prop) (v : Value) (s' : Shared) : Prop where
  | mk (x : V) (mu' : Mu) (hk : k x mu') (sm : Sm s s') (b : Base W s'.heap l mu') (le : Le (hideAll s.heap (89 :: keys mu)) (hideAll s'.heap (89 :: keys mu'))) (l : LayV (hideAll s'.heap (l ++ 89 :: keys mu')) v x)
noncomputable def Calls (W : Wd) (d : Nat) (f : Value) (xs : List V) (mu : Mu) (k : V → Mu → Prop) : Prop :=
  ∀ A s vs l, Rm d A → Base W s.heap l mu → LayVs (hideAll s.heap (l ++ 89 :: keys mu)) vs xs → wpAny W.M A (call f vs) (Ret W l mu s k) NoE s
theorem Calls.mono {W : Wd} {d d' : Nat} {f : Value} {xs : List V} {mu : Mu} {k k' : V → Mu → Prop} (h : Calls W d f xs mu k) (hd : d ≤ d') (hk : ∀ x mu', k x mu' → k' x mu') : Calls W d' f xs mu k' := fun A s vs l r b la =>
  wpAny_mono (h A s vs l (r.mono hd) b la) (fun v s' ⟨x, mu', a, b, c, d, e⟩ => ⟨x, mu', hk _ _ a, b, c, d, e⟩) fun _ _ e => e

section
variable {W : Wd} {A : Around} {C : Act} {σ : St} {k : V → St → Prop}

theorem Hold.toBase {h : Heap} {rest mu : Mu} (hC : ActOk W C) (H : Hold C σ h) (e : σ.mu = rest ++ mu) :
    Base W h (C.l ++ (C.own ++ keys rest)) mu ∧ Le (G C σ h) (hideAll h ((C.l ++ (C.own ++ keys rest)) ++ 89 :: keys mu)) := by
  have nd := H.nodup
  unfold hid at nd
  rw [e] at nd
  have kr : keys (rest ++ mu) = keys rest ++ keys mu := List.map_append
  rw [kr] at nd
  have sub : ∀ a ∈ (C.l ++ (C.own ++ keys rest)) ++ 89 :: keys mu, a ∈ hidl C σ.mu := fun a ha => by
    unfold hidl hid; rw [e, kr]
    simp only [List.mem_append, List.mem_cons] at ha ⊢
    rcases ha with (ha | ha | ha) | ha | ha <;> simp [ha]
  have le := hide_sub (h := h) sub
  have sub89 : ∀ a ∈ 89 :: keys mu, a ∈ hid C σ.mu := fun a ha => by
    unfold hid; rw [e, kr]
    simp only [List.mem_append, List.mem_cons] at ha ⊢
    rcases ha with ha | ha <;> simp [ha]
  refine ⟨⟨(H.stat hC).keeps le, H.tab, ?_, ?_, ?_⟩, le⟩
  · rw [List.nodup_cons] at nd ⊢
    refine ⟨fun m => nd.1 (List.mem_append_right _ (List.mem_append_right _ m)), ?_⟩
    exact (List.nodup_append.mp (List.nodup_append.mp nd.2).2.1).2.1
  · intro a ha
    rw [List.nodup_cons, List.nodup_append] at nd
    have key : ∀ o, h.get? a = some o → a ∉ 89 :: keys mu → ∃ o, (hideAll h (89 :: keys mu)).get? a = some o := fun o e n => ⟨o, hideAll_get _ e n⟩
    rcases List.mem_append.mp ha with ha | ha
    · obtain ⟨o, e1⟩ := hC.lex a ha
      exact ⟨o, hide_sub sub89 _ _ (H.keep a o e1)⟩
    · rcases List.mem_append.mp ha with ha | ha
      · have n : a ∉ 89 :: keys mu := fun m => by
          rcases List.mem_cons.mp m with m | m
          · exact nd.1 (List.mem_append_left _ (m ▸ ha))
          · exact nd.2.2.2 a ha a (List.mem_append_right _ m) rfl
        by_cases q : a = C.env.locals
        · obtain ⟨m, ⟨o, es, ep, e1, _⟩, _⟩ := H.ns
          exact key o (q ▸ e1) n
        · obtain ⟨w, o, e1, _⟩ := H.ownc a ha q
          exact key o e1 n
      · obtain ⟨p, hp, rfl⟩ := List.mem_map.mp ha
        obtain ⟨i, n, e1, _⟩ := H.mus p (e ▸ List.mem_append_left _ hp)
        refine key _ e1 fun m => ?_
        rcases List.mem_cons.mp m with m | m
        · exact nd.1 (List.mem_append_right _ (List.mem_append_left _ (m ▸ ha)))
        · exact (List.nodup_append.mp nd.2.2.1).2.2 _ ha _ m rfl
  · intro p hp
    obtain ⟨i, n, e1, l⟩ := H.mus p (e ▸ List.mem_append_right _ hp)
    exact ⟨i, n, e1, l.keeps le⟩

theorem Hold.ofRet {s s' : Shared} {rest mu mu' : Mu} {v : Value} {x : V} (hC : ActOk W C) (H : Hold C σ s.heap) (e : σ.mu = rest ++ mu) (B : Base W s'.heap (C.l ++ (C.own ++ keys rest)) mu')
    (le : Le (hideAll s.heap (89 :: keys mu)) (hideAll s'.heap (89 :: keys mu'))) (lv : LayV (hideAll s'.heap ((C.l ++ (C.own ++ keys rest)) ++ 89 :: keys mu')) v x) :
    Hold C ⟨σ.loc, rest ++ mu'⟩ s'.heap ∧ Le (G C σ s.heap) (G C ⟨σ.loc, rest ++ mu'⟩ s'.heap) ∧ LayV (G C ⟨σ.loc, rest ++ mu'⟩ s'.heap) v x := by
  have nd := H.nodup
  unfold hid at nd
  rw [e] at nd
  have kr : keys (rest ++ mu) = keys rest ++ keys mu := List.map_append
  have kr' : keys (rest ++ mu') = keys rest ++ keys mu' := List.map_append
  rw [kr] at nd
  -- what lies outside the callee's list stays
  have keep : ∀ b o, b ∉ 89 :: keys mu → s.heap.get? b = some o → s'.heap.get? b = some o ∧ b ∉ 89 :: keys mu' := fun b o n e1 => by
    have e2 := le b o (hideAll_get _ e1 n)
    exact ⟨of_hideAll _ e2, hide_out e2⟩
  have out : ∀ b, b ∉ hid C σ.mu → b ∉ 89 :: keys mu := fun b n m => n (by
    unfold hid; rw [e, kr]
    simp only [List.mem_append, List.mem_cons] at m ⊢
    rcases m with m | m <;> simp [m])
  have into : ∀ b, b ∈ hid C (rest ++ mu') → b ∈ hid C σ.mu ∨ b ∈ 89 :: keys mu' := fun b m => by
    unfold hid at m ⊢; rw [kr'] at m; rw [e, kr]
    simp only [List.mem_append, List.mem_cons] at m ⊢
    rcases m with m | m | m | m <;> simp [m]
  have le1 : Le (hideAll s.heap (hid C σ.mu)) (hideAll s'.heap (hid C (rest ++ mu'))) := hide_mono fun b o n e1 => by
    obtain ⟨a, c⟩ := keep b o (out b n) e1
    exact ⟨a, fun m => (into b m).elim n c⟩
  have le2 : Le (G C σ s.heap) (G C ⟨σ.loc, rest ++ mu'⟩ s'.heap) := hide_mono fun b o n e1 => by
    have n2 : b ∉ hid C σ.mu := fun m => n (List.mem_append_right _ m)
    obtain ⟨a, c⟩ := keep b o (out b n2) e1
    refine ⟨a, fun m => ?_⟩
    rcases List.mem_append.mp m with m | m
    · exact n (List.mem_append_left _ m)
    · exact (into b m).elim n2 c
  have le3 : Le (hideAll s'.heap ((C.l ++ (C.own ++ keys rest)) ++ 89 :: keys mu')) (G C ⟨σ.loc, rest ++ mu'⟩ s'.heap) := hide_sub fun a ha => by
    unfold hidl hid at ha
    show a ∈ (C.l ++ (C.own ++ keys rest)) ++ 89 :: keys mu'
    change a ∈ C.l ++ 89 :: (C.own ++ keys (rest ++ mu')) at ha
    rw [kr'] at ha
    simp only [List.mem_append, List.mem_cons] at ha ⊢
    rcases ha with ha | ha | ha | ha | ha <;> simp [ha]
  have apart : ∀ a, a ∈ C.own ∨ a ∈ keys rest → a ∉ 89 :: keys mu ∧ a ∉ 89 :: keys mu' := fun a ha => by
    refine ⟨fun m => ?_, fun m => ?_⟩
    · rw [List.nodup_cons, List.nodup_append] at nd
      rcases List.mem_cons.mp m with m | m
      · exact nd.1 (m ▸ ha.elim (List.mem_append_left _) fun q => List.mem_append_right _ (List.mem_append_left _ q))
      · rcases ha with ha | ha
        · exact nd.2.2.2 a ha a (List.mem_append_right _ m) rfl
        · exact (List.nodup_append.mp nd.2.2.1).2.2 _ ha _ m rfl
    · obtain ⟨o, e1⟩ := B.lex a (ha.elim (fun q => List.mem_append_right _ (List.mem_append_left _ q)) fun q => List.mem_append_right _ (List.mem_append_right _ q))
      exact hide_out e1 m
  refine ⟨⟨H.keep.trans le1, ?_, B.tab, ?_, ?_, ?_, ?_⟩, le2, lv.keeps le3⟩
  · unfold hid
    show (89 :: (C.own ++ keys (rest ++ mu'))).Nodup
    rw [kr']
    have bn := B.nodup
    rw [List.nodup_cons] at bn
    rw [List.nodup_cons, List.nodup_append, List.nodup_append] at nd ⊢
    refine ⟨fun m => ?_, nd.2.1, ⟨nd.2.2.1.1, bn.2, fun a ha b hb q => (apart a (.inr ha)).2 (.tail _ (q ▸ hb))⟩, fun a ha b hb q => ?_⟩
    · rcases List.mem_append.mp m with m | m
      · exact nd.1 (List.mem_append_left _ m)
      · rcases List.mem_append.mp m with m | m
        · exact nd.1 (List.mem_append_right _ (List.mem_append_left _ m))
        · exact bn.1 m
    · rcases List.mem_append.mp hb with hb | hb
      · exact nd.2.2.2 a ha b (List.mem_append_left _ hb) q
      · exact (apart a (.inl ha)).2 (.tail _ (q ▸ hb))
  · obtain ⟨m, ⟨o, es, ep, e1, r⟩, c⟩ := H.ns
    exact ⟨m, ⟨o, es, ep, (keep _ _ (apart _ (.inl hC.loc)).1 e1).1, r⟩, fun x v e1 e2 => let ⟨v', c1, c2⟩ := c x v e1 e2; ⟨v', c1, c2.keeps le2⟩⟩
  · intro y v e1 e2
    obtain ⟨c, v', c1, ⟨o, c2, c3⟩, c4⟩ := H.cell y v e1 e2
    refine ⟨c, v', c1, ⟨o, (keep c o (fun m => ?_) c2).1, c3⟩, c4.keeps le2⟩
    -- a cell is neither the table nor a list
    rcases List.mem_cons.mp m with q | m
    · obtain ⟨ps, t, _⟩ := H.tab
      rw [q, t] at c2; cases c2; cases c3
    · obtain ⟨p, hp, rfl⟩ := List.mem_map.mp m
      obtain ⟨i, n, t, _⟩ := H.mus p (e ▸ List.mem_append_right _ hp)
      rw [t] at c2; cases c2; cases c3
  · intro c hc hn
    obtain ⟨w, o, e1, d⟩ := H.ownc c hc hn
    exact ⟨w, o, (keep c o (apart c (.inl hc)).1 e1).1, d⟩
  · intro p hp
    rcases List.mem_append.mp hp with hp | hp
    · obtain ⟨i, n, e1, l⟩ := H.mus p (e ▸ List.mem_append_left _ hp)
      exact ⟨i, n, (keep _ _ (apart _ (.inr (List.mem_map_of_mem hp))).1 e1).1, l.keeps le2⟩
    · obtain ⟨i, n, e1, l⟩ := B.mus p hp
      exact ⟨i, n, e1, l.keeps le3⟩

theorem call_post {d : Nat} {f : Value} {xs : List V} {rest mu : Mu} {k1 : V → Mu → Prop} {s : Shared} {vs : List Value} (hC : ActOk W C) (hr : Rm d A) (H : Hold C σ s.heap) (l : LayVs (G C σ s.heap) vs xs) (e : σ.mu = rest ++ mu)
    (hc : Calls W d f xs mu k1) (hk : ∀ x mu', k1 x mu' → k x ⟨σ.loc, rest ++ mu'⟩) : wpAny W.M A (call f vs) (Post C σ s k) NoE s := by
  obtain ⟨B, le⟩ := H.toBase hC e
  refine wpAny_mono (hc A s vs _ hr B (l.keeps le)) (fun v s' hqq => ?_) fun _ _ e => e
  obtain ⟨x, mu', a, sm, B', le', lv⟩ := hqq
  obtain ⟨H', le2, lv'⟩ := H.ofRet hC e B' le' lv
  exact ⟨x, _, hk _ _ a, sm, H', le2, lv'⟩

/-- a function of the text, by its name -/
structure Fn (W : Wd) (name : Str) (f : Addr) (fd : FuncData) : Prop where
  ns : nsIn W.K mainGlobals name = some (some (.ref f))
  obj : ∃ o, W.K.lookup f = some o ∧ o.data = .func fd
theorem glob_val {h : Heap} {x : Str} {v : Value} {s : Shared} {Q : Value → Shared → Prop} {M : Model} (hC : ActOk W C) (S : W.Stat h) (le : Le h s.heap) (e : nsIn W.K mainGlobals x = some (some v)) (q : Q v s)
    (hx : C.env.kindOf x = some .globalImplicit) (hd : (x == ("__debug__" : Str)) = false) {pos : Pos} : wpAny M A (eval (.Name x pos) C.env) Q NoE s :=
  Name_function_global hC.kind hx (loadGlobal_global (by rw [hC.glob]; exact S.T.g.keeps le) (mg_of S.K S.T.g e) q) hd

theorem WE.callFn {name : Str} {f : Addr} {fd : FuncData} {e : Expr} {es : List Expr} {np pos : Pos} (d : Nat) (hC : ActOk W C) (hr : Rm d A) (F : Fn W name f fd)
    (h : WEs W A C pos (e :: es) σ fun xs σ1 => Ex3 fun rest mu k1 => A3 (σ1.mu = rest ++ mu) (Calls W d (.ref f) xs mu k1) (∀ x mu', k1 x mu' → k x ⟨σ1.loc, rest ++ mu'⟩))
    (hx : C.env.kindOf name = some .globalImplicit := by rfl) (hd : (name == ("__debug__" : Str)) = false := by decide)
    (hes : starEach (e :: es) C.env = (false, eval e C.env) :: starEach es C.env := by rfl) : WE W A C (.Call (.Name name np) (e :: es) [] pos) σ k := fun s H => by
  obtain ⟨o, ho, hd'⟩ := F.obj
  have S := H.stat hC
  refine Call_ (glob_val hC S hide_le F.ns ?_ hx hd)
  have go : wpAny W.M A (spliced (backTo pos (starEach (e :: es) C.env))) (fun vs s1 => (s1.heap.get? f = some o ∧ o.data = .func fd) ∧ wpAny W.M A (call (.ref f) vs) (Post C σ s k) NoE s1) NoE s :=
    wpAny_mono (h s H) (fun vs s1 ⟨xs, σ1, ⟨rest, mu, k1, e, hc, hk⟩, sm1, H1, le1, l1⟩ => ⟨⟨hide_le _ _ ((H1.stat hC).K _ _ ho), hd'⟩,
      wpAny_mono (call_post hC hr H1 l1 e hc hk) (fun u s2 p => p.lift sm1 le1) fun _ _ e => e⟩) fun _ _ e => e
  exact callWith_def hd' (wpAny_mono go (fun vs s1 h1 => ⟨h1.1.1, h1.2⟩) fun _ _ e => e) hes
theorem WE.callFn0 {name : Str} {f : Addr} {fd : FuncData} {np pos : Pos} (d : Nat) {rest mu : Mu} {k1 : V → Mu → Prop} (hC : ActOk W C) (hr : Rm d A) (F : Fn W name f fd)
    (e : σ.mu = rest ++ mu) (hc : Calls W d (.ref f) [] mu k1) (hk : ∀ x mu', k1 x mu' → k x ⟨σ.loc, rest ++ mu'⟩)
    (hx : C.env.kindOf name = some .globalImplicit := by rfl) (hd : (name == ("__debug__" : Str)) = false := by decide) : WE W A C (.Call (.Name name np) [] [] pos) σ k := fun s H => by
  obtain ⟨o, ho, hd'⟩ := F.obj
  refine Call_ (glob_val hC (H.stat hC) hide_le F.ns ?_ hx hd)
  exact callWith_function (o := o) (fd := fd) (PyProof.Rows.evalArgs_none ⟨⟨hide_le _ _ ((H.stat hC).K _ _ ho), hd'⟩, call_post (vs := []) hC hr H .nil e hc hk⟩)
end

end Mine
namespace Mine

theorem bindL_eq (kind : Str → Option NameKind) (x : Str) : ∀ (binds : List (Str × Value)) (m : Str → Option Value), (binds.map (·.1)).Nodup → kind x = some .local →
    bindL kind binds m x = match binds.lookup x with | some v => some v | none => m x
  | [], m, _, _ => rfl
  | (n, v) :: r, m, nd, hk => by
    obtain ⟨n1, n2⟩ := List.nodup_cons.mp nd
    unfold bindL
    rw [bindL_eq kind x r _ n2 hk]
    by_cases q : x = n
    · subst q
      have hr : r.lookup x = none := by
        cases e : r.lookup x with
        | none => rfl
        | some w => exact absurd (List.mem_map_of_mem (f := fun p : Str × Value => p.1) (mem_of_lookup e)) n1
      rw [hr, if_pos hk]
      simp
    · simp only [List.lookup, beq_eq_false_iff_ne.mpr q]
      cases e : r.lookup x with
      | some w => rfl
      | none =>
        by_cases hn : kind n = some .local
        · simp [hn, q]
        · simp [hn]
theorem bindC_eq (kind : Str → Option NameKind) (x : Str) : ∀ (binds : List (Str × Value)) (m : Str → Option Value), (binds.map (·.1)).Nodup → kind x ≠ some .local →
    bindC kind binds m x = match binds.lookup x with | some v => some v | none => m x
  | [], m, _, _ => rfl
  | (n, v) :: r, m, nd, hk => by
    obtain ⟨n1, n2⟩ := List.nodup_cons.mp nd
    unfold bindC
    rw [bindC_eq kind x r _ n2 hk]
    by_cases q : x = n
    · subst q
      have hr : r.lookup x = none := by
        cases e : r.lookup x with
        | none => rfl
        | some w => exact absurd (List.mem_map_of_mem (f := fun p : Str × Value => p.1) (mem_of_lookup e)) n1
      rw [hr, if_neg hk]
      simp
    · simp only [List.lookup, beq_eq_false_iff_ne.mpr q]
      cases e : r.lookup x with
      | some w => rfl
      | none =>
        by_cases hn : kind n = some .local
        · simp [hn]
        · simp [hn, q]
theorem lookup_zip {h : Heap} {x : Str} {v : V} : ∀ {ps : List Str} {vs : List Value} {xs : List V}, LayVs h vs xs → (ps.zip xs).lookup x = some v → ∃ v', (ps.zip vs).lookup x = some v' ∧ LayV h v' v
  | [], _, _, _, e => by simp at e
  | _ :: _, _, _, .nil, e => by simp at e
  | p :: ps, _, _, .cons a b, e => by
    simp only [List.zip_cons_cons, List.lookup] at e ⊢
    cases q : x == p with
    | true => rw [q] at e; cases e; exact ⟨_, rfl, a⟩
    | false => rw [q] at e; exact lookup_zip b e

/-- a def of the text, and what a run of it wants -/
structure Def (W : Wd) (name : Str) (f : Addr) (ps : List Str) (params : Arguments) (body : List Stmt) (scope : Scope) (cdv : Value) (fd : FuncData) : Prop where
  fn : Fn W name f fd
  shape : Ex3 fun pm doc ct => fd = fnOf name name params body scope .none .none doc pm none cdv ct
  code : codeIn W.K cdv name = true
  bind : ∀ vs : List Value, vs.length = ps.length → bindArgs fd ⟨vs, []⟩ = pure (ps.zip vs)
  nd : ps.Nodup
  kinds : ∀ n, ∀ x ∈ ps, scope.names.lookup x = some .local ∨ (scope.names.lookup x = some .cell ∧ ((cellsFrom n scope.names []).lookup x).isSome = true)
  cells : ((cellsFrom 0 scope.names []).map (·.1)).Nodup
  kind : scope.kind = .function
  co : scope.isCoroutine = false
  gen : scope.isGenerator = false

/-- the activation of a def: its frame is laid at L -/
noncomputable def actOf (name : Str) (f : Addr) (scope : Scope) (cdv : Value) (L : Addr) (h₀ : Heap) (l : List Addr) (s₀ : Shared) : Act where
  env := { scope := scope, locals := L, globals := mainGlobals, cells := cellsFrom (L + 1) scope.names [], qual := name ++ ".<locals>.", func := some f, code := cdv, frame := some L, builtins := builtinsNs }
  h₀ := h₀
  own := L :: (cellsFrom (L + 1) scope.names []).map (·.2)
  l := l
  s₀ := s₀

/-- what the body of a def is to show: from its arguments to what it hands back -/
noncomputable def Body (W : Wd) (d : Nat) (name : Str) (f : Addr) (ps : List Str) (body : List Stmt) (scope : Scope) (cdv : Value) (xs : List V) (mu : Mu) (k : V → Mu → Prop) : Prop :=
  ∀ A L h₀ l s₀, ActOk W (actOf name f scope cdv L h₀ l s₀) → Rm d A → WX W A (actOf name f scope cdv L h₀ l s₀) NoE body ⟨ps.zip xs, mu⟩ fun fl σ' => ∃ x, (fl = .ret x ∨ (fl = .next ∧ x = .dat .none)) ∧ k x σ'.mu

theorem Calls.intro {W : Wd} {name : Str} {f : Addr} {ps : List Str} {params : Arguments} {body : List Stmt} {scope : Scope} {cdv : Value} {fd : FuncData} {d : Nat} {xs : List V} {mu : Mu} {k : V → Mu → Prop}
    (D : Def W name f ps params body scope cdv fd) (hlen : xs.length = ps.length) (B : Body W d name f ps body scope cdv xs mu k) : Calls W (d + 1) (.ref f) xs mu k := by
  intro A s vs l hr Bs la
  obtain ⟨o, ho, hd⟩ := D.fn.obj
  obtain ⟨pm, doc, ct, rfl⟩ := D.shape
  have S := Bs.stat
  have KI := S.K.keeps (h' := s.heap) hide_le
  refine wpAny_call (codeAny_call_function (by have := hr.depth; unfold recursionLimit; lia) (KI _ _ ho) hd D.co D.gen rfl (codeRec_of KI D.code) ?_)
  rw [D.bind vs (la.len.trans hlen)]
  refine wpAny_pure (wpAny_newFunctionEnv_cells D.kind (fun x hx => ?_) fun env he s' X => ?_)
  · have : x.1 ∈ ps := (List.of_mem_zip hx).1
    exact D.kinds _ x.1 this
  subst he
  have hps : ((ps.zip vs).map (·.1)).Nodup := by
    rw [show (ps.zip vs).map (·.1) = ps from List.map_fst_zip (by rw [la.len, hlen]; exact Nat.le_refl _)]
    exact D.nd
  have keep := X.toInCall.keep
  refine ⟨S.T.nolimit.keeps (fun b o e => keep b o (hide_le _ _ e)), codeAny_func ?_⟩
  generalize hL : s.heap.objs.size = L at X
  -- the activation
  have hsame := X.toInCall.same
  obtain ⟨h₁, tk, rfl⟩ := hsame
  let C := actOf name f scope cdv L (hideAll s.heap (89 :: keys mu)) l s
  have e0 : newEnv scope L mainGlobals (cellsFrom (L + 1) scope.names []) (name ++ ".<locals>.") (some f) cdv none builtinsNs = C.env := rfl
  change wpAny W.M (A.deeper C.env) (execs body C.env) _ _ _
  have hnew : ∀ a, a ∈ C.own → s.heap.objs.size ≤ a := fun a ha => by
    rcases List.mem_cons.mp ha with q | ha
    · exact Nat.le_of_eq (hL.trans q.symm)
    · obtain ⟨p, hp, rfl⟩ := List.mem_map.mp ha
      have := X.above p.1 p.2 hp
      exact Nat.le_trans (Nat.le_of_eq hL) (Nat.le_of_lt this)
  have hold : ∀ a, a ∈ l ∨ a ∈ 89 :: keys mu → a < s.heap.objs.size := fun a ha => by
    rcases ha with ha | ha
    · obtain ⟨o, e⟩ := Bs.lex a ha; exact Heap.lt_size (of_hideAll _ e)
    · rcases List.mem_cons.mp ha with rfl | ha
      · obtain ⟨ps, e, _⟩ := Bs.tab; exact Heap.lt_size e
      · obtain ⟨p, hp, rfl⟩ := List.mem_map.mp ha
        obtain ⟨i, n, e, _⟩ := Bs.mus p hp; exact Heap.lt_size e
  have hC : ActOk W C := {
    loc := .head _
    kind := D.kind
    glob := rfl
    blt := rfl
    lex := Bs.lex
    stat := S.keeps fun b o e => by
      have n := hide_out e
      exact hideAll_get _ (hideAll_get _ (of_hideAll _ e) fun m => n (List.mem_append_right _ m)) fun m => n (List.mem_append_left _ m)
    inj := fun x y c h1 h2 _ _ => name_of_addr X.apart (mem_of_lookup h1) (mem_of_lookup h2) }
  have leH : Le (hideAll s.heap (l ++ 89 :: keys mu)) (G C ⟨ps.zip xs, mu⟩ h₁) := hide_mono fun b o n e => ⟨keep b o e, fun m => by
    rcases List.mem_append.mp m with m | m
    · exact n (List.mem_append_left _ m)
    · rcases List.mem_cons.mp m with m | m
      · exact n (List.mem_append_right _ (m ▸ .head _))
      · rcases List.mem_append.mp m with m | m
        · exact Nat.lt_irrefl _ (Nat.lt_of_lt_of_le (Heap.lt_size e) (hnew b m))
        · exact n (List.mem_append_right _ (.tail _ m))⟩
  have hname : ∀ x, (ps.zip xs).lookup x ≠ none → C.env.kindOf x = some .local ∨ C.env.kindOf x = some .cell := fun x hx => by
    cases e : (ps.zip xs).lookup x with
    | none => exact absurd e hx
    | some v => exact (D.kinds 0 x (List.of_mem_zip (mem_of_lookup e)).1).imp id fun q => q.1
  have H : Hold C ⟨ps.zip xs, mu⟩ h₁ := by
    refine ⟨hide_mono fun b o n e => ⟨keep b o e, fun m => ?_⟩, ?_, ?_, ?_, ?_, ?_, ?_⟩
    · rcases List.mem_cons.mp m with m | m
      · exact n (m ▸ .head _)
      · rcases List.mem_append.mp m with m | m
        · exact Nat.lt_irrefl _ (Nat.lt_of_lt_of_le (Heap.lt_size e) (hnew b m))
        · exact n (.tail _ m)
    · have bn := Bs.nodup
      unfold hid
      rw [List.nodup_cons] at bn ⊢
      rw [List.nodup_append]
      refine ⟨fun m => ?_, ?_, bn.2, fun a ha b hb q => ?_⟩
      · rcases List.mem_append.mp m with m | m
        · exact Nat.lt_irrefl _ (Nat.lt_of_lt_of_le (hold 89 (.inr (.head _))) (hnew 89 m))
        · exact bn.1 m
      · show (L :: (cellsFrom (L + 1) scope.names []).map (·.2)).Nodup
        rw [List.nodup_cons]
        refine ⟨fun m => ?_, ?_⟩
        · obtain ⟨p, hp, e⟩ := List.mem_map.mp m
          have := X.above p.1 p.2 hp
          exact absurd e (Nat.ne_of_gt this)
        · rw [List.Nodup, List.pairwise_map]; exact X.apart
      · exact Nat.lt_irrefl _ (Nat.lt_of_lt_of_le (hold b (.inr (.tail _ hb))) (q ▸ hnew a ha))
    · exact Bs.tab.keeps (l := []) (fun b o _ e => keep b o e) (by simp) (by simp)
    · refine ⟨_, X.toInCall.ns, fun x v e1 e2 => ?_⟩
      obtain ⟨v', c1, c2⟩ := lookup_zip la e1
      refine ⟨v', ?_, c2.keeps leH⟩
      exact (bindL_eq C.env.kindOf x (ps.zip vs) (fun _ => none) hps e2).trans (by rw [c1])
    · intro x v e1 e2
      obtain ⟨v', c1, c2⟩ := lookup_zip la e1
      rcases D.kinds (L + 1) x (List.of_mem_zip (mem_of_lookup e1)).1 with q | ⟨q1, q2⟩
      · exact absurd q e2
      · obtain ⟨c, hc⟩ := Option.isSome_iff_exists.mp q2
        refine ⟨c, v', hc, ?_, c2.keeps leH⟩
        have this : h₁.IsCell c (bindC C.env.kindOf (ps.zip vs) (fun _ => none) x) := X.cell x c hc
        rw [bindC_eq C.env.kindOf x (ps.zip vs) (fun _ => none) hps e2, c1] at this
        exact this
    · intro c hc hne
      rcases List.mem_cons.mp hc with q | hc
      · exact absurd q hne
      · obtain ⟨p, hp, rfl⟩ := List.mem_map.mp hc
        have nd : ((cellsFrom (L + 1) scope.names []).map (·.1)).Nodup := by
          rw [← cellsFrom_names scope.names 0 (L + 1) [] [] rfl]; exact D.cells
        exact let ⟨o, e, d⟩ := X.cell p.1 p.2 (lookup_of_mem_nodup nd hp); ⟨_, o, e, .inl ⟨d, List.mem_map_of_mem (f := fun p : Str × Addr => p.2) hp⟩⟩
    · intro p hp
      obtain ⟨i, n, e, lx⟩ := Bs.mus p hp
      exact ⟨i, n, keep _ _ e, lx.keeps leH⟩
  have hr' : Rm d (A.deeper C.env) := ⟨by have := hr.depth; show A.depth + 1 + d ≤ 900; lia, by have := hr.units; show A.units + 3 + 10 * d ≤ 9000; lia, hr.handled⟩
  refine wpAny_mono (B _ L _ l s hC hr' { s with heap := h₁, toks := tk } ⟨h₁, tk, rfl⟩ H) (fun fl s2 hqq => ?_) fun _ _ e => e.elim
  obtain ⟨g, σ', ⟨x, hx, hk⟩, sm2, H2, le2, l2⟩ := hqq
  -- what is handed back
  have lx : LayV (G C σ' s2.heap) (match (generalizing := false) fl with | .ret v => v | _ => .none) x := by
    rcases hx with rfl | ⟨rfl, rfl⟩
    · cases fl <;> first | exact l2 | exact l2.elim
    · cases fl <;> first | exact Rd.none | exact l2.elim
  have sub : Le (G C σ' s2.heap) (hideAll s2.heap (l ++ 89 :: keys σ'.mu)) := hide_sub fun a ha => by
    show a ∈ l ++ 89 :: (C.own ++ keys σ'.mu)
    simp only [List.mem_append, List.mem_cons] at ha ⊢
    rcases ha with ha | ha | ha <;> simp [ha]
  have sub1 : Le (hideAll s2.heap (hid C σ'.mu)) (hideAll s2.heap (89 :: keys σ'.mu)) := hide_sub fun a ha => by
    show a ∈ 89 :: (C.own ++ keys σ'.mu)
    simp only [List.mem_append, List.mem_cons] at ha ⊢
    rcases ha with ha | ha <;> simp [ha]
  have nd2 := H2.nodup
  unfold hid at nd2
  rw [List.nodup_cons, List.nodup_append] at nd2
  refine ⟨x, σ'.mu, hk, Sm.trans ⟨h₁, tk, rfl⟩ sm2, ⟨(H2.stat hC).keeps sub, H2.tab, List.nodup_cons.mpr ⟨fun m => nd2.1 (List.mem_append_right _ m), nd2.2.2.1⟩, fun a ha => ?_, fun p hp => ?_⟩, H2.keep.trans sub1, lx.keeps sub⟩
  · obtain ⟨o, e⟩ := Bs.lex a ha
    exact ⟨o, sub1 _ _ (H2.keep a o e)⟩
  · obtain ⟨i, n, e, lx⟩ := H2.mus p hp
    exact ⟨i, n, e, lx.keeps sub⟩

end Mine
namespace Mine

/-- neither a cell nor a code -/
noncomputable def NotCC (o : Obj) : Prop := (∀ v, o.data ≠ .cell v) ∧ ∀ vs q t, o.data = .fields vs → vs[1]? ≠ some (.str q t)
/-- an iterator that gives these data one by one; `wr`: what its steps change, `fp`: what it stands on -/
structure Itr (W : Wd) (A : Around) (t : Expr) (I : Addr) (fp wr : List Addr) (xs : List PyData) (St : Nat → Heap → Prop) (Kp : Heap → Prop) : Prop where
  sub : ∀ b ∈ wr, b ∈ fp
  frame : ∀ i h h', St i h → (∀ b ∈ fp, ∀ o, h.get? b = some o → h'.get? b = some o) → St i h'
  kpm : ∀ g g', Le g g' → Kp g → Kp g'
  item : ∀ i s l x, (∀ a ∈ l, a < s.heap.objs.size) → (∀ b ∈ wr, b ∈ l) → xs[i]? = some x → St i s.heap → Kp (hideAll s.heap l) →
    wpAny W.M A (pyNext (.ref I)) (fun r s1 => ∃ v, r = some v ∧ wpAny W.M A (letOwnedTupleGo t (.ref I) v) (fun _ s2 => Sm s s2 ∧ (∀ b o, b ∉ wr → s.heap.get? b = some o → s2.heap.get? b = some o) ∧ St (i + 1) s2.heap ∧ Rd (hideAll s2.heap l) v x) NoE s1) NoE s
  done : ∀ s, St xs.length s.heap → wpAny W.M A (pyNext (.ref I)) (fun r s1 => r = none ∧ Sm s s1 ∧ (∀ b o, b ∉ wr → s.heap.get? b = some o → s1.heap.get? b = some o)) NoE s
  self : ∀ i s (Q : Value → Shared → Prop), St i s.heap → Q (.ref I) s → wpAny W.M A (pyIter (.ref I)) Q NoE s
  live : ∀ i h, St i h → ∀ b ∈ wr, ∃ o, h.get? b = some o ∧ NotCC o

noncomputable def Act.at (C : Act) (h₀ : Heap) (l : List Addr) : Act := { C with h₀ := h₀, l := l }

section
variable {W : Wd} {A : Around} {C : Act} {σ : St} {k : V → St → Prop} {E : Value → Shared → Prop} {kf : Fl → St → Prop}

theorem hid_at (h₀ : Heap) (l : List Addr) (mu : Mu) : hid (C.at h₀ l) mu = hid C mu := rfl

/-- the activation while an iterator stands -/
structure In (W : Wd) (C : Act) (wr : List Addr) (σ : St) (h : Heap) : Prop where
  low : Le C.h₀ (hideAll h (hid C σ.mu))
  new : ∀ b ∈ wr, C.h₀.get? b = none
  hold : Hold (C.at (hideAll h (hid C σ.mu)) (wr ++ C.l)) σ h

noncomputable def Live (C : Act) (wr : List Addr) (σ : St) (h : Heap) : Prop := ∀ b ∈ wr, ∃ o, (hideAll h (hid C σ.mu)).get? b = some o
theorem In.act {wr : List Addr} {h : Heap} (hC : ActOk W C) (N : In W C wr σ h) (lv : Live C wr σ h) : ActOk W (C.at (hideAll h (hid C σ.mu)) (wr ++ C.l)) where
  loc := hC.loc
  kind := hC.kind
  glob := hC.glob
  blt := hC.blt
  lex := fun a ha => (List.mem_append.mp ha).elim (fun ha => lv a ha) fun ha => let ⟨o, e⟩ := hC.lex a ha; ⟨o, N.low a o e⟩
  stat := hC.stat.keeps fun b o e => by
    have e1 := of_hideAll _ e
    refine hideAll_get _ (N.low b o e1) fun m => ?_
    rcases List.mem_append.mp m with m | m
    · rw [N.new b m] at e1; cases e1
    · exact hide_out e m
  inj := hC.inj

theorem Hold.toIn {wr : List Addr} {s s' : Shared} (hC : ActOk W C) (H : Hold C σ s.heap) (k : Le s.heap s'.heap) (hw : ∀ b ∈ wr, s.heap.objs.size ≤ b ∧ ∃ o, s'.heap.get? b = some o) (sm : Sm s s') :
    In W C wr σ s'.heap ∧ Live C wr σ s'.heap ∧ Le (G C σ s.heap) (hideAll s'.heap (wr ++ hidl C σ.mu)) := by
  have hlt := H.lt hC
  have hnw : ∀ b ∈ wr, b ∉ hidl C σ.mu := fun b hb m => Nat.lt_irrefl _ (Nat.lt_of_lt_of_le (hlt b m) (hw b hb).1)
  obtain ⟨m, hm, _⟩ := H.ns
  obtain ⟨H1, le1⟩ := H.step hC hm (.of_le sm hm k)
  have le2 : Le (G C σ s.heap) (hideAll s'.heap (wr ++ hidl C σ.mu)) := hide_mono fun b o n e => ⟨k b o e, fun q => by
    rcases List.mem_append.mp q with q | q
    · exact Nat.lt_irrefl _ (Nat.lt_of_lt_of_le (Heap.lt_size e) (hw b q).1)
    · exact n q⟩
  have gE : G (C.at (hideAll s'.heap (hid C σ.mu)) (wr ++ C.l)) σ s'.heap = hideAll s'.heap (wr ++ hidl C σ.mu) := by
    show hideAll s'.heap ((wr ++ C.l) ++ hid C σ.mu) = hideAll s'.heap (wr ++ (C.l ++ hid C σ.mu))
    rw [List.append_assoc]
  refine ⟨⟨H1.keep, fun b hb => ?_, ⟨Le.refl _, H1.nodup, H1.tab, ?_, ?_, H1.ownc, ?_⟩⟩, fun b hb => ?_, le2⟩
  · cases e : C.h₀.get? b with
    | none => rfl
    | some o => exact absurd (Heap.lt_size (of_hideAll _ (H.keep b o e))) (Nat.not_lt.mpr (hw b hb).1)
  · obtain ⟨m, a, b⟩ := H.ns
    refine ⟨m, a.keeps k, fun x v e1 e2 => let ⟨v', c1, c2⟩ := b x v e1 e2; ⟨v', c1, ?_⟩⟩
    rw [gE]; exact c2.keeps le2
  · intro x v e1 e2
    obtain ⟨c, v', c1, c2, c3⟩ := H.cell x v e1 e2
    refine ⟨c, v', c1, c2.keeps k, ?_⟩
    rw [gE]; exact c3.keeps le2
  · intro p hp
    obtain ⟨i, n, e, l⟩ := H.mus p hp
    refine ⟨i, n, k _ _ e, ?_⟩
    rw [gE]; exact l.keeps le2
  · obtain ⟨o, e⟩ := (hw b hb).2
    exact ⟨o, hideAll_get _ e fun q => hnw b hb (List.mem_append_right _ q)⟩

theorem In.g {wr : List Addr} {h : Heap} : G (C.at (hideAll h (hid C σ.mu)) (wr ++ C.l)) σ h = hideAll h (wr ++ hidl C σ.mu) := by
  show hideAll h ((wr ++ C.l) ++ hid C σ.mu) = hideAll h (wr ++ (C.l ++ hid C σ.mu))
  rw [List.append_assoc]

/-- the iterator is stepped -/
theorem In.next {wr : List Addr} {s s' : Shared} (hC : ActOk W C) (N : In W C wr σ s.heap) (lv : Live C wr σ s.heap) (k : ∀ b o, b ∉ wr → s.heap.get? b = some o → s'.heap.get? b = some o)
    (hcc : ∀ b ∈ wr, ∃ o, s.heap.get? b = some o ∧ NotCC o) :
    In W C wr σ s'.heap ∧ Le (hideAll s.heap (wr ++ hidl C σ.mu)) (hideAll s'.heap (wr ++ hidl C σ.mu)) := by
  have H := N.hold
  have le2 : Le (hideAll s.heap (wr ++ hidl C σ.mu)) (hideAll s'.heap (wr ++ hidl C σ.mu)) := hide_same fun b o n e => k b o (fun q => n (List.mem_append_left _ q)) e
  have hnf : ∀ b ∈ wr, b ∉ hid C σ.mu := fun b hb => let ⟨o, e⟩ := lv b hb; hide_out e
  have le1 : Le C.h₀ (hideAll s'.heap (hid C σ.mu)) := fun b o e => by
    have e1 := N.low b o e
    refine hideAll_get _ (k b o (fun q => ?_) (of_hideAll _ e1)) (hide_out e1)
    rw [N.new b q] at e; cases e
  refine ⟨⟨le1, N.new, ⟨Le.refl _, H.nodup, ?_, ?_, ?_, ?_, ?_⟩⟩, le2⟩
  · obtain ⟨ps, a, b, c⟩ := H.tab
    refine ⟨ps, k _ _ (fun q => hnf 89 q (.head _)) a, b, fun p v e => ?_⟩
    obtain ⟨cd, o, vs, t, h1, h2, h3, h4⟩ := c p v e
    refine ⟨cd, o, vs, t, h1, k _ _ (fun q => ?_) h2, h3, h4⟩
    obtain ⟨o', e', n⟩ := hcc cd q
    rw [h2] at e'; cases e'
    exact n.2 vs _ t h3 h4
  · obtain ⟨m, ⟨o, es, ep, a, d, r⟩, b⟩ := H.ns
    refine ⟨m, ⟨o, es, ep, k _ _ (fun q => hnf _ q (.tail _ (List.mem_append_left _ hC.loc))) a, d, r⟩, fun x v e1 e2 => let ⟨v', c1, c2⟩ := b x v e1 e2; ⟨v', c1, ?_⟩⟩
    rw [In.g] at c2 ⊢; exact c2.keeps le2
  · intro x v e1 e2
    obtain ⟨c, v', c1, ⟨o, c2, d⟩, c3⟩ := H.cell x v e1 e2
    refine ⟨c, v', c1, ⟨o, k _ _ (fun q => ?_) c2, d⟩, ?_⟩
    · obtain ⟨o', e', n⟩ := hcc c q
      rw [c2] at e'; cases e'
      exact n.1 _ d
    · rw [In.g] at c3 ⊢; exact c3.keeps le2
  · intro c hc hn
    obtain ⟨w, o, e, d⟩ := H.ownc c hc hn
    exact ⟨w, o, k _ _ (fun q => hnf _ q (.tail _ (List.mem_append_left _ hc))) e, d⟩
  · intro p hp
    obtain ⟨i, n, e, l⟩ := H.mus p hp
    refine ⟨i, n, k _ _ (fun q => hnf _ q (.tail _ (List.mem_append_right _ (List.mem_map_of_mem hp)))) e, ?_⟩
    rw [In.g] at l ⊢; exact l.keeps le2

/-- behind a turn: what the turn's own activation says is said of the loop's -/
theorem In.turn {σ' : St} {wr : List Addr} {s s' : Shared} (hC : ActOk W C) (N : In W C wr σ s.heap) (H : Hold (C.at (hideAll s.heap (hid C σ.mu)) (wr ++ C.l)) σ' s'.heap) : In W C wr σ' s'.heap where
  low := N.low.trans H.keep
  new := N.new
  hold := { H with keep := Le.refl _ }
theorem In.out {wr : List Addr} {h : Heap} (N : In W C wr σ h) : Hold C σ h ∧ Le (hideAll h (wr ++ hidl C σ.mu)) (G C σ h) := by
  have le : Le (hideAll h (wr ++ hidl C σ.mu)) (G C σ h) := hide_sub fun a ha => List.mem_append_right _ ha
  have H := N.hold
  refine ⟨⟨N.low, H.nodup, H.tab, ?_, ?_, H.ownc, ?_⟩, le⟩
  · obtain ⟨m, a, b⟩ := H.ns
    exact ⟨m, a, fun x v e1 e2 => let ⟨v', c1, c2⟩ := b x v e1 e2; ⟨v', c1, by rw [In.g] at c2; exact c2.keeps le⟩⟩
  · exact fun x v e1 e2 => let ⟨c, v', c1, c2, c3⟩ := H.cell x v e1 e2; ⟨c, v', c1, c2, by rw [In.g] at c3; exact c3.keeps le⟩
  · intro p hp
    obtain ⟨i, n, e, l⟩ := H.mus p hp
    exact ⟨i, n, e, by rw [In.g] at l; exact l.keeps le⟩

/-- what is to be shown of a loop's turns -/
noncomputable def LoopW (W : Wd) (A : Around) (C : Act) (E : Value → Shared → Prop) (t : Expr) (body : List Stmt) (kf : Fl → St → Prop) : List PyData → St → Prop
  | [], σ => kf .next σ
  | x :: xs, σ => ∀ h₀ l, ActOk W (C.at h₀ l) → WA W A (C.at h₀ l) t (.dat x) σ fun σ1 => WX W A (C.at h₀ l) E body σ1 fun fl σ2 => match fl with
      | .next | .cont => LoopW W A C E t body kf xs σ2
      | .brk => kf .next σ2
      | .ret v => kf (.ret v) σ2

/-- an iterable: what its iterator gives -/
noncomputable def WI (W : Wd) (A : Around) (C : Act) (t e : Expr) (σ : St) (k : List PyData → St → Prop) : Prop :=
  ∀ s, Hold C σ s.heap → wpAny W.M A (eval e C.env) (fun v s1 => wpAny W.M A (pyIter v) (fun it s2 => Ex7 fun I fp wr xs St Kp σ' => A10 (it = .ref I) (k xs σ') (Itr W A t I fp wr xs St Kp) (St 0 s2.heap) (Sm s s2) (In W C wr σ' s2.heap) (Live C wr σ' s2.heap) (Le (G C σ s.heap) (hideAll s2.heap (wr ++ hidl C σ'.mu))) (Kp (hideAll s2.heap (wr ++ hidl C σ'.mu))) (∀ b ∈ fp, ∃ o, (hideAll s2.heap (hid C σ'.mu)).get? b = some o)) NoE s1) NoE s
end

end Mine
namespace Mine

noncomputable def goList : List String := ["enumerate", "zip", "dict_itemiterator", "dict_reverseitemiterator", "odict_iterator", "itertools.zip_longest", "itertools.pairwise"]
theorem noGo {W : Wd} {A : Around} {t : Expr} {I : Addr} {v : Value} {s : Shared} {o : Obj} {n : String} {Q : Unit → Shared → Prop} (h : s.heap.get? I = some o) (hc : o.cls = .type n) (hn : goList.contains n = false) (q : Q () s) :
    wpAny W.M A (letOwnedTupleGo t (.ref I) v) Q NoE s := by
  have key : ∀ a : Addr, wpAny W.M A (do
      let o ← load I
      match o.cls, o.data with
      | .type n, .fields vs =>
        if goList.contains n && vs[0]? == some (rawInt a) then
          rule "for.unpacks-the-owned-tuple"
          updateField I 0 .none
      | _, _ => pure () : Sem Unit) Q NoE s := fun a => by
    refine wpAny_bind (wpAny_load h ?_)
    rw [hc]
    cases o.data <;> try exact wpAny_pure q
    simp only [hn, Bool.false_and, Bool.false_eq_true, if_false]
    exact wpAny_pure q
  unfold letOwnedTupleGo
  split
  · cases v <;> first | exact wpAny_pure q | exact key _
  · cases v <;> first | exact wpAny_pure q | exact key _
  · exact wpAny_pure q

section
variable {W : Wd} {A : Around} {I : Addr} {fp wr : List Addr} {xs : List PyData} {n : Nat} {P : Nat → Value → Prop} {St : Nat → Heap → Prop} {Kp : Heap → Prop}

theorem Itr.of {t : Expr} (Wk : Walks W.prog W.w A I fp wr n P St) (hn : n = xs.length) (kpm : ∀ g g', Le g g' → Kp g → Kp g') (hP : ∀ i v x g, P i v → xs[i]? = some x → Kp g → Rd g v x)
    (hI : ∀ i h, St i h → Ex2 fun o T => A3 (h.get? I = some o) (o.cls = .type T) (goList.contains T = false)) (live : ∀ i h, St i h → ∀ b ∈ wr, ∃ o, h.get? b = some o ∧ NotCC o) : Itr W A t I fp wr xs St Kp where
  sub := Wk.sub
  frame := Wk.frame
  kpm := kpm
  item := fun i s l x hl hw hx st kp => by
    have hi : i < n := by rw [hn]; exact (List.getElem?_eq_some_iff.mp hx).1
    refine Wk.item i s _ NoE hi st fun v h' tk hp st' hk => ⟨v, rfl, ?_⟩
    obtain ⟨o, T, e, hc, hg⟩ := hI _ _ st'
    refine noGo e hc hg ⟨⟨h', tk, rfl⟩, hk, st', hP i v x _ hp hx (kpm _ _ (hide_same fun b o n e => hk b o (fun q => n (hw b q)) e) kp)⟩
  done := fun s st => by
    refine Wk.done s _ NoE (by rw [hn]; exact st) fun h' tk hk => ⟨rfl, ⟨h', tk, rfl⟩, hk⟩
  self := fun i s Q st q => Wk.self i s Q NoE st q
  live := live

theorem Itr.ofT {Pt : Nat → Array Value → Prop} {Mid : Nat → Addr → Heap → Prop} (Wk : WalksT W.prog W.w A I fp wr n Pt St Mid) (hn : n = xs.length) (kpm : ∀ g g', Le g g' → Kp g → Kp g')
    (hP : ∀ i vals x g, Pt i vals → xs[i]? = some x → Kp g → ∃ ds, x = .tuple ds ∧ Rds g vals.toList ds) (live : ∀ i h, St i h → ∀ b ∈ wr, ∃ o, h.get? b = some o ∧ NotCC o)
    {ts : List Expr} {k : Nat} {pos : Pos} : Itr W A (.Tuple ts k pos) I fp wr xs St Kp := by
  refine ⟨Wk.sub, Wk.frame, kpm, ?_, fun s st => Wk.done s _ NoE (by rw [hn]; exact st) fun h' tk hk => ⟨rfl, ⟨h', tk, rfl⟩, hk⟩, fun i s Q st q => Wk.self i s Q NoE st q, live⟩
  intro i s l x hl hw hx st kp
  have hi : i < n := by rw [hn]; exact (List.getElem?_eq_some_iff.mp hx).1
  refine Wk.item i s _ NoE hi st fun T vals h' tk hp hT it md hk => ⟨_, rfl, ?_⟩
  refine Wk.go ts k pos i T _ _ NoE md fun h2 st2 hk2 => ⟨⟨h2, tk, rfl⟩, fun b o n e => hk2 b o n (hk b o n e), st2, ?_⟩
  obtain ⟨ds, rfl, r⟩ := hP i vals x (hideAll h2 l) hp hx (kpm _ _ (hide_same fun b o n e => hk2 b o (fun q => n (hw b q)) (hk b o (fun q => n (hw b q)) e)) kp)
  have hTw := Wk.apart i T h' md
  obtain ⟨o, e, r1, r2⟩ := it
  exact Rd.tup (vs := vals.toList) ⟨o, hideAll_get _ (hk2 T o hTw e) fun q => Nat.lt_irrefl _ (Nat.lt_of_lt_of_le (hl T q) hT), r1, by simpa using r2⟩ r
end

section
variable {W : Wd} {A : Around} {C : Act} {σ : St} {k : List PyData → St → Prop}

theorem NotCC.li {o : Obj} {a : Value} {i : Int} {t : Tok} (h : o.data = .fields #[a, .int i t]) : NotCC o := by
  refine ⟨fun v q => ?_, fun vs q t e => ?_⟩
  · rw [h] at q; cases q
  · rw [h] at e; cases e; simp
theorem NotCC.seq {o : Obj} {a : Array Value} {n : Nat} (h : o.data = .seq a n) : NotCC o := by
  refine ⟨fun v q => ?_, fun vs q t e => ?_⟩
  · rw [h] at q; cases q
  · rw [h] at e; cases e
theorem NotCC.bl {o : Obj} {a : Value} {b : Bool} {r : List Value} (h : o.data = .fields (List.toArray (a :: .bool b :: r))) : NotCC o := by
  refine ⟨fun v q => ?_, fun vs q t e => ?_⟩
  · rw [h] at q; cases q
  · rw [h] at e; cases e; simp
theorem NotCC.rg {o : Obj} {a : Value} {i : Int} {t : Tok} {c : Value} (h : o.data = .fields #[a, .int i t, c]) : NotCC o := by
  refine ⟨fun v q => ?_, fun vs q t e => ?_⟩
  · rw [h] at q; cases q
  · rw [h] at e; cases e; simp

/-- over a list that stands -/
theorem WI.list {t e : Expr} (hC : ActOk W C) (hr : Rm 10 A) (h : WE W A C e σ fun x σ1 => ∃ ds, x = .dat (.list ds) ∧ k ds σ1) : WI W A C t e σ k := fun s H => by
  refine wpAny_mono (h s H) (fun v s1 hqq => ?_) fun _ _ e => e
  obtain ⟨x, σ1, ⟨ds, ex, hk⟩, sm1, H1, le1, l1⟩ := hqq
  subst ex
  obtain ⟨a, vs, rfl, il, r⟩ := Rd.list_inv l1
  have il1 := up_list il
  have hne : a ≠ s1.heap.objs.size := by obtain ⟨o, e, _⟩ := il1; exact Nat.ne_of_lt (Heap.lt_size e)
  refine wpAny_pyIter_list il1 ?_
  have hw : ∀ b ∈ [s1.heap.objs.size], s1.heap.objs.size ≤ b ∧ ∃ o, (s1.heap.push { cls := .type "list_iterator", data := .fields #[.ref a, .int 0 0] }).get? b = some o := fun b hb => by
    rw [List.mem_singleton.mp hb]; exact ⟨Nat.le_refl _, _, Heap.get?_push_size _ rfl⟩
  obtain ⟨N, lv, le2⟩ := H1.toIn (s := s1) (s' := { s1 with heap := s1.heap.push { cls := .type "list_iterator", data := .fields #[.ref a, .int 0 0] } }) hC made_le hw ⟨_, s1.toks, rfl⟩
  refine ⟨_, _, _, ds, _, fun g => Rds g vs ds, σ1, rfl, hk, Itr.of (Walks.list hr.handled s1.heap.objs.size a hne vs.toArray) (by rw [List.size_toArray, r.len]) (fun g g' l r => r.keeps l)
    (fun i v x g hp hx r => ?_) (fun i h st => let ⟨⟨o, e, c, _⟩, _⟩ := st; ⟨o, _, e, c, by decide⟩) (fun i h st b hb => ?_), ⟨⟨_, Heap.get?_push_size _ rfl, rfl, rfl⟩, il1.push _⟩, sm1.trans ⟨_, s1.toks, rfl⟩, N, lv, le1.trans le2, r.keeps le2, fun b hb => ?_⟩
  · obtain ⟨u, e, rd⟩ := r.get i hx
    have hp' : vs[i]? = some v := by simpa using hp
    rw [hp'] at e; cases e; exact rd
  · rw [List.mem_singleton.mp hb]
    obtain ⟨⟨o, e, c, d⟩, _⟩ := st
    exact ⟨o, e, NotCC.li d⟩
  · rcases List.mem_cons.mp hb with rfl | hb
    · exact lv _ (.head _)
    · rw [List.mem_singleton.mp hb]
      obtain ⟨o, e, _⟩ := il
      have := le2 _ _ e
      exact ⟨o, hide_sub (fun c hc => List.mem_append_right _ (List.mem_append_right _ hc)) _ _ this⟩

theorem blt_val {h : Heap} {x : Str} {v : Value} {s : Shared} {Q : Value → Shared → Prop} {M : Model} (hC : ActOk W C) (S : W.Stat h) (le : Le h s.heap) (e : nsIn W.K mainGlobals x = some none) (hv : bootBuiltins x = some v) (q : Q v s)
    (hx : C.env.kindOf x = some .globalImplicit) (hn : x ≠ "__name__") (hd : (x == ("__debug__" : Str)) = false) {pos : Pos} : wpAny M A (eval (.Name x pos) C.env) Q NoE s :=
  Name_function_global hC.kind hx (loadGlobal_builtin (by rw [hC.glob]; exact S.T.g.keeps le) (mg_none_of S.K S.T.g e) (by rw [hC.blt]; exact S.T.b.keeps le) ((S.T.builtins x hn).trans hv) q) hd

/-- a name that the text leaves to the built-in ones -/
noncomputable def Blt (W : Wd) (x : Str) : Prop := nsIn W.K mainGlobals x = some none

theorem type_call {x : Str} {T : String} {e : Expr} {es : List Expr} {np pos : Pos} {s : Shared} {Q : Value → Shared → Prop} {kk : List V → St → Prop} (hC : ActOk W C) (hb : Blt W x) (hv : bootBuiltins x = some (.type T)) (H : Hold C σ s.heap)
    (h : WEs W A C pos (e :: es) σ kk) (hq : ∀ vs s1, Posts C σ s kk vs s1 → wpAny W.M A (call (.type T) vs) Q NoE s1)
    (hx : C.env.kindOf x = some .globalImplicit) (hn : x ≠ "__name__") (hd : (x == ("__debug__" : Str)) = false) (he : starEach (e :: es) C.env = (false, eval e C.env) :: starEach es C.env) (hp : (backTo pos (starEach es C.env)).any (·.1) = false) :
    wpAny W.M A (eval (.Call (.Name x np) (e :: es) [] pos) C.env) Q NoE s :=
  Call_ (blt_val hC (H.stat hC) hide_le hb hv (PyProof.Rows.callWith_type1 (wpAny_mono (h s H) (fun vs s1 p => hq vs s1 p) fun _ _ e => e) he hp) hx hn hd)

noncomputable def rangeD (a c : Int) (n : Nat) : List PyData := (List.range n).map fun i => PyData.int (a + (i : Nat) * c)
theorem rangeD_get {a c : Int} {n i : Nat} {x : PyData} (h : (rangeD a c n)[i]? = some x) : x = .int (a + (i : Nat) * c) := by
  unfold rangeD at h
  rw [List.getElem?_map] at h
  cases e : (List.range n)[i]? with
  | none => rw [e] at h; cases h
  | some j =>
    rw [e] at h; cases h
    have := List.getElem?_eq_some_iff.mp e
    obtain ⟨_, q⟩ := this
    simp at q; rw [q]

theorem range_in {t : Expr} {r : Addr} {a b c : Int} {t1 t2 t3 : Tok} {n : Nat} {s0 s : Shared} {σ0 : St} (hC : ActOk W C) (hr : Rm 10 A) (H : Hold C σ s.heap) (sm : Sm s0 s) (le : Le (G C σ0 s0.heap) (G C σ s.heap)) (ir : IsRange s.heap r a b c t1 t2 t3) (hsm : Builtin.Range.small a b c = true) (hsz : Builtin.Range.rangeSize a b c = (n : Int)) (hk : k (rangeD a c n) σ) :
    wpAny W.M A (pyIter (.ref r)) (fun it s2 => Ex7 fun I fp wr xs St Kp σ' => A10 (it = .ref I) (k xs σ') (Itr W A t I fp wr xs St Kp) (St 0 s2.heap) (Sm s0 s2) (In W C wr σ' s2.heap) (Live C wr σ' s2.heap) (Le (G C σ0 s0.heap) (hideAll s2.heap (wr ++ hidl C σ'.mu))) (Kp (hideAll s2.heap (wr ++ hidl C σ'.mu))) (∀ b ∈ fp, ∃ o, (hideAll s2.heap (hid C σ'.mu)).get? b = some o)) NoE s := by
  refine wpAny_pyIter_range ir hsm ?_
  have hw : ∀ q ∈ [s.heap.objs.size], s.heap.objs.size ≤ q ∧ ∃ o, (s.heap.push { cls := .type "range_iterator", data := .fields #[rawInt a, rawInt (Builtin.Range.rangeSize a b c), rawInt c] }).get? q = some o := fun q hq => by
    rw [List.mem_singleton.mp hq]; exact ⟨Nat.le_refl _, _, Heap.get?_push_size _ rfl⟩
  obtain ⟨N, lv, le2⟩ := H.toIn (s := s) (s' := { s with heap := s.heap.push { cls := .type "range_iterator", data := .fields #[rawInt a, rawInt (Builtin.Range.rangeSize a b c), rawInt c] } }) hC made_le hw ⟨_, s.toks, rfl⟩
  refine ⟨_, _, _, rangeD a c n, _, fun _ => True, σ, rfl, hk, Itr.of (Walks.range hr.handled s.heap.objs.size a c n) (by simp [rangeD]) (fun _ _ _ _ => trivial)
    (fun i v x g ⟨u, hv⟩ hx _ => by rw [rangeD_get hx, hv]; exact Rd.int) (fun i h st => ⟨_, _, st, rfl, by decide⟩) (fun i h st b hb => by rw [List.mem_singleton.mp hb]; exact ⟨_, st, NotCC.rg rfl⟩), ?_, sm.trans ⟨_, s.toks, rfl⟩, N, lv, le.trans le2, trivial, lv⟩
  have e : IsRangeIter (s.heap.push { cls := .type "range_iterator", data := .fields #[rawInt a, rawInt (Builtin.Range.rangeSize a b c), rawInt c] }) s.heap.objs.size a (Builtin.Range.rangeSize a b c) c := Heap.get?_push_size _ rfl
  rw [hsz] at e
  simpa [hsz] using e

theorem WI.range1 {t e : Expr} {np pos : Pos} (hC : ActOk W C) (hr : Rm 10 A) (hb : Blt W (Str.ofString "range")) (h : WE W A C e σ fun x σ1 => ∃ m, A4 (x = .dat (.int m)) (-(2 ^ 62) ≤ m) (m < 2 ^ 62) (k (rangeD 0 1 m.toNat) σ1))
    (hx : C.env.kindOf (Str.ofString "range") = some .globalImplicit := by rfl) (he : starEach [e] C.env = [(false, eval e C.env)] := by rfl) : WI W A C t (.Call (.Name (Str.ofString "range") np) [e] [] pos) σ k := fun s H => by
  refine type_call hC hb PyProof.Rows.Boot.range H (WEs.cons (kk := fun xs σ' => ∃ m, A4 (xs = [.dat (.int m)]) (-(2 ^ 62) ≤ m) (m < 2 ^ 62) (k (rangeD 0 1 m.toNat) σ')) (h.mono fun x σ1 ⟨m, ex, h1, h2, h3⟩ => WEs.nil ⟨m, by rw [ex], h1, h2, h3⟩) he) (fun vs s1 hqq => ?_) hx (by decide) (by decide) he (by rfl)
  obtain ⟨xs, σ1, ⟨m, ex, h1, h2, h3⟩, sm1, H1, le1, l1⟩ := hqq
  subst ex
  cases l1 with | cons a b =>
  cases b
  obtain ⟨tk, rfl⟩ := Rd.int_inv a
  refine call_range_1 ?_
  obtain ⟨mm, hm, _⟩ := H1.ns
  obtain ⟨H2, le2⟩ := H1.step (s' := { s1 with heap := s1.heap.push { cls := .type "range", data := .fields #[.int 0 s1.toks, .int m tk, .int 1 (s1.toks + 1)] }, toks := s1.toks + 1 + 1 }) hC hm (.of_le ⟨_, _, rfl⟩ hm made_le)
  refine range_in (n := m.toNat) hC hr H2 (sm1.trans ⟨_, _, rfl⟩) (le1.trans le2) (IsRange.new ..) (small_one (by decide) (by decide) h1 h2) ?_ h3
  rw [rangeSize_one]; split <;> lia

theorem range_down (a : Int) (h : -1 ≤ a) : Builtin.Range.rangeSize a (-1) (-1) = ((a + 1).toNat : Int) := by
  unfold Builtin.Range.rangeSize
  rw [if_neg (by decide)]
  by_cases q : a > -1
  · rw [if_pos q]
    have : (a - -1 - 1) / (- -1) + 1 = a + 1 := by
      have e : (- -1 : Int) = 1 := by decide
      rw [e, Int.ediv_one]; lia
    rw [this]; lia
  · rw [if_neg q]; lia

theorem WI.rangeDown {t e f g : Expr} {np pos : Pos} (hC : ActOk W C) (hr : Rm 10 A) (hb : Blt W (Str.ofString "range"))
    (h : WEs W A C pos [e, f, g] σ fun xs σ1 => ∃ m, A4 (xs = [.dat (.int m), .dat (.int (-1)), .dat (.int (-1))]) (-1 ≤ m) (m < 1000000) (k (rangeD m (-1) (m + 1).toNat) σ1))
    (hx : C.env.kindOf (Str.ofString "range") = some .globalImplicit := by rfl) (he : starEach [e, f, g] C.env = (false, eval e C.env) :: starEach [f, g] C.env := by rfl) (hp : (backTo pos (starEach [f, g] C.env)).any (·.1) = false := by rfl) :
    WI W A C t (.Call (.Name (Str.ofString "range") np) [e, f, g] [] pos) σ k := fun s H => by
  refine type_call hC hb PyProof.Rows.Boot.range H h (fun vs s1 hqq => ?_) hx (by decide) (by decide) he hp
  obtain ⟨xs, σ1, ⟨m, ex, h1, h2, h3⟩, sm1, H1, le1, l1⟩ := hqq
  subst ex
  cases l1 with | cons a b =>
  cases b with | cons b c =>
  cases c with | cons c d =>
  cases d
  obtain ⟨ta, rfl⟩ := Rd.int_inv a
  obtain ⟨tb, rfl⟩ := Rd.int_inv b
  obtain ⟨tc, rfl⟩ := Rd.int_inv c
  refine call_range_3 (by decide) ?_ (.inl (PyProof.noPylong_small (by lia)))
  obtain ⟨mm, hm, _⟩ := H1.ns
  obtain ⟨H2, le2⟩ := H1.step (s' := { s1 with heap := s1.heap.push { cls := .type "range", data := .fields #[.int m ta, .int (-1) tb, .int (-1) tc] } }) hC hm (.of_le ⟨_, s1.toks, rfl⟩ hm made_le)
  have hsz := range_down m h1
  refine range_in (n := (m + 1).toNat) hC hr H2 (sm1.trans ⟨_, s1.toks, rfl⟩) (le1.trans le2) (IsRange.new ..) ?_ hsz h3
  unfold Builtin.Range.small Builtin.Range.rangeFitsLong
  rw [hsz]
  simp
  lia

end

noncomputable def enumD (ds : List PyData) : List PyData := ds.zipIdx.map fun p => .tuple [.int (p.2 : Nat), p.1]
theorem enumD_get {ds : List PyData} {i : Nat} {x : PyData} (h : (enumD ds)[i]? = some x) : ∃ d, ds[i]? = some d ∧ x = .tuple [.int (i : Nat), d] := by
  unfold enumD at h
  rw [List.getElem?_map, List.getElem?_zipIdx] at h
  cases e : ds[i]? with
  | none => rw [e] at h; cases h
  | some d => rw [e] at h; cases h; exact ⟨d, rfl, by simp⟩
theorem enumD_length (ds : List PyData) : (enumD ds).length = ds.length := by simp [enumD]
noncomputable def signsD (x : Str) : List PyData := x.cps.toList.map fun c => .str ⟨#[c]⟩
theorem signsD_get {x : Str} {i : Nat} {d : PyData} (h : (signsD x)[i]? = some d) : ∃ c, x.cps[i]? = some c ∧ d = .str ⟨#[c]⟩ := by
  unfold signsD at h
  rw [List.getElem?_map, Array.getElem?_toList] at h
  cases e : x.cps[i]? with
  | none => rw [e] at h; cases h
  | some c => rw [e] at h; cases h; exact ⟨c, rfl, rfl⟩
theorem signsD_length (x : Str) : (signsD x).length = x.cps.size := by simp [signsD]
noncomputable def zipD (a b : List PyData) : List PyData := (a.zip b).map fun p => .tuple [p.1, p.2]

section
variable {W : Wd} {A : Around} {C : Act} {σ : St} {k : List PyData → St → Prop}

theorem WI.enumList {ts : List Expr} {n : Nat} {tp : Pos} {e : Expr} {np pos : Pos} (hC : ActOk W C) (hr : Rm 10 A) (hb : Blt W (Str.ofString "enumerate")) (h : WE W A C e σ fun x σ1 => ∃ ds, x = .dat (.list ds) ∧ k (enumD ds) σ1)
    (hx : C.env.kindOf (Str.ofString "enumerate") = some .globalImplicit := by rfl) (he : starEach [e] C.env = [(false, eval e C.env)] := by rfl) : WI W A C (.Tuple ts n tp) (.Call (.Name (Str.ofString "enumerate") np) [e] [] pos) σ k := fun s H => by
  refine type_call hC hb PyProof.Rows.Boot.enumerate H (WEs.cons (kk := fun xs σ' => ∃ ds, xs = [.dat (.list ds)] ∧ k (enumD ds) σ') (h.mono fun x σ1 ⟨m, ex, h3⟩ => WEs.nil ⟨m, by rw [ex], h3⟩) he) (fun vs s1 hqq => ?_) hx (by decide) (by decide) he (by rfl)
  obtain ⟨xs, σ1, ⟨ds, ex, hk⟩, sm1, H1, le1, l1⟩ := hqq
  subst ex
  cases l1 with | cons a b =>
  cases b
  obtain ⟨l, vs, rfl, il, r⟩ := Rd.list_inv a
  have il1 := up_list il
  have hlt := ltN (show l < s1.heap.objs.size by obtain ⟨o, e, _⟩ := il1; exact Heap.lt_size e)
  refine call_enumerate_list il1 fun h' ie it hsz hk' => ?_
  refine wpAny_pyIter_enum ie ?_
  have hw : ∀ q ∈ [s1.heap.objs.size + 1, s1.heap.objs.size], s1.heap.objs.size ≤ q ∧ ∃ o, h'.get? q = some o := fun q hq => by
    rcases List.mem_cons.mp hq with rfl | hq
    · exact ⟨by lia, _, ie⟩
    · rw [List.mem_singleton.mp hq]; obtain ⟨o, e, _⟩ := it; exact ⟨Nat.le_refl _, o, e⟩
  obtain ⟨N, lv, le2⟩ := H1.toIn (s := s1) (s' := { s1 with heap := h' }) hC hk' hw ⟨_, s1.toks, rfl⟩
  have il2 : h'.IsList l vs.toArray := let ⟨o, e, r⟩ := il1; ⟨o, hk' _ _ e, r⟩
  refine ⟨_, _, _, enumD ds, _, fun g => Rds g vs ds, σ1, rfl, hk, Itr.ofT (WalksT.enumerate hr.handled (s1.heap.objs.size + 1) s1.heap.objs.size l (by refine neN ?_; lia) (by refine neN ?_; lia) (by refine neN ?_; lia) vs.toArray) (by rw [List.size_toArray, enumD_length, r.len]) (fun g g' l r => r.keeps l)
    (fun i vals x g ⟨t, u, hu, hv⟩ hx r => ?_) (fun i h st b hb => ?_), ⟨⟨_, ie⟩, it, il2⟩, sm1.trans ⟨_, s1.toks, rfl⟩, N, lv, le1.trans le2, r.keeps le2, fun b hb => ?_⟩
  · obtain ⟨d, hd, rfl⟩ := enumD_get hx
    obtain ⟨u', e, rd⟩ := r.get i hd
    have hu' : vs[i]? = some u := by simpa using hu
    rw [hu'] at e; cases e
    exact ⟨_, rfl, by rw [hv]; exact .cons Rd.int (.cons rd .nil)⟩
  · obtain ⟨⟨old, ie⟩, ⟨o, e, c, d⟩, _⟩ := st
    rcases List.mem_cons.mp hb with rfl | hb
    · exact ⟨_, ie, NotCC.bl rfl⟩
    · rw [List.mem_singleton.mp hb]; exact ⟨o, e, NotCC.li d⟩
  · rcases List.mem_cons.mp hb with rfl | hb
    · exact lv _ (.head _)
    · rcases List.mem_cons.mp hb with rfl | hb
      · exact lv _ (.tail _ (.head _))
      · rw [List.mem_singleton.mp hb]
        obtain ⟨o, e, _⟩ := il
        exact ⟨o, hide_sub (fun c hc => List.mem_append_right _ (List.mem_append_right _ hc)) _ _ (le2 _ _ e)⟩

theorem WI.str {t e : Expr} (hC : ActOk W C) (hr : Rm 10 A) (h : WE W A C e σ fun x σ1 => ∃ w, x = .dat (.str w) ∧ k (signsD w) σ1) : WI W A C t e σ k := fun s H => by
  refine wpAny_mono (h s H) (fun v s1 hqq => ?_) fun _ _ e => e
  obtain ⟨x, σ1, ⟨w, ex, hk⟩, sm1, H1, le1, l1⟩ := hqq
  subst ex
  obtain ⟨tk, rfl⟩ := Rd.str_inv l1
  have go : ∀ (T : String), goList.contains T = false → Walks W.prog W.w A s1.heap.objs.size [s1.heap.objs.size] [s1.heap.objs.size] w.cps.size (SignAt w) (fun i h => h.IsStrIter s1.heap.objs.size T w tk i) →
      Ex7 fun I fp wr xs St Kp σ' => A10 ((Value.ref s1.heap.objs.size) = .ref I) (k xs σ') (Itr W A t I fp wr xs St Kp) (St 0 (s1.heap.push { cls := .type T, data := .fields #[.str w tk, .int 0 0] })) (Sm s { s1 with heap := s1.heap.push { cls := .type T, data := .fields #[.str w tk, .int 0 0] } }) (In W C wr σ' (s1.heap.push { cls := .type T, data := .fields #[.str w tk, .int 0 0] })) (Live C wr σ' (s1.heap.push { cls := .type T, data := .fields #[.str w tk, .int 0 0] })) (Le (G C σ s.heap) (hideAll (s1.heap.push { cls := .type T, data := .fields #[.str w tk, .int 0 0] }) (wr ++ hidl C σ'.mu))) (Kp (hideAll (s1.heap.push { cls := .type T, data := .fields #[.str w tk, .int 0 0] }) (wr ++ hidl C σ'.mu))) (∀ b ∈ fp, ∃ o, (hideAll (s1.heap.push { cls := .type T, data := .fields #[.str w tk, .int 0 0] }) (hid C σ'.mu)).get? b = some o) := fun T hT Wk => by
    have hw : ∀ q ∈ [s1.heap.objs.size], s1.heap.objs.size ≤ q ∧ ∃ o, (s1.heap.push { cls := .type T, data := .fields #[.str w tk, .int 0 0] }).get? q = some o := fun q hq => by
      rw [List.mem_singleton.mp hq]; exact ⟨Nat.le_refl _, _, Heap.get?_push_size _ rfl⟩
    obtain ⟨N, lv, le2⟩ := H1.toIn (s := s1) (s' := { s1 with heap := s1.heap.push { cls := .type T, data := .fields #[.str w tk, .int 0 0] } }) hC made_le hw ⟨_, s1.toks, rfl⟩
    refine ⟨_, _, _, signsD w, _, fun _ => True, σ1, rfl, hk, Itr.of Wk (signsD_length w).symm (fun _ _ _ _ => trivial) (fun i v x g ⟨c, u, hc, hv⟩ hx _ => ?_) (fun i h st => let ⟨o, e, c, _⟩ := st; ⟨o, _, e, c, hT⟩)
      (fun i h st b hb => ?_), ⟨_, Heap.get?_push_size _ rfl, rfl, rfl⟩, sm1.trans ⟨_, s1.toks, rfl⟩, N, lv, le1.trans le2, trivial, lv⟩
    · obtain ⟨c', e, rfl⟩ := signsD_get hx
      rw [hc] at e; cases e; rw [hv]; exact Rd.str
    · rw [List.mem_singleton.mp hb]
      obtain ⟨o, e, _, d⟩ := st
      exact ⟨o, e, NotCC.li d⟩
  cases ha : w.cps.all (· < 128)
  · exact wpAny_pyIter_wide ha (go _ (by decide) (Walks.strWide hr.handled _ w tk))
  · exact wpAny_pyIter_ascii ha (go _ (by decide) (Walks.strAscii hr.handled _ w tk))

theorem WI.enumStr {ts : List Expr} {n : Nat} {tp : Pos} {e : Expr} {np pos : Pos} (hC : ActOk W C) (hr : Rm 10 A) (hb : Blt W (Str.ofString "enumerate")) (h : WE W A C e σ fun x σ1 => ∃ w, x = .dat (.str w) ∧ k (enumD (signsD w)) σ1)
    (hx : C.env.kindOf (Str.ofString "enumerate") = some .globalImplicit := by rfl) (he : starEach [e] C.env = [(false, eval e C.env)] := by rfl) : WI W A C (.Tuple ts n tp) (.Call (.Name (Str.ofString "enumerate") np) [e] [] pos) σ k := fun s H => by
  refine type_call hC hb PyProof.Rows.Boot.enumerate H (WEs.cons (kk := fun xs σ' => ∃ w, xs = [.dat (.str w)] ∧ k (enumD (signsD w)) σ') (h.mono fun x σ1 ⟨m, ex, h3⟩ => WEs.nil ⟨m, by rw [ex], h3⟩) he) (fun vs s1 hqq => ?_) hx (by decide) (by decide) he (by rfl)
  obtain ⟨xs, σ1, ⟨w, ex, hk⟩, sm1, H1, le1, l1⟩ := hqq
  subst ex
  cases l1 with | cons a b =>
  cases b
  obtain ⟨tk, rfl⟩ := Rd.str_inv a
  refine call_enumerate_str fun h' ie it hsz hk' => ?_
  refine wpAny_pyIter_enum ie ?_
  have hw : ∀ q ∈ [s1.heap.objs.size + 1, s1.heap.objs.size], s1.heap.objs.size ≤ q ∧ ∃ o, h'.get? q = some o := fun q hq => by
    rcases List.mem_cons.mp hq with rfl | hq
    · exact ⟨by lia, _, ie⟩
    · rw [List.mem_singleton.mp hq]; obtain ⟨o, e, _⟩ := it; exact ⟨Nat.le_refl _, o, e⟩
  obtain ⟨N, lv, le2⟩ := H1.toIn (s := s1) (s' := { s1 with heap := h' }) hC hk' hw ⟨_, s1.toks, rfl⟩
  have D : Draws W.prog W.w A.in1 s1.heap.objs.size [s1.heap.objs.size] w.cps.size (fun i v => ∃ c u, w.cps[i]? = some c ∧ v = .str ⟨#[c]⟩ u) (fun i h => h.IsStrIter s1.heap.objs.size (strIterType w) w tk i) := by
    unfold strIterType
    split
    · exact Draws.strAscii (A := A.in1) hr.handled _ w tk
    · exact Draws.strWide (A := A.in1) hr.handled _ w tk
  refine ⟨_, _, _, enumD (signsD w), _, fun _ => True, σ1, rfl, hk, Itr.ofT (WalksT.enumerateD D (s1.heap.objs.size + 1) (by refine neN ?_; lia) (by simp) (.head _)) (by rw [enumD_length, signsD_length]) (fun _ _ _ _ => trivial)
    (fun i vals x g ⟨t, u, ⟨c, tt, hc, hu⟩, hv⟩ hx _ => ?_) (fun i h st b hb => ?_), ⟨⟨_, ie⟩, it⟩, sm1.trans ⟨_, s1.toks, rfl⟩, N, lv, le1.trans le2, trivial, lv⟩
  · obtain ⟨d, hd, rfl⟩ := enumD_get hx
    obtain ⟨c', e, rfl⟩ := signsD_get hd
    rw [hc] at e; cases e
    exact ⟨_, rfl, by rw [hv, hu]; exact .cons Rd.int (.cons Rd.str .nil)⟩
  · obtain ⟨⟨old, ie⟩, ⟨o, e, c, d⟩⟩ := st
    rcases List.mem_cons.mp hb with rfl | hb
    · exact ⟨_, ie, NotCC.bl rfl⟩
    · rw [List.mem_singleton.mp hb]; exact ⟨o, e, NotCC.li d⟩

theorem WI.zip {ts : List Expr} {n : Nat} {tp : Pos} {e f : Expr} {np pos : Pos} (hC : ActOk W C) (hr : Rm 10 A) (hb : Blt W (Str.ofString "zip")) (h : WEs W A C pos [e, f] σ fun xs σ1 => Ex2 fun ds es => A3 (xs = [.dat (.list ds), .dat (.list es)]) (ds.length = es.length) (k (zipD ds es) σ1))
    (hx : C.env.kindOf (Str.ofString "zip") = some .globalImplicit := by rfl) (he : starEach [e, f] C.env = (false, eval e C.env) :: starEach [f] C.env := by rfl) (hp : (backTo pos (starEach [f] C.env)).any (·.1) = false := by rfl) : WI W A C (.Tuple ts n tp) (.Call (.Name (Str.ofString "zip") np) [e, f] [] pos) σ k := fun s H => by
  refine type_call hC hb PyProof.Rows.Boot.zip H h (fun vs s1 hqq => ?_) hx (by decide) (by decide) he hp
  obtain ⟨xs, σ1, ⟨ds, es, ex, hlen, hk⟩, sm1, H1, le1, l1⟩ := hqq
  subst ex
  cases l1 with | cons a b =>
  cases b with | cons b c =>
  cases c
  obtain ⟨l, vs, rfl, il, r⟩ := Rd.list_inv a
  obtain ⟨l', vs', rfl, il', r'⟩ := Rd.list_inv b
  have il1 := up_list il
  have il1' := up_list il'
  have hlt := ltN (show l < s1.heap.objs.size by obtain ⟨o, e, _⟩ := il1; exact Heap.lt_size e)
  have hlt' := ltN (show l' < s1.heap.objs.size by obtain ⟨o, e, _⟩ := il1'; exact Heap.lt_size e)
  refine call_zip_2 il1 il1' fun h' iz ip iq i1 i2 hsz hk' => ?_
  refine wpAny_pyIter_zip iz ?_
  have hw : ∀ q ∈ [s1.heap.objs.size + 4, s1.heap.objs.size + 3, s1.heap.objs.size, s1.heap.objs.size + 1], s1.heap.objs.size ≤ q ∧ ∃ o, h'.get? q = some o := fun q hq => by
    simp only [List.mem_cons, List.not_mem_nil, or_false] at hq
    rcases hq with rfl | rfl | rfl | rfl
    · exact ⟨by lia, _, iz⟩
    · exact ⟨by lia, _, iq⟩
    · obtain ⟨o, e, _⟩ := i1; exact ⟨by lia, o, e⟩
    · obtain ⟨o, e, _⟩ := i2; exact ⟨by lia, o, e⟩
  obtain ⟨N, lv, le2⟩ := H1.toIn (s := s1) (s' := { s1 with heap := h' }) hC hk' hw ⟨_, s1.toks, rfl⟩
  have D : ZipApart (s1.heap.objs.size + 4) (s1.heap.objs.size + 2) (s1.heap.objs.size + 3) s1.heap.objs.size (s1.heap.objs.size + 1) l l' := by constructor <;> (refine neN ?_; lia)
  have il2 : h'.IsList l vs.toArray := let ⟨o, e, r⟩ := il1; ⟨o, hk' _ _ e, r⟩
  have il2' : h'.IsList l' vs'.toArray := let ⟨o, e, r⟩ := il1'; ⟨o, hk' _ _ e, r⟩
  have e1 : ∀ {a : Addr} {o : Obj}, (hideAll s1.heap (hidl C σ1.mu)).get? a = some o → ∃ o, (hideAll h' (hid C σ1.mu)).get? a = some o := fun {a o} e =>
    ⟨o, hide_sub (fun c hc => List.mem_append_right _ (List.mem_append_right _ hc)) _ _ (le2 _ _ e)⟩
  refine ⟨_, _, _, zipD ds es, _, fun g => Rds g vs ds ∧ Rds g vs' es, σ1, rfl, hk, Itr.ofT (WalksT.zip2 hr.handled _ _ _ _ _ _ _ D vs.toArray vs'.toArray) (by rw [List.size_toArray, List.size_toArray, r.len, r'.len]; simp [zipD]) (fun g g' l r => ⟨r.1.keeps l, r.2.keeps l⟩)
    ?_ ?_, ⟨iz, ip, ⟨_, _, iq⟩, i1, i2, il2, il2'⟩, sm1.trans ⟨_, s1.toks, rfl⟩, N, lv, le1.trans le2, ⟨r.keeps le2, r'.keeps le2⟩, ?_⟩
  · rintro i vals x g ⟨u, u', hu, hu', hv⟩ hx ⟨r, r'⟩
    unfold zipD at hx
    rw [List.getElem?_map] at hx
    cases q : (ds.zip es)[i]? with
    | none => rw [q] at hx; cases hx
    | some p =>
      rw [q] at hx; cases hx
      obtain ⟨p1, p2⟩ := List.getElem?_zip_eq_some.mp q
      obtain ⟨a1, a2, a3⟩ := r.get i p1
      obtain ⟨b1, b2, b3⟩ := r'.get i p2
      have hu : vs[i]? = some u := by simpa using hu
      have hu' : vs'[i]? = some u' := by simpa using hu'
      rw [hu] at a2; cases a2
      rw [hu'] at b2; cases b2
      exact ⟨_, rfl, by rw [hv]; exact .cons a3 (.cons b3 .nil)⟩
  · rintro i h ⟨iz, ip, ⟨a, b, iq⟩, ⟨o1, e1, _, d1⟩, ⟨o2, e2, _, d2⟩, _⟩ b hb
    simp only [List.mem_cons, List.not_mem_nil, or_false] at hb
    rcases hb with rfl | rfl | rfl | rfl
    · exact ⟨_, iz, NotCC.bl rfl⟩
    · exact ⟨_, iq, NotCC.seq rfl⟩
    · exact ⟨o1, e1, NotCC.li d1⟩
    · exact ⟨o2, e2, NotCC.li d2⟩
  · intro b hb
    simp only [List.mem_cons, List.not_mem_nil, or_false] at hb
    rcases hb with rfl | rfl | rfl | rfl | rfl | rfl | rfl
    · exact lv _ (by simp)
    · exact ⟨_, hideAll_get _ ip fun q => Nat.lt_irrefl (s1.heap.objs.size + 2) (Nat.lt_of_lt_of_le (H1.lt hC _ (List.mem_append_right _ q)) (by lia))⟩
    · exact lv _ (by simp)
    · exact lv _ (by simp)
    · exact lv _ (by simp)
    · obtain ⟨o, e, _⟩ := il; exact e1 e
    · obtain ⟨o, e, _⟩ := il'; exact e1 e
end

end Mine
namespace Mine

theorem cellsFrom_acc : ∀ (names : List (Str × NameKind)) (n : Nat) (acc : List (Str × Addr)), cellsFrom n names acc = cellsFrom n names [] ++ acc
  | [], _, _ => rfl
  | (x, kind) :: r, n, acc => by
    unfold cellsFrom
    split
    · rw [cellsFrom_acc r (n + 1) ((x, n) :: acc), cellsFrom_acc r (n + 1) [(x, n)], List.append_assoc]; rfl
    · exact cellsFrom_acc r n acc

/-- the activation of a comprehension -/
noncomputable def innerAct (C : Act) (scope : Scope) (cl : List (Str × Addr)) (Cl : Addr) (h₀ : Heap) (l : List Addr) : Act where
  env := compEnvC scope (cellsFrom (Cl + 1) scope.names cl) Cl C.env
  h₀ := h₀
  own := Cl :: (cellsFrom (Cl + 1) scope.names []).map (·.2)
  l := l
  s₀ := C.s₀

/-- the names that a comprehension sees of the block around it -/
inductive Seen (C : Act) (scope : Scope) (σ : St) : List (Str × Addr) → List (Str × V) → Prop where
  | nil : Seen C scope σ [] []
  | cons {x : Str} {c : Addr} {v : V} {cl : List (Str × Addr)} {loc : List (Str × V)} (hc : C.env.cells.lookup x = some c) (hl : σ.loc.lookup x = some v) (hk : (C.env.kindOf x == some .local) = false)
      (hi : ((relabel scope C.env).names.lookup x == some .local) = false) (hn : ((cellsFrom 0 scope.names []).map (·.1)).contains x = false) (r : Seen C scope σ cl loc) : Seen C scope σ ((x, c) :: cl) ((x, v) :: loc)

section
variable {W : Wd} {A : Around} {C : Act} {σ : St} {k : V → St → Prop} {E : Value → Shared → Prop} {kf : Fl → St → Prop} {scope : Scope}

theorem Seen.clo {x : Str} {c : Addr} : ∀ {cl : List (Str × Addr)} {loc : List (Str × V)}, Seen C scope σ cl loc → cl.lookup x = some c → C.env.cells.lookup x = some c ∧ (∃ v, σ.loc.lookup x = some v) ∧ C.env.kindOf x ≠ some .local
  | _, _, .nil, e => by simp at e
  | _, _, .cons (x := y) hc hl hk hi hn r, e => by
    simp only [List.lookup] at e
    cases q : x == y with
    | true =>
      rw [q] at e; cases e
      have : x = y := beq_iff_eq.mp q
      subst this
      exact ⟨hc, ⟨_, hl⟩, by simpa using hk⟩
    | false => rw [q] at e; exact r.clo e
theorem Seen.loc {x : Str} {v : V} : ∀ {cl : List (Str × Addr)} {loc : List (Str × V)}, Seen C scope σ cl loc → loc.lookup x = some v →
    ∃ c, A6 (cl.lookup x = some c) (C.env.cells.lookup x = some c) (σ.loc.lookup x = some v) (C.env.kindOf x ≠ some .local) ((relabel scope C.env).names.lookup x ≠ some .local) (x ∉ (cellsFrom 0 scope.names []).map (·.1))
  | _, _, .nil, e => by simp at e
  | _, _, .cons (x := y) hc hl hk hi hn r, e => by
    simp only [List.lookup] at e ⊢
    cases q : x == y with
    | true =>
      rw [q] at e; cases e
      have : x = y := beq_iff_eq.mp q
      subst this
      exact ⟨_, rfl, hc, hl, by simpa using hk, by simpa using hi, by simpa using hn⟩
    | false => rw [q] at e; exact r.loc e

theorem In.of_hidden {wr : List Addr} {h : Heap} (H : Hold C σ (hideAll h wr)) : In W C wr σ h := by
  have gE : G C σ (hideAll h wr) = hideAll h ((wr ++ C.l) ++ hid C σ.mu) := by
    show hideAll (hideAll h wr) (C.l ++ hid C σ.mu) = _
    rw [← hideAll_append, List.append_assoc]
  refine ⟨H.keep.trans (hide_ext hide_le), fun b hb => ?_, ⟨Le.refl _, H.nodup, H.tab.keeps (l := []) (fun b o _ e => hide_le b o e) (by simp) (by simp), ?_, ?_, ?_, ?_⟩⟩
  · cases e : C.h₀.get? b with
    | none => rfl
    | some o => exact absurd hb (hide_out (of_hideAll _ (H.keep b o e)))
  · obtain ⟨m, a, b⟩ := H.ns
    refine ⟨m, a.keeps hide_le, fun x v e1 e2 => let ⟨v', c1, c2⟩ := b x v e1 e2; ⟨v', c1, ?_⟩⟩
    rw [gE] at c2; exact c2
  · intro x v e1 e2
    obtain ⟨c, v', c1, c2, c3⟩ := H.cell x v e1 e2
    rw [gE] at c3
    exact ⟨c, v', c1, c2.keeps hide_le, c3⟩
  · intro c hc hn
    obtain ⟨w, o, e, d⟩ := H.ownc c hc hn
    exact ⟨w, o, hide_le _ _ e, d⟩
  · intro p hp
    obtain ⟨i, n, e, l⟩ := H.mus p hp
    rw [gE] at l
    exact ⟨i, n, hide_le _ _ e, l⟩
theorem In.hidden {wr : List Addr} {s : Shared} (hC : ActOk W C) (N : In W C wr σ s.heap) (lv : Live C wr σ s.heap) (hcc : ∀ b ∈ wr, ∃ o, s.heap.get? b = some o ∧ NotCC o) : Hold C σ (hideAll s.heap wr) :=
  (N.next (s' := { s with heap := hideAll s.heap wr }) hC lv (fun b o n e => hideAll_get _ e n) hcc).1.out.1

theorem Hold.inner {h2 h4 : Heap} {cl : List (Str × Addr)} {Cl : Addr} {locI : List (Str × V)} (hC : ActOk W C) (H : Hold C σ h2) (sn : Seen C scope σ cl locI) (hk : scope.kind = .function) (le : Le h2 h4) (hn : h4.Ns Cl fun _ => none)
    (hcl : h2.get? Cl = none) (hcells : ∀ p ∈ cellsFrom (Cl + 1) scope.names [], h4.IsCell p.2 none ∧ h2.get? p.2 = none ∧ Cl < p.2) (hap : (cellsFrom (Cl + 1) scope.names []).Pairwise fun x y => x.2 ≠ y.2) :
    ActOk W (innerAct C scope cl Cl (hideAll h2 (89 :: keys σ.mu)) (C.l ++ (C.own ++ keys []))) ∧ Hold (innerAct C scope cl Cl (hideAll h2 (89 :: keys σ.mu)) (C.l ++ (C.own ++ keys []))) ⟨locI, σ.mu⟩ h4 ∧
    Le (G C σ h2) (G (innerAct C scope cl Cl (hideAll h2 (89 :: keys σ.mu)) (C.l ++ (C.own ++ keys []))) ⟨locI, σ.mu⟩ h4) := by
  obtain ⟨B, leB⟩ := H.toBase (rest := []) (mu := σ.mu) hC rfl
  generalize hl : C.l ++ (C.own ++ keys []) = l at *
  generalize hCi : innerAct C scope cl Cl (hideAll h2 (89 :: keys σ.mu)) l = Ci
  have eown : Ci.own = Cl :: (cellsFrom (Cl + 1) scope.names []).map (·.2) := by rw [← hCi]; rfl
  have eenv : Ci.env = compEnvC scope (cellsFrom (Cl + 1) scope.names cl) Cl C.env := by rw [← hCi]; rfl
  have elocs : Ci.env.locals = Cl := by rw [eenv]; rfl
  have el : Ci.l = l := by rw [← hCi]; rfl
  have eh : Ci.h₀ = hideAll h2 (89 :: keys σ.mu) := by rw [← hCi]; rfl
  have ecells : Ci.env.cells = cellsFrom (Cl + 1) scope.names [] ++ cl := by rw [eenv]; exact cellsFrom_acc _ _ _
  have fresh : ∀ a ∈ Ci.own, h2.get? a = none := fun a ha => by
    rw [eown] at ha
    rcases List.mem_cons.mp ha with rfl | ha
    · exact hcl
    · obtain ⟨p, hp, rfl⟩ := List.mem_map.mp ha
      exact (hcells p hp).2.1
  have leG : Le (hideAll h2 (l ++ 89 :: keys σ.mu)) (G Ci ⟨locI, σ.mu⟩ h4) := hide_mono fun b o n e => ⟨le b o e, fun m => by
    change b ∈ Ci.l ++ 89 :: (Ci.own ++ keys σ.mu) at m
    rw [el] at m
    simp only [List.mem_append, List.mem_cons, not_or] at m n
    rcases m with m | m | m | m
    · exact n.1 m
    · exact n.2.1 m
    · rw [fresh b m] at e; cases e
    · exact n.2.2 m⟩
  have leH : Le (G C σ h2) (G Ci ⟨locI, σ.mu⟩ h4) := leB.trans leG
  refine ⟨⟨?_, ?_, ?_, ?_, ?_, ?_, ?_⟩, ⟨?_, ?_, ?_, ?_, ?_, ?_, ?_⟩, leH⟩
  · rw [elocs, eown]; exact .head _
  · rw [eenv]; exact hk
  · rw [eenv]; exact hC.glob
  · rw [eenv]; exact hC.blt
  · rw [el, eh]; exact B.lex
  · rw [el, eh]
    refine B.stat.keeps fun b o e => ?_
    have n := hide_out e
    exact hideAll_get _ (hideAll_get _ (of_hideAll _ e) fun m => n (List.mem_append_right _ m)) fun m => n (List.mem_append_left _ m)
  · intro x y c hx hy hc hne
    have own : ∀ z, Ci.env.cells.lookup z = some c → (z, c) ∈ cellsFrom (Cl + 1) scope.names [] := fun z hz => by
      rw [ecells, List.lookup_append] at hz
      cases e : (cellsFrom (Cl + 1) scope.names []).lookup z with
      | some d => rw [e] at hz; cases hz; exact mem_of_lookup e
      | none =>
        rw [e] at hz
        obtain ⟨a, ⟨v, b⟩, d⟩ := sn.clo hz
        obtain ⟨c', v', c1, ⟨o, c2, _⟩, _⟩ := H.cell z v b d
        rw [a] at c1; cases c1
        rw [fresh c hc] at c2; cases c2
    exact name_of_addr hap (own x hx) (own y hy)
  · rw [eh]
    refine hide_mono fun b o n e => ⟨le b o e, fun m => ?_⟩
    change b ∈ 89 :: (Ci.own ++ keys σ.mu) at m
    rcases List.mem_cons.mp m with m | m
    · exact n (m ▸ .head _)
    · rcases List.mem_append.mp m with m | m
      · rw [fresh b m] at e; cases e
      · exact n (.tail _ m)
  · have bn := B.nodup
    show (89 :: (Ci.own ++ keys σ.mu)).Nodup
    rw [List.nodup_cons] at bn ⊢
    rw [List.nodup_append]
    have live : ∀ a ∈ 89 :: keys σ.mu, ∃ o, h2.get? a = some o := fun a ha => by
      rcases List.mem_cons.mp ha with rfl | ha
      · obtain ⟨ps, e, _⟩ := H.tab; exact ⟨_, e⟩
      · obtain ⟨p, hp, rfl⟩ := List.mem_map.mp ha
        obtain ⟨i, n, e, _⟩ := H.mus p hp; exact ⟨_, e⟩
    refine ⟨fun m => ?_, ?_, bn.2, fun a ha b hb q => ?_⟩
    · rcases List.mem_append.mp m with m | m
      · obtain ⟨o, e⟩ := live 89 (.head _)
        rw [fresh _ m] at e; cases e
      · exact bn.1 m
    · rw [eown, List.nodup_cons]
      refine ⟨fun m => ?_, ?_⟩
      · obtain ⟨p, hp, e⟩ := List.mem_map.mp m
        exact absurd e (Nat.ne_of_gt (hcells p hp).2.2)
      · rw [List.Nodup, List.pairwise_map]; exact hap
    · obtain ⟨o, e⟩ := live b (.tail _ hb)
      rw [← q, fresh a ha] at e; cases e
  · exact H.tab.keeps (l := []) (fun b o _ e => le b o e) (by simp) (by simp)
  · refine ⟨_, by rw [elocs]; exact hn, fun x v e1 e2 => ?_⟩
    obtain ⟨c, _, _, _, _, h5, _⟩ := sn.loc e1
    rw [eenv] at e2
    exact absurd e2 h5
  · intro x v e1 e2
    obtain ⟨c, h1, h2', h3, h4', h5, h6⟩ := sn.loc e1
    obtain ⟨c', v', c1, c2, c3⟩ := H.cell x v h3 h4'
    rw [h2'] at c1; cases c1
    refine ⟨c, v', ?_, c2.keeps le, c3.keeps leH⟩
    have hnone : (cellsFrom (Cl + 1) scope.names []).lookup x = none := by
      cases e : (cellsFrom (Cl + 1) scope.names []).lookup x with
      | none => rfl
      | some d =>
        refine absurd ?_ h6
        rw [cellsFrom_names scope.names 0 (Cl + 1) [] [] rfl]
        exact List.mem_map_of_mem (f := fun p : Str × Addr => p.1) (mem_of_lookup e)
    rw [ecells, List.lookup_append, hnone]
    exact h1
  · intro c hc hne
    rw [eown] at hc
    rcases List.mem_cons.mp hc with q | hc
    · exact absurd (q.trans elocs.symm) hne
    · obtain ⟨p, hp, rfl⟩ := List.mem_map.mp hc
      exact let ⟨o, e, d⟩ := (hcells p hp).1; ⟨_, o, e, .inl ⟨d, by rw [ecells, List.map_append]; exact List.mem_append_left _ (List.mem_map_of_mem (f := fun p : Str × Addr => p.2) hp)⟩⟩
  · intro p hp
    obtain ⟨i, n, e, lx⟩ := H.mus p hp
    exact ⟨i, n, le _ _ e, lx.keeps leH⟩

theorem Hold.outer {h2 hh h : Heap} {cl : List (Str × Addr)} {Cl D : Addr} {σi : St} {its : Array Value} {n : Nat} {ds : List PyData} (s0 : Shared) (hC : ActOk W C) (H : Hold C σ h2)
    (hCi : ActOk W (innerAct C scope cl Cl (hideAll h2 (89 :: keys σ.mu)) (C.l ++ (C.own ++ keys []))))
    (Hi : Hold (innerAct C scope cl Cl (hideAll h2 (89 :: keys σ.mu)) (C.l ++ (C.own ++ keys []))) σi hh) (le : Le hh h) (hD : hh.get? D = none) (hD2 : h.get? D = some (listOf its n))
    (hDl : LayVs (G (innerAct C scope cl Cl (hideAll h2 (89 :: keys σ.mu)) (C.l ++ (C.own ++ keys []))) σi hh) its.toList (ds.map V.dat)) :
    Hold C ⟨σ.loc, (D, ds.map V.dat) :: σi.mu⟩ (hideAll h [Cl]) ∧ Le (G C σ h2) (G C ⟨σ.loc, (D, ds.map V.dat) :: σi.mu⟩ (hideAll h [Cl])) := by
  generalize hCie : innerAct C scope cl Cl (hideAll h2 (89 :: keys σ.mu)) (C.l ++ (C.own ++ keys [])) = Ci at *
  have eown : Ci.own = Cl :: (cellsFrom (Cl + 1) scope.names []).map (·.2) := by rw [← hCie]; rfl
  have elocs : Ci.env.locals = Cl := by rw [← hCie]; rfl
  have el : Ci.l = C.l ++ (C.own ++ keys []) := by rw [← hCie]; rfl
  have eh : Ci.h₀ = hideAll h2 (89 :: keys σ.mu) := by rw [← hCie]; rfl
  have hClo : Cl ∈ Ci.own := by rw [eown]; exact .head _
  have nd := Hi.nodup
  unfold hid at nd
  rw [List.nodup_cons, List.nodup_append] at nd
  obtain ⟨m, hns, _⟩ := Hi.ns
  rw [elocs] at hns
  have hClive : ∃ o, hh.get? Cl = some o := let ⟨o, es, ep, e, _⟩ := hns; ⟨o, e⟩
  have hDC : D ≠ Cl := fun q => by obtain ⟨o, e⟩ := hClive; rw [← q, hD] at e; cases e
  have up : ∀ b o, b ∉ hid Ci σi.mu → hh.get? b = some o → (hideAll h [Cl]).get? b = some o ∧ b ∉ 89 :: keys ((D, ds.map V.dat) :: σi.mu) := fun b o nb e => by
    have nb' : b ∉ 89 :: (Ci.own ++ keys σi.mu) := nb
    simp only [List.mem_cons, List.mem_append, not_or] at nb'
    refine ⟨hideAll_get _ (le b o e) fun q => nb'.2.1 (List.mem_singleton.mp q ▸ hClo), fun q => ?_⟩
    rcases List.mem_cons.mp q with q | q
    · exact nb'.1 q
    · rcases List.mem_cons.mp q with q | q
      · change b = D at q; rw [q, hD] at e; cases e
      · exact nb'.2.2 q
  have leG : Le (G Ci σi hh) (hideAll (hideAll h [Cl]) ((C.l ++ (C.own ++ keys [])) ++ 89 :: keys ((D, ds.map V.dat) :: σi.mu))) := hide_mono fun b o nb e => by
    change b ∉ Ci.l ++ hid Ci σi.mu at nb
    rw [el, List.mem_append, not_or] at nb
    obtain ⟨a, c⟩ := up b o nb.2 e
    exact ⟨a, fun q => (List.mem_append.mp q).elim nb.1 c⟩
  have le1 : Le (hideAll h2 (89 :: keys σ.mu)) (hideAll (hideAll h [Cl]) (89 :: keys ((D, ds.map V.dat) :: σi.mu))) := by
    rw [← eh]
    exact Hi.keep.trans (hide_mono fun b o nb e => up b o nb e)
  have B : Base W (hideAll h [Cl]) (C.l ++ (C.own ++ keys [])) ((D, ds.map V.dat) :: σi.mu) := by
    refine ⟨(Hi.stat hCi).keeps leG, ?_, ?_, fun a ha => ?_, fun p hp => ?_⟩
    · refine Hi.tab.keeps (l := [Cl]) (fun b o nb e => hideAll_get _ (le b o e) nb) (fun q => ?_) fun a ha o vs e => ?_
      · exact nd.1 (List.mem_append_left _ (List.mem_singleton.mp q ▸ hClo))
      · rw [List.mem_singleton.mp ha] at e; exact ns_no_fields hns o vs e
    · refine List.nodup_cons.mpr ⟨fun q => ?_, List.nodup_cons.mpr ⟨fun q => ?_, nd.2.2.1⟩⟩
      · rcases List.mem_cons.mp q with q | q
        · obtain ⟨ps, e, _⟩ := Hi.tab
          change 89 = D at q
          rw [q, hD] at e; cases e
        · exact nd.1 (List.mem_append_right _ q)
      · obtain ⟨p, hp, e⟩ := List.mem_map.mp q
        obtain ⟨i, n, e', _⟩ := Hi.mus p hp
        change p.1 = D at e
        rw [e, hD] at e'; cases e'
    · rw [← el] at ha
      obtain ⟨o, e⟩ := hCi.lex a ha
      have e1 := Hi.keep a o e
      obtain ⟨x, y⟩ := up a o (hide_out e1) (of_hideAll _ e1)
      exact ⟨o, hideAll_get _ x y⟩
    · rcases List.mem_cons.mp hp with rfl | hp
      · exact ⟨its, n, hideAll_get _ hD2 (by simpa using hDC), hDl.keeps leG⟩
      · obtain ⟨i, n, e, lx⟩ := Hi.mus p hp
        refine ⟨i, n, hideAll_get _ (le _ _ e) fun q => ?_, lx.keeps leG⟩
        exact nd.2.2.2 Cl hClo p.1 (List.mem_map_of_mem hp) (List.mem_singleton.mp q).symm
  have := H.ofRet (s := { s0 with heap := h2 }) (s' := { s0 with heap := hideAll h [Cl] }) (rest := []) (mu := σ.mu) (mu' := (D, ds.map V.dat) :: σi.mu) (v := .ref D) (x := .ref D) hC rfl B le1 rfl
  exact ⟨this.1, this.2.1⟩
end

end Mine
namespace Mine

section
variable {M : Model} {A : Around} {E : Value → Shared → Prop} {s : Shared}
theorem newEnv_comp {scope : Scope} {globals : Addr} {cl : List (Str × Addr)} {qual : Str} {outer : Env} {Q : Env → Shared → Prop}
    (hQ : ∀ h4, (∀ b o, s.heap.get? b = some o → h4.get? b = some o) → h4.Ns s.heap.objs.size (fun _ => none) → (∀ p ∈ cellsFrom (s.heap.objs.size + 1) scope.names [], h4.IsCell p.2 none ∧ s.heap.objs.size < p.2) →
      ((cellsFrom (s.heap.objs.size + 1) scope.names []).Pairwise fun x y => x.2 ≠ y.2) →
      Q { scope, locals := s.heap.objs.size, globals, cells := cellsFrom (s.heap.objs.size + 1) scope.names cl, qual, func := none, code := outer.code, frame := outer.frame, builtins := outer.builtins } { s with heap := h4 }) :
    wpAny M A (newFunctionEnv scope globals cl [] qual none .none (some outer)) Q E s := by
  simp only [newFunctionEnv, Option.isSome_some, if_true]
  refine wpAny_bind (wpAny_alloc ?_)
  refine wpAny_bind (wpAny_layCells _ (fun name kind cells => by cases hkc : kind == NameKind.cell <;> simp [hkc]) _ _ _ _ ?_)
  have ok := cellsFrom_ok scope.names (s.heap.push { cls := .type "dict", data := .dict #[] }) (s.heap.objs.size + 1) [] ⟨fun _ _ hm => (nomatch hm), List.Pairwise.nil⟩ (by rw [Heap.size_push]; exact Nat.le_refl _)
  rw [Heap.size_push] at ok
  rw [show ({ s with heap := s.heap.push { cls := .type "dict", data := .dict #[] } } : Shared).heap.objs.size = s.heap.objs.size + 1 from Heap.size_push ..]
  refine wpAny_bind ?_
  rw [List.forIn_nil]
  refine wpAny_pure (wpAny_pure (hQ _ (fun b o e => pushCells_keeps _ _ b o (Heap.get?_push_of_some _ e)) ((Heap.Ns.new s.heap (.type "dict")).keeps (pushCells_keeps _ _)) (fun p hp => ok.empty p.1 p.2 hp) ok.apart))

theorem codeAny_compLoop_my {prog : Program} {w : World} {R : Result → Shared → Prop} {elt iter target : Expr} {ifs : List Expr} {scope : Scope} {pos : Pos} {it acc : Value} {env : Env} (I : Nat → Shared → Prop)
    (turn : ∀ n s, I n s → wpAny (model prog w) A (pyNext it) (fun r s₁ => match r with
      | none => R (.ok .next) s₁
      | some v => wpAny (model prog w) A (letOwnedTupleGo target it v) (fun _ s₁' => wpAny (model prog w) A (assign target env v) (fun _ s₂ =>
          wpAny (model prog w) A (forIn ifs true fun c r => if r = true then do let ok ← isTrue c env (eval c env); pure (ForInStep.yield ok) else pure (ForInStep.yield r)) (fun ok s₃ =>
            if ok = true then wpAny (model prog w) A (eval elt env) (fun x s₄ =>
              wpAny (model prog w) A (call (.builtin "list.append") [acc, x]) (fun _ s₅ => ∃ m, m < n ∧ I m s₅) NoE s₄) NoE s₃
            else ∃ m, m < n ∧ I m s₃) NoE s₂) NoE s₁') NoE s₁) NoE s)
    (n : Nat) (h : I n s) : codeAny (model prog w) A (.compLoop (.ListComp elt [⟨target, iter, ifs, 0⟩] scope pos) 0 it acc env) R s := by
  refine codeAny_loop rfl I (fun n s hI => ?_) n h
  show wpAny _ A ((compTurn (.ListComp elt [⟨target, iter, ifs, 0⟩] scope pos) 0 it acc env).onRaise (fun x => do noteFrame x env; theTreesLotGoes x)) _ _ s
  refine wpAny_noted ?_
  rw [compTurn_list]
  refine wpAny_bind (wpAny_standAt (wpAny_bind (wpAny_mono (turn n s hI) (fun r s₁ h₁ => ?_) fun _ _ e => e.elim)))
  cases r with
  | none => exact wpAny_pure h₁
  | some v =>
    refine wpAny_bind (wpAny_mono h₁ (fun _ s₁' h₁' => ?_) fun _ _ e => e.elim)
    refine wpAny_bind (wpAny_mono h₁' (fun _ s₂ h₂ => wpAny_bind (wpAny_mono h₂ (fun ok s₃ h₃ => ?_) fun _ _ e => e.elim)) fun _ _ e => e.elim)
    cases ok with
    | false => exact wpAny_pure ⟨rfl, h₃⟩
    | true => exact wpAny_bind (wpAny_bind (wpAny_mono h₃ (fun x s₄ h₄ => wpAny_bind (wpAny_mono h₄ (fun _ s₅ h₅ => wpAny_pure (wpAny_pure ⟨rfl, h₅⟩)) fun _ _ e => e.elim)) fun _ _ e => e.elim))
end

/-- the tests of a comprehension -/
noncomputable def WTs (W : Wd) (A : Around) (C : Act) : List Expr → St → (Bool → St → Prop) → Prop
  | [], σ, k => k true σ
  | [c], σ, k => WT W A C c σ k
  | _, _, _ => False
/-- what is to be shown of a comprehension's turns -/
noncomputable def CompW (W : Wd) (A : Around) (C : Act) (t : Expr) (ifs : List Expr) (elt : Expr) (k : List PyData → St → Prop) : List PyData → List PyData → St → Prop
  | [], acc, σ => k acc σ
  | x :: xs, acc, σ => ∀ h₀ l, ActOk W (C.at h₀ l) → WA W A (C.at h₀ l) t (.dat x) σ fun σ1 => WTs W A (C.at h₀ l) ifs σ1 fun b σ2 => (b = false → CompW W A C t ifs elt k xs acc σ2) ∧
      (b = true → WE W A (C.at h₀ l) elt σ2 fun y σ3 => ∃ d, y = .dat d ∧ CompW W A C t ifs elt k xs (acc ++ [d]) σ3)

section
variable {W : Wd} {A : Around} {C : Act} {σ : St} {k : V → St → Prop} {E : Value → Shared → Prop} {kf : Fl → St → Prop} {scope : Scope}

theorem WTs.run {ifs : List Expr} {kb : Bool → St → Prop} {s : Shared} (h : WTs W A C ifs σ kb) (H : Hold C σ s.heap) :
    wpAny W.M A (forIn ifs true fun c r => if r = true then do let ok ← isTrue c C.env (eval c C.env); pure (ForInStep.yield ok) else pure (ForInStep.yield r)) (PostB C σ s kb) NoE s := by
  match ifs, h with
  | [], h => exact wpAny_tests_nil ⟨σ, h, Sm.refl _, H, Le.refl _⟩
  | [c], h => exact wpAny_tests_one (h s H)
  | _ :: _ :: _, h => exact h.elim

theorem hideAll_in {h : Heap} {l l' : List Addr} {a : Addr} {o : Obj} (e : (hideAll h l).get? a = some o) (n : a ∉ l') : (hideAll h l').get? a = some o := hideAll_get _ (of_hideAll _ e) n

/-- what a comprehension's loop finds -/
theorem WE.comp_core {t it elt : Expr} {ifs : List Expr} {pos : Pos} {cl : List (Str × Addr)} {locI : List (Str × V)} {s s2 : Shared} {I : Addr} {fp wr : List Addr} {xs : List PyData} {St' : Nat → Heap → Prop} {Kp : Heap → Prop} {σ1 : St}
    {kc : List PyData → St → Prop} {RR : Value → Addr → Result → Shared → Prop}
    (hC : ActOk W C) (IT : Itr W A t I fp wr xs St' Kp) (st : St' 0 s2.heap) (sm : Sm s s2) (N : In W C wr σ1 s2.heap) (lv : Live C wr σ1 s2.heap) (kp : Kp (hideAll s2.heap (wr ++ hidl C σ1.mu)))
    (hfp : ∀ b ∈ fp, ∃ o, (hideAll s2.heap (hid C σ1.mu)).get? b = some o)
    (hk : scope.kind = .function) (hlen : xs.length ≤ 1000000) (sn : Seen C scope σ1 cl locI)
    (hc : ∀ Cl h₀ l, ActOk W (innerAct C scope cl Cl h₀ l) → CompW W A (innerAct C scope cl Cl h₀ l) t ifs elt kc xs [] ⟨locI, σ1.mu⟩)
    (hRR : ∀ D Cl ds σi s4, kc ds σi → Sm s s4 → Hold C ⟨σ1.loc, (D, ds.map V.dat) :: σi.mu⟩ (hideAll s4.heap [Cl]) → Le (G C σ1 (hideAll s2.heap wr)) (G C ⟨σ1.loc, (D, ds.map V.dat) :: σi.mu⟩ (hideAll s4.heap [Cl])) →
      (∃ m, s4.heap.Ns Cl m) → Cl ∉ hid C ((D, ds.map V.dat) :: σi.mu) → RR (.ref D) Cl (.ok .next) s4) :
    wpAny W.M A (newList []) (fun acc s₃ => wpAny W.M A (newFunctionEnv scope C.env.globals cl [] C.env.qual none .none (some C.env)) (fun cenv s₄ =>
      codeAny W.M A (.compStart (.ListComp elt [⟨t, it, ifs, 0⟩] scope pos) 0 (.ref I) acc { cenv with scope := relabel scope C.env }) (RR acc cenv.locals) s₄) E s₃) E s2 := by
  refine wpAny_newObj_type (newEnv_comp fun h4 keep4 ns4 cells4 ap4 => ?_)
  dsimp only at keep4 ns4 cells4 ap4 ⊢
  generalize hD : s2.heap.objs.size = D at *
  have hCl : (s2.heap.push { cls := .type "list", dict := none, data := .seq ([] : List Value).toArray }).objs.size = D + 1 := by rw [Heap.size_push, hD]
  rw [hCl] at ns4 cells4 ap4 ⊢
  generalize hClg : D + 1 = Cl at *
  have hDCl : D ≠ Cl := by rw [← hClg]; exact Nat.ne_of_lt (Nat.lt_succ_self _)
  have keep2 : Le s2.heap h4 := fun b o e => keep4 b o (Heap.get?_push_of_some _ e)
  have hDg : h4.get? D = some (listOf #[] 0) := keep4 _ _ (hD ▸ Heap.get?_push_size _ rfl)
  have fresh : ∀ a, D ≤ a → s2.heap.get? a = none := fun a ha => by
    cases e : s2.heap.get? a with
    | none => rfl
    | some o' => exact absurd (Heap.lt_size e) (by rw [hD]; exact Nat.not_lt.mpr ha)
  have hDle : D ≤ Cl := by rw [← hClg]; exact Nat.le_succ _
  have hH : Hold C σ1 (hideAll s2.heap wr) := N.hidden hC lv (IT.live _ _ st)
  have leH : Le (hideAll s2.heap wr) (hideAll h4 (D :: wr)) := hide_mono fun b o n e => ⟨keep2 b o e, fun m => (List.mem_cons.mp m).elim (fun q => by rw [q, fresh D (Nat.le_refl _)] at e; cases e) n⟩
  have ClW : Cl ∉ D :: wr := fun m => (List.mem_cons.mp m).elim (fun q => hDCl q.symm) fun q => by
    obtain ⟨o, e⟩ := lv Cl q
    have := of_hideAll _ e
    rw [fresh Cl hDle] at this; cases this
  have wrD : ∀ b ∈ wr, b < D := fun b hb => by obtain ⟨o, e⟩ := lv b hb; rw [← hD]; exact Heap.lt_size (of_hideAll _ e)
  have ownCl : ∀ b, b = Cl ∨ b ∈ (cellsFrom (Cl + 1) scope.names []).map (·.2) → Cl ≤ b := fun b hb => hb.elim (fun q => Nat.le_of_eq q.symm) fun q => by
    obtain ⟨p, hp, rfl⟩ := List.mem_map.mp q
    exact Nat.le_of_lt (cells4 p hp).2
  have outC : ∀ b, Cl ≤ b → b ∉ D :: wr := fun b hb m => (List.mem_cons.mp m).elim (fun q => by subst q; exact hDCl (Nat.le_antisymm hDle hb)) fun q => Nat.lt_irrefl _ (Nat.lt_of_lt_of_le (wrD b q) (Nat.le_trans hDle hb))
  obtain ⟨hCi, Hi, leI⟩ := hH.inner (h4 := hideAll h4 (D :: wr)) (Cl := Cl) (locI := locI) hC sn hk leH
    (let ⟨o, es, ep, e, r⟩ := ns4; ⟨o, es, ep, hideAll_get _ e ClW, r⟩)
    (by cases e : (hideAll s2.heap wr).get? Cl with
        | none => rfl
        | some o => have := of_hideAll _ e; rw [fresh Cl hDle] at this; cases this)
    (fun p hp => ⟨let ⟨o, e, d⟩ := (cells4 p hp).1; ⟨o, hideAll_get _ e (outC _ (Nat.le_of_lt (cells4 p hp).2)), d⟩, (by
        cases e : (hideAll s2.heap wr).get? p.2 with
        | none => rfl
        | some o => have := of_hideAll _ e; rw [fresh p.2 (Nat.le_trans hDle (Nat.le_of_lt (cells4 p hp).2))] at this; cases this), (cells4 p hp).2⟩) ap4
  have hcw := hc Cl _ _ hCi
  generalize hCie : innerAct C scope cl Cl (hideAll (hideAll s2.heap wr) (89 :: keys σ1.mu)) (C.l ++ (C.own ++ keys [])) = Ci at *
  have eenv : Ci.env = { scope := relabel scope C.env, locals := Cl, globals := C.env.globals, cells := cellsFrom (Cl + 1) scope.names cl, qual := C.env.qual, func := none, code := C.env.code, frame := C.env.frame, builtins := C.env.builtins } := by rw [← hCie]; rfl
  have eown : Ci.own = Cl :: (cellsFrom (Cl + 1) scope.names []).map (·.2) := by rw [← hCie]; rfl
  have el : Ci.l = C.l ++ (C.own ++ keys []) := by rw [← hCie]; rfl
  rw [← eenv]
  -- the loop
  have N0 : In W Ci (D :: wr) ⟨locI, σ1.mu⟩ h4 := In.of_hidden Hi
  have hidsub : ∀ b, b ∉ hid C σ1.mu → b < Cl → b ∉ hid Ci σ1.mu := fun b n q m => by
    rcases List.mem_cons.mp m with m | m
    · exact n (m ▸ .head _)
    · rcases List.mem_append.mp m with m | m
      · rw [eown] at m
        exact Nat.lt_irrefl _ (Nat.lt_of_lt_of_le q (ownCl b (List.mem_cons.mp m)))
      · exact n (.tail _ (List.mem_append_right _ m))
  have liveOld : ∀ b o, (hideAll s2.heap (hid C σ1.mu)).get? b = some o → (hideAll h4 (hid Ci σ1.mu)).get? b = some o := fun b o e =>
    hideAll_get _ (keep2 _ _ (of_hideAll _ e)) (hidsub b (hide_out e) (Nat.lt_of_lt_of_le (Nat.lt_of_lt_of_eq (Heap.lt_size (of_hideAll _ e)) hD) hDle))
  have Dhid : D ∉ hid C σ1.mu := fun m => Nat.lt_irrefl D (Nat.lt_of_lt_of_eq (N.out.1.lt hC D (List.mem_append_right _ m)) hD)
  have lv0 : Live Ci (D :: wr) ⟨locI, σ1.mu⟩ h4 := fun b hb => by
    rcases List.mem_cons.mp hb with rfl | hb
    · exact ⟨_, hideAll_get _ hDg (hidsub _ Dhid (by rw [← hClg]; exact Nat.lt_succ_self _))⟩
    · obtain ⟨o, e⟩ := lv b hb; exact ⟨o, liveOld b o e⟩
  have gE : ∀ h (mu : Mu), hideAll (hideAll h (D :: wr)) (hidl Ci mu) = hideAll h ((D :: wr) ++ hidl Ci mu) := fun h mu => (hideAll_append _ _ _).symm
  have kp0 : Kp (hideAll h4 ((D :: wr) ++ hidl Ci σ1.mu)) := by
    refine IT.kpm _ _ ?_ kp
    rw [hideAll_append, ← gE]; exact leI
  have fpD : ∀ b ∈ fp, b ≠ D := fun b hb q => by obtain ⟨o, e⟩ := hfp b hb; have := of_hideAll _ e; rw [q, fresh D (Nat.le_refl _)] at this; cases this
  have wD : D ∉ wr := fun q => Nat.lt_irrefl _ (wrD D q)
  have st4 : St' 0 h4 := IT.frame _ _ _ st fun b hb o e => keep2 b o e
  suffices loop : ∀ s0 : Shared, s0 = { s2 with heap := h4 } → codeAny W.M A (.compLoop (.ListComp elt [⟨t, it, ifs, 0⟩] scope pos) 0 (.ref I) (.ref D) Ci.env) (RR (.ref D) Cl) s0 from
    codeAny_compStart_list (loop _ rfl) (wpAny_mono (IT.self 0 { s2 with heap := h4 } (fun it' s' => it' = .ref I ∧ s' = { s2 with heap := h4 }) st4 ⟨rfl, rfl⟩) (fun it' s' ⟨e1, e2⟩ => by subst e1; exact loop s' e2) fun _ _ e => e.elim)
  · rintro s0 rfl
    refine codeAny_compLoop_my
      (fun n s' => Ex5 fun i acc σi ys nn => A12 (n = xs.length + 1 - i) (i ≤ xs.length) (acc.length ≤ i) (CompW W A Ci t ifs elt kc (xs.drop i) acc σi) (St' i s'.heap) (Sm s s') (In W Ci (D :: wr) σi s'.heap) (Live Ci (D :: wr) σi s'.heap) (s'.heap.get? D = some (listOf ys nn)) (LayVs (hideAll s'.heap ((D :: wr) ++ hidl Ci σi.mu)) ys.toList (acc.map V.dat)) (Kp (hideAll s'.heap ((D :: wr) ++ hidl Ci σi.mu))) (∀ b ∈ fp, ∃ o, (hideAll s'.heap (hid Ci σi.mu)).get? b = some o)) ?_ (xs.length + 1)
      ⟨0, [], _, _, _, rfl, Nat.zero_le _, Nat.le_refl _, by simpa using hcw, st4, sm.trans ⟨_, _, rfl⟩, N0, lv0, hDg, .nil, kp0, fun b hb => let ⟨o, e⟩ := hfp b hb; ⟨o, liveOld b o e⟩⟩
    rintro n s3 ⟨i, acc, σi, ys, nn, rfl, hi, ha, hl, sti, sm3, Ni, lvi, hDi, ldi, kpi, hfpi⟩
    have hcci : ∀ b ∈ D :: wr, ∃ o, s3.heap.get? b = some o ∧ NotCC o := fun b hb => by
      rcases List.mem_cons.mp hb with rfl | hb
      · exact ⟨_, hDi, NotCC.seq rfl⟩
      · exact IT.live _ _ sti b hb
    have hlt : ∀ a ∈ (D :: wr) ++ hidl Ci σi.mu, a < s3.heap.objs.size := fun a ha => (List.mem_append.mp ha).elim (fun ha => let ⟨o, e, _⟩ := hcci a ha; Heap.lt_size e) fun q => Ni.out.1.lt hCi a q
    by_cases hlast : i = xs.length
    · subst hlast
      refine wpAny_mono (IT.done s3 sti) (fun r s4 hqq => ?_) fun _ _ e => e.elim
      obtain ⟨er, sm4, k4⟩ := hqq
      subst er
      have hD4 : s4.heap.get? D = some (listOf ys nn) := k4 _ _ wD hDi
      obtain ⟨N4, le4⟩ := Ni.next (s' := { s4 with heap := hideAll s4.heap (D :: wr) }) hCi lvi (fun b o n e => hideAll_get _ (k4 b o (fun q => n (.tail _ q)) e) n) hcci
      have Hi4 := N4.out.1
      have le5 : Le (hideAll s3.heap ((D :: wr) ++ hidl Ci σi.mu)) (G Ci σi (hideAll s4.heap (D :: wr))) := le4.trans N4.out.2
      subst hCie
      obtain ⟨Ho, leo⟩ := hH.outer (h := s4.heap) (D := D) (n := nn) s4 hC hCi Hi4 hide_le (hideAll_none _ (.head _)) hD4 (ldi.keeps le5)
      rw [List.drop_length] at hl
      have nd := Hi4.nodup
      unfold hid at nd
      rw [List.nodup_cons, List.nodup_append] at nd
      refine hRR D Cl acc σi s4 hl (sm3.trans sm4) Ho leo ?_ fun m => ?_
      · obtain ⟨m, hm, _⟩ := Hi4.ns
        exact ⟨m, hm.keeps hide_le⟩
      · have ClO : Cl ∈ (innerAct C scope cl Cl (hideAll (hideAll s2.heap wr) (89 :: keys σ1.mu)) (C.l ++ (C.own ++ keys []))).own := .head _
        rcases List.mem_cons.mp m with m | m
        · exact nd.1 (List.mem_append_left _ (m ▸ ClO))
        · rcases List.mem_append.mp m with m | m
          · have := N.out.1.lt hC Cl (List.mem_append_right _ (.tail _ (List.mem_append_left _ m)))
            rw [hD] at this
            exact Nat.lt_irrefl _ (Nat.lt_of_lt_of_le this hDle)
          · rcases List.mem_cons.mp m with m | m
            · exact hDCl m.symm
            · exact nd.2.2.2 Cl ClO Cl m rfl
    · have hlt' : i < xs.length := by lia
      have hx : xs[i]? = some xs[i] := List.getElem?_eq_getElem hlt'
      refine wpAny_mono (IT.item i s3 _ xs[i] hlt (fun b hb => List.mem_append_left _ (.tail _ hb)) hx sti kpi) (fun r s4 hqq => ?_) fun _ _ e => e.elim
      obtain ⟨v, er, h4⟩ := hqq
      subst er
      refine wpAny_mono h4 (fun _ s5 hqq => ?_) fun _ _ e => e.elim
      obtain ⟨sm5, k5, st5, rd5⟩ := hqq
      obtain ⟨N5, le5⟩ := Ni.next hCi lvi (fun b o n e => k5 b o (fun q => n (.tail _ q)) e) hcci
      have hD5 : s5.heap.get? D = some (listOf ys nn) := k5 _ _ wD hDi
      have lv5 : Live Ci (D :: wr) σi s5.heap := fun b hb => by
        obtain ⟨o', e'⟩ := lvi b hb
        rcases List.mem_cons.mp hb with rfl | hb
        · exact ⟨_, hideAll_get _ hD5 (hide_out e')⟩
        · obtain ⟨o, e, _⟩ := IT.live _ _ st5 b hb
          exact ⟨o, hideAll_get _ e (hide_out e')⟩
      rw [List.drop_eq_getElem_cons hlt'] at hl
      have hCt := N5.act hCi lv5
      have hfp5 : ∀ b ∈ fp, ∀ o, s5.heap.get? b = some o → (hideAll s5.heap (hid Ci σi.mu)).get? b = some o := fun b hb o e => by
        obtain ⟨o', e'⟩ := hfpi b hb
        exact hideAll_get _ e (hide_out e')
      -- what is so behind the turn's own steps
      have after : ∀ (s7 : Shared) (σ7 : St), Hold (Ci.at (hideAll s5.heap (hid Ci σi.mu)) ((D :: wr) ++ Ci.l)) σ7 s7.heap → Le (G (Ci.at (hideAll s5.heap (hid Ci σi.mu)) ((D :: wr) ++ Ci.l)) σi s5.heap) (G (Ci.at (hideAll s5.heap (hid Ci σi.mu)) ((D :: wr) ++ Ci.l)) σ7 s7.heap) →
          In W Ci (D :: wr) σ7 s7.heap ∧ Live Ci (D :: wr) σ7 s7.heap ∧ Le (hideAll s3.heap ((D :: wr) ++ hidl Ci σi.mu)) (hideAll s7.heap ((D :: wr) ++ hidl Ci σ7.mu)) ∧ s7.heap.get? D = some (listOf ys nn) ∧ St' (i + 1) s7.heap ∧ ∀ b ∈ fp, ∃ o, (hideAll s7.heap (hid Ci σ7.mu)).get? b = some o := fun s7 σ7 H7 le7 => by
        refine ⟨N5.turn hCi H7, fun b hb => let ⟨o, e⟩ := lv5 b hb; ⟨o, H7.keep b o e⟩, le5.trans ?_, ?_, IT.frame _ _ _ st5 fun b hb o e => of_hideAll _ (H7.keep b o (hfp5 b hb o e)), fun b hb => ?_⟩
        · rw [In.g] at le7
          have e : hideAll s7.heap ((D :: wr) ++ hidl Ci σ7.mu) = hideAll s7.heap (((D :: wr) ++ Ci.l) ++ hid Ci σ7.mu) := by
            unfold hidl; rw [List.append_assoc]
          rw [e]; exact le7
        · obtain ⟨o, e⟩ := lv5 D (.head _)
          have e1 := of_hideAll _ e
          rw [hD5] at e1; cases e1
          exact of_hideAll _ (H7.keep D _ e)
        · by_cases q : b ∈ wr
          · obtain ⟨o, e⟩ := lv5 b (.tail _ q); exact ⟨o, H7.keep b o e⟩
          · obtain ⟨o', e'⟩ := hfpi b hb
            exact ⟨o', H7.keep b o' (hfp5 b hb o' (k5 b o' q (of_hideAll _ e')))⟩
      refine wpAny_mono (hl _ _ hCt s5 v N5.hold (by rw [In.g]; exact rd5)) (fun _ s6 hqq => ?_) fun _ _ e => e.elim
      obtain ⟨σ6, hb, sm6, H6, le6⟩ := hqq
      refine wpAny_mono (hb.run H6) (fun ok s7 hqq => ?_) fun _ _ e => e.elim
      obtain ⟨σ7, ⟨hf, ht⟩, sm7, H7, le7⟩ := hqq
      cases ok with
      | false =>
        rw [if_neg Bool.false_ne_true]
        obtain ⟨N7, lv7, leA, D7, st7, fp7⟩ := after s7 σ7 H7 (le6.trans le7)
        exact ⟨_, by lia, i + 1, acc, σ7, ys, nn, rfl, hlt', Nat.le_succ_of_le ha, hf rfl, st7, sm3.trans (sm5.trans (sm6.trans sm7)), N7, lv7, D7, ldi.keeps leA, IT.kpm _ _ leA kpi, fp7⟩
      | true =>
        rw [if_pos rfl]
        refine wpAny_mono (ht rfl s7 H7) (fun y s8 hqq => ?_) fun _ _ e => e.elim
        obtain ⟨yv, σ8, ⟨d, ey, hn⟩, sm8, H8, le8, l8⟩ := hqq
        subst ey
        obtain ⟨N8, lv8, leA, D8, st8, fp8⟩ := after s8 σ8 H8 (le6.trans (le7.trans le8))
        have ldy := ldi.keeps leA
        have hysz : ys.size = acc.length := by rw [← Array.length_toList, ldi.len, List.length_map]
        refine append_at (its := ys) (n := nn) D8 (fun h9 hs9 hg9 => ?_) (Nat.le_trans (by rw [hysz]; lia : ys.size ≤ 1000000) (by decide))
        have hcc8 : ∀ b ∈ D :: wr, ∃ o, s8.heap.get? b = some o ∧ NotCC o := fun b hb => by
          rcases List.mem_cons.mp hb with rfl | hb
          · exact ⟨_, D8, NotCC.seq rfl⟩
          · exact IT.live _ _ st8 b hb
        have k9 : ∀ b o, b ≠ D → s8.heap.get? b = some o → h9.get? b = some o := fun b o n e => (hs9.2 b n).trans e
        obtain ⟨N9, le9⟩ := N8.next (s' := { s8 with heap := h9 }) hCi lv8 (fun b o n e => k9 b o (fun q => n (q ▸ .head _)) e) hcc8
        have lv9 : Live Ci (D :: wr) σ8 h9 := fun b hb => by
          obtain ⟨o', e'⟩ := lv8 b hb
          rcases List.mem_cons.mp hb with rfl | hb
          · exact ⟨_, hideAll_get _ hg9 (hide_out e')⟩
          · exact ⟨o', hideAll_get _ (k9 b o' (fun q => wD (q ▸ hb)) (of_hideAll _ e')) (hide_out e')⟩
        refine ⟨xs.length + 1 - (i + 1), by lia, i + 1, acc ++ [d], σ8, ys.push y, _, rfl, hlt', by rw [List.length_append]; exact Nat.succ_le_succ ha, hn, IT.frame _ _ _ st8 fun b hb o e => k9 b o (fpD b hb) e, sm3.trans (sm5.trans (sm6.trans (sm7.trans (sm8.trans ⟨h9, s8.toks, rfl⟩)))), N9, lv9, hg9, ?_, IT.kpm _ _ (leA.trans le9) kpi, fun b hb => ?_⟩
        · rw [Array.toList_push, List.map_append]
          refine (ldy.keeps le9).append (.cons ?_ .nil)
          have e : hideAll s8.heap ((D :: wr) ++ hidl Ci σ8.mu) = hideAll s8.heap (((D :: wr) ++ Ci.l) ++ hid Ci σ8.mu) := by
            unfold hidl; rw [List.append_assoc]
          have l8' : LayV (hideAll s8.heap ((D :: wr) ++ hidl Ci σ8.mu)) y (.dat d) := by rw [e]; exact l8
          exact LayV.keeps l8' le9
        · obtain ⟨o', e'⟩ := fp8 b hb
          exact ⟨o', hideAll_get _ (k9 b o' (fpD b hb) (of_hideAll _ e')) (hide_out e')⟩
end

end Mine
namespace Mine

section
variable {W : Wd} {A : Around} {C : Act} {σ : St} {k : V → St → Prop} {E : Value → Shared → Prop} {kf : Fl → St → Prop} {scope : Scope}

/-- as what a comprehension's list is seen from now on -/
noncomputable def FinC (W : Wd) (loc : List (Str × V)) (ds : List PyData) (mu : Mu) (k : V → St → Prop) : Prop :=
  ∀ (C : Act), ActOk W C → ∀ D h, Hold C ⟨loc, (D, ds.map V.dat) :: mu⟩ h → Ex2 fun x σ' => A4 (Hold C σ' h) (Le (G C ⟨loc, (D, ds.map V.dat) :: mu⟩ h) (G C σ' h)) (LayV (G C σ' h) (.ref D) x) (k x σ')
theorem FinC.mu {loc : List (Str × V)} {ds : List PyData} {mu : Mu} (h : ∀ a, k (.ref a) ⟨loc, (a, ds.map V.dat) :: mu⟩) : FinC W loc ds mu k := fun C hC D hp H => ⟨.ref D, _, H, Le.refl _, rfl, h D⟩
theorem FinC.dat {loc : List (Str × V)} {ds : List PyData} {mu : Mu} (h : k (.dat (.list ds)) ⟨loc, mu⟩) : FinC W loc ds mu k := fun C hC D hp H => by
  obtain ⟨H', le⟩ := View.drop hC hp H
  refine ⟨_, _, H', le, ?_, h⟩
  obtain ⟨its, n, e, lx⟩ := H.mus _ (.head _)
  have nd := H.nodup
  unfold hid at nd
  rw [List.nodup_cons, List.nodup_append] at nd
  have hm : D ∈ keys ((D, ds.map V.dat) :: mu) := .head _
  have hout : D ∉ hidl C mu := fun m => by
    rcases List.mem_append.mp m with m | m
    · obtain ⟨o, e'⟩ := hC.lex D m
      exact hide_out (H.keep D o e') (.tail _ (List.mem_append_right _ hm))
    · rcases List.mem_cons.mp m with q | m
      · exact nd.1 (List.mem_append_right _ (q ▸ hm))
      · rcases List.mem_append.mp m with m | m
        · exact nd.2.2.2 D m D hm rfl
        · exact (List.nodup_cons.mp nd.2.2.1).1 m
  exact Rd.list (vs := its.toList) ⟨_, hideAll_get _ e hout, rfl, n, by simp⟩ ((lx.keeps le).dats)

/-- what a comprehension's source and turns are to show -/
noncomputable def CompH (W : Wd) (A : Around) (C : Act) (t it elt : Expr) (ifs : List Expr) (scope : Scope) (cl : List (Str × Addr)) (σ : St) (k : V → St → Prop) : Prop :=
  WI W A C t it σ fun xs σ1 => xs.length ≤ 1000000 ∧ ∃ locI, Seen C scope σ1 cl locI ∧ ∀ Cl h₀ l, ActOk W (innerAct C scope cl Cl h₀ l) →
    CompW W A (innerAct C scope cl Cl h₀ l) t ifs elt (fun ds σ2 => FinC W σ1.loc ds σ2.mu k) xs [] ⟨locI, σ1.mu⟩

theorem hide_sameBut {h h' : Heap} {a : Addr} (hs : Heap.SameBut a h h') : Le (hideAll h [a]) h' := fun b o e => (hs.2 b (by simpa using hide_out e)).trans (of_hideAll _ e)

theorem WE.comp {t it elt : Expr} {ifs : List Expr} {pos : Pos} {cl : List (Str × Addr)} (hC : ActOk W C) (h : CompH W A C t it elt ifs scope cl σ k)
    (hclos : closureFor scope C.env = pure cl := by rfl) (hkind : scope.kind = .function := by rfl)
    (hnames : ∀ x ∈ scope.names, x.2 = .local → scope.names.lookup x.1 = some .local := by decide)
    (hs : ∀ x, foldedSetIterable it C.env x = pure x := by intro _; rfl) : WE W A C (.ListComp elt [⟨t, it, ifs, 0⟩] scope pos) σ k := fun s H => by
  rw [eval_ListComp]
  refine wpAny_comprehension_free (use := none) rfl hs hclos hkind hnames (wpAny_mono (h s H) (fun v s1 h1 => wpAny_mono h1 (fun itv s2 h2 => ?_) fun _ _ e => e) fun _ _ e => e)
  obtain ⟨I, fp, wr, xs, St', Kp, σ1, rfl, ⟨hlen, locI, sn, hc⟩, IT, st, sm2, N, lv, le, kp, hfp⟩ := h2
  refine WE.comp_core (RR := fun acc C' => compPost W.M A NoE none (Post C σ s k) acc C') hC IT st sm2 N lv kp hfp hkind hlen sn hc ?_
  intro D Cl ds σi s4 hk sm4 Ho leo hm hn
  obtain ⟨m, hm⟩ := hm
  refine ⟨m, hm, fun h' hs' => ?_⟩
  obtain ⟨x, σ', H', le', lx, hk'⟩ := hk C hC D _ Ho
  obtain ⟨m', hm', _⟩ := H'.ns
  obtain ⟨H5, le5⟩ := H'.step (s := { s4 with heap := hideAll s4.heap [Cl] }) (s' := { s4 with heap := h' }) hC hm' (.of_le ⟨h', s4.toks, rfl⟩ hm' (hide_sameBut hs'))
  refine ⟨x, σ', hk', sm4.trans ⟨h', s4.toks, rfl⟩, H5, ?_, lx.keeps le5⟩
  refine (le.trans ?_).trans (leo.trans (le'.trans le5))
  rw [hideAll_append]; exact Le.refl _

theorem Can.at {x : Str} {h₀ : Heap} {l : List Addr} (c : Can C x) : Can (C.at h₀ l) x := by
  cases c with
  | loc h => exact .loc h
  | cell h hc ho hn => exact .cell h hc ho hn

theorem WS.assignComp {x : Str} {px pos spos : Pos} {t it elt : Expr} {ifs : List Expr} {cl : List (Str × Addr)} (hC : ActOk W C) (hx : Can C x)
    (h : CompH W A C t it elt ifs scope cl σ fun v σ1 => kf .next (σ1.put x v))
    (hsw : swapsWith (.ListComp elt [⟨t, it, ifs, 0⟩] scope pos) (some (.Name x px)) spos.line C.env = pure true := by rfl)
    (hclos : closureFor scope C.env = pure cl := by rfl) (hkind : scope.kind = .function := by rfl)
    (hnames : ∀ x ∈ scope.names, x.2 = .local → scope.names.lookup x.1 = some .local := by decide)
    (hs : ∀ x, foldedSetIterable it C.env x = pure x := by intro _; rfl) : WS W A C E (.Assign [.Name x px] (.ListComp elt [⟨t, it, ifs, 0⟩] scope pos) spos) σ kf := fun s sm H => by
  rw [exec_Assign_Name_used _ _ _ _ hsw]
  refine wpAny_mono (E := NoE) ?_ (fun _ _ q => q) fun _ _ e => noE e
  refine wpAny_bind (wpAny_standAt (wpAny_bind ?_))
  show wpAny _ A (do let _ ← comprehension (.ListComp elt [⟨t, it, ifs, 0⟩] scope pos) scope C.env _ (newList []) false (eval it C.env) (some (PySem.assign (Expr.Name x px) C.env))) _ _ s
  refine wpAny_bind (wpAny_mono (wpAny_comprehension_free (use := some (PySem.assign (Expr.Name x px) C.env)) (Q := fun _ s' => PostF C σ s kf .next s') rfl hs hclos hkind hnames
    (wpAny_mono (h s H) (fun v s1 h1 => wpAny_mono h1 (fun itv s2 h2 => ?_) fun _ _ e => e) fun _ _ e => e)) (fun _ s' hq => wpAny_pure (wpAny_pure hq)) fun _ _ e => e)
  obtain ⟨I, fp, wr, xs, St', Kp, σ1, rfl, ⟨hlen, locI, sn, hc⟩, IT, st, sm2, N, lv, le, kp, hfp⟩ := h2
  refine WE.comp_core (RR := fun acc C' => compPost W.M A NoE (some (PySem.assign (Expr.Name x px) C.env)) (fun _ s' => PostF C σ s kf .next s') acc C') hC IT st sm2 N lv kp hfp hkind hlen sn hc ?_
  intro D Cl ds σi s4 hk sm4 Ho leo hm hn
  obtain ⟨m, hm⟩ := hm
  unfold compPost
  dsimp only
  have N4 := In.of_hidden (W := W) Ho
  have hcl : ∃ o, s4.heap.get? Cl = some o ∧ NotCC o := by
    obtain ⟨o, es, ep, e, d, _⟩ := hm
    exact ⟨o, e, And.intro (fun v q => by rw [d] at q; cases q) fun vs q t q' => by rw [d] at q'; cases q'⟩
  have lv4 : Live C [Cl] ⟨σ1.loc, (D, ds.map V.dat) :: σi.mu⟩ s4.heap := fun b hb => by
    rw [List.mem_singleton.mp hb]; obtain ⟨o, e, _⟩ := hcl; exact ⟨o, hideAll_get _ e hn⟩
  have hC4 := N4.act hC lv4
  obtain ⟨xv, σ', H', le', lx, hk'⟩ := hk _ hC4 D _ N4.hold
  refine PyProof.Rows.assign_Name (env := (C.at (hideAll s4.heap (hid C ((D, ds.map V.dat) :: σi.mu))) ([Cl] ++ C.l)).env) (H'.store hC4 hx.at lx fun s5 sm5 H5 le5 => ?_)
  have N5 := N4.turn hC H5
  have lv5 : Live C [Cl] (σ'.put x xv) s5.heap := fun b hb => let ⟨o, e⟩ := lv4 b hb; ⟨o, H5.keep b o e⟩
  have hcl5 : ∃ o, A3 (s4.heap.get? Cl = some o) (s5.heap.get? Cl = some o) (NotCC o) := by
    obtain ⟨o, e⟩ := lv4 Cl (.head _)
    obtain ⟨o', e', n⟩ := hcl
    have := of_hideAll _ e
    rw [e'] at this; cases this
    exact ⟨_, e', of_hideAll _ (H5.keep Cl _ e), n⟩
  obtain ⟨N6, le6⟩ := N5.next (s' := { s5 with heap := hideAll s5.heap [Cl] }) hC lv5 (fun b o n e => hideAll_get _ e n) (fun b hb => by rw [List.mem_singleton.mp hb]; obtain ⟨o, _, e, n⟩ := hcl5; exact ⟨o, e, n⟩)
  have H6 := N6.out.1
  obtain ⟨o5, e4, e5, _⟩ := hcl5
  refine ⟨m, ?_, fun h' hs' => ?_⟩
  · obtain ⟨o, es, ep, e, r⟩ := hm
    rw [e4] at e; cases e
    exact ⟨o5, es, ep, e5, r⟩
  · obtain ⟨m', hm', _⟩ := H6.ns
    obtain ⟨H7, le7⟩ := H6.step (s := { s5 with heap := hideAll s5.heap [Cl] }) (s' := { s5 with heap := h' }) hC hm' (.of_le ⟨h', s5.toks, rfl⟩ hm' (hide_sameBut hs'))
    refine ⟨.next, _, hk', sm4.trans (sm5.trans ⟨h', s5.toks, rfl⟩), H7, ?_, trivial⟩
    have l1 : Le (G C σ s.heap) (G C σ1 (hideAll s2.heap wr)) := by
      have := le
      rw [hideAll_append] at this; exact this
    have l2 : Le (G C ⟨σ1.loc, (D, ds.map V.dat) :: σi.mu⟩ (hideAll s4.heap [Cl])) (G (C.at (hideAll s4.heap (hid C ((D, ds.map V.dat) :: σi.mu))) ([Cl] ++ C.l)) ⟨σ1.loc, (D, ds.map V.dat) :: σi.mu⟩ s4.heap) := by
      have e : G (C.at (hideAll s4.heap (hid C ((D, ds.map V.dat) :: σi.mu))) ([Cl] ++ C.l)) ⟨σ1.loc, (D, ds.map V.dat) :: σi.mu⟩ s4.heap = hideAll (hideAll s4.heap [Cl]) (hidl C ((D, ds.map V.dat) :: σi.mu)) := by
        rw [← hideAll_append]
        show hideAll s4.heap (([Cl] ++ C.l) ++ hid C ((D, ds.map V.dat) :: σi.mu)) = _
        unfold hidl; rw [List.append_assoc]
      rw [e]; exact Le.refl _
    have l3 : Le (G (C.at (hideAll s4.heap (hid C ((D, ds.map V.dat) :: σi.mu))) ([Cl] ++ C.l)) (σ'.put x xv) s5.heap) (hideAll s5.heap ([Cl] ++ hidl C (σ'.put x xv).mu)) := by
      have e : hideAll s5.heap ([Cl] ++ hidl C (σ'.put x xv).mu) = hideAll s5.heap (([Cl] ++ C.l) ++ hid C (σ'.put x xv).mu) := by
        unfold hidl; rw [List.append_assoc]
      rw [e]; exact Le.refl _
    exact l1.trans (leo.trans (l2.trans (le'.trans (le5.trans (l3.trans (le6.trans (N6.out.2.trans le7)))))))
end

end Mine
namespace Mine
section
variable {W : Wd} {A : Around} {C : Act} {σ : St} {k : V → St → Prop} {E : Value → Shared → Prop} {kf : Fl → St → Prop} {scope : Scope}

/-- a name that is a built-in function's, called -/
theorem WE.callB {x : Str} {id : String} {e : Expr} {es : List Expr} {np pos : Pos} (hC : ActOk W C) (hb : Blt W x) (hv : bootBuiltins x = some (.builtin id))
    (h : WEs W A C pos (e :: es) σ fun xs σ1 => ∀ s vs, Hold C σ1 s.heap → LayVs (G C σ1 s.heap) vs xs → wpAny W.M A (call (.builtin id) vs) (Post C σ1 s k) NoE s)
    (hx : C.env.kindOf x = some .globalImplicit := by rfl) (hn : x ≠ "__name__" := by decide) (hd : (x == ("__debug__" : Str)) = false := by decide)
    (he : starEach (e :: es) C.env = (false, eval e C.env) :: starEach es C.env := by rfl) (hp : (backTo pos (starEach es C.env)).any (·.1) = false := by rfl) : WE W A C (.Call (.Name x np) (e :: es) [] pos) σ k := fun s H =>
  Call_ (blt_val hC (H.stat hC) hide_le hb hv (PyProof.Rows.callWith_builtin1 (wpAny_mono (h s H) (fun vs s1 ⟨xs, σ1, h1, sm1, H1, le1, l1⟩ => wpAny_mono (h1 s1 vs H1 l1) (fun u s2 p => p.lift sm1 le1) fun _ _ e => e) fun _ _ e => e) he hp) hx hn hd)
theorem WE.callT {x : Str} {T : String} {e : Expr} {es : List Expr} {np pos : Pos} (hC : ActOk W C) (hb : Blt W x) (hv : bootBuiltins x = some (.type T))
    (h : WEs W A C pos (e :: es) σ fun xs σ1 => ∀ s vs, Hold C σ1 s.heap → LayVs (G C σ1 s.heap) vs xs → wpAny W.M A (call (.type T) vs) (Post C σ1 s k) NoE s)
    (hx : C.env.kindOf x = some .globalImplicit := by rfl) (hn : x ≠ "__name__" := by decide) (hd : (x == ("__debug__" : Str)) = false := by decide)
    (he : starEach (e :: es) C.env = (false, eval e C.env) :: starEach es C.env := by rfl) (hp : (backTo pos (starEach es C.env)).any (·.1) = false := by rfl) : WE W A C (.Call (.Name x np) (e :: es) [] pos) σ k := fun s H =>
  type_call hC hb hv H h (fun vs s1 ⟨xs, σ1, h1, sm1, H1, le1, l1⟩ => wpAny_mono (h1 s1 vs H1 l1) (fun u s2 p => p.lift sm1 le1) fun _ _ e => e) hx hn hd he hp

/-- one argument -/
theorem WEs.one {pos : Pos} {e : Expr} {kk : List V → St → Prop} (h : WE W A C e σ fun x σ1 => kk [x] σ1) (he : starEach [e] C.env = [(false, eval e C.env)] := by rfl) : WEs W A C pos [e] σ kk :=
  WEs.cons (h.mono fun x σ1 h => WEs.nil h) he
theorem LayVs.one {h : Heap} {vs : List Value} {x : V} (l : LayVs h vs [x]) : ∃ v, vs = [v] ∧ LayV h v x := by
  cases l with | cons a b => cases b; exact ⟨_, rfl, a⟩

variable {np pos : Pos} {e : Expr}
theorem WE.len_list (hC : ActOk W C) (hb : Blt W (Str.ofString "len")) (h : WE W A C e σ fun x σ1 => ∃ ds, A3 (x = .dat (.list ds)) (ds.length ≤ sizeLine) (k (.dat (.int (ds.length : Nat))) σ1))
    (hx : C.env.kindOf (Str.ofString "len") = some .globalImplicit := by rfl) (he : starEach [e] C.env = [(false, eval e C.env)] := by rfl) : WE W A C (.Call (.Name (Str.ofString "len") np) [e] [] pos) σ k :=
  WE.callB hC hb PyProof.Rows.Boot.len (WEs.one (h.mono fun x σ1 ⟨ds, ex, hz, hk⟩ s vs H l => by
    subst ex
    obtain ⟨v, rfl, lv⟩ := l.one
    obtain ⟨a, vs, rfl, il, r⟩ := Rd.list_inv lv
    have hz' : vs.length ≤ sizeLine := by rw [r.len]; exact hz
    refine call_len_list (up_list il) (by rw [List.size_toArray]; have : sizeLine < 2 ^ 62 := by decide
                                          lia) ?_
    rw [List.size_toArray, r.len]
    exact Post.here hC hk H ⟨_, _, rfl⟩ (Le.refl _) Rd.int) he) hx (he := he)
theorem WE.len_str (hC : ActOk W C) (hb : Blt W (Str.ofString "len")) (h : WE W A C e σ fun x σ1 => ∃ w, A3 (x = .dat (.str w)) (w.length ≤ sizeLine) (k (.dat (.int (w.length : Nat))) σ1))
    (hx : C.env.kindOf (Str.ofString "len") = some .globalImplicit := by rfl) (he : starEach [e] C.env = [(false, eval e C.env)] := by rfl) : WE W A C (.Call (.Name (Str.ofString "len") np) [e] [] pos) σ k :=
  WE.callB hC hb PyProof.Rows.Boot.len (WEs.one (h.mono fun x σ1 ⟨w, ex, hz, hk⟩ s vs H l => by
    subst ex
    obtain ⟨v, rfl, lv⟩ := l.one
    obtain ⟨t, rfl⟩ := Rd.str_inv lv
    refine PySem.P.len_str (by have : sizeLine < 2 ^ 62 := by decide
                               lia) (Post.here hC hk H ⟨_, _, rfl⟩ (Le.refl _) Rd.int)) he) hx (he := he)
theorem WE.len_mu (hC : ActOk W C) (hb : Blt W (Str.ofString "len")) (h : WE W A C e σ fun x σ1 => Ex2 fun a xs => A4 (x = .ref a) ((a, xs) ∈ σ1.mu) (xs.length ≤ sizeLine) (k (.dat (.int (xs.length : Nat))) σ1))
    (hx : C.env.kindOf (Str.ofString "len") = some .globalImplicit := by rfl) (he : starEach [e] C.env = [(false, eval e C.env)] := by rfl) : WE W A C (.Call (.Name (Str.ofString "len") np) [e] [] pos) σ k :=
  WE.callB hC hb PyProof.Rows.Boot.len (WEs.one (h.mono fun x σ1 ⟨a, xs, ex, hm, hz, hk⟩ s vs H l => by
    subst ex
    obtain ⟨v, rfl, lv⟩ := l.one
    obtain rfl : v = .ref a := lv
    obtain ⟨its, n, e2, lx⟩ := H.mus _ hm
    have hlen : its.size = xs.length := by rw [← Array.length_toList]; exact lx.len
    refine call_len_list ⟨_, e2, rfl, n, rfl⟩ (by rw [hlen]; have : sizeLine < 2 ^ 62 := by decide
                                                  lia) ?_
    rw [hlen]
    exact Post.here hC hk H ⟨_, _, rfl⟩ (Le.refl _) Rd.int) he) hx (he := he)
theorem WE.abs (hC : ActOk W C) (hb : Blt W (Str.ofString "abs")) (h : WE W A C e σ fun x σ1 => ∃ i : Int, x = .dat (.int i) ∧ k (.dat (.int (if i < 0 then -i else i))) σ1)
    (hx : C.env.kindOf (Str.ofString "abs") = some .globalImplicit := by rfl) (he : starEach [e] C.env = [(false, eval e C.env)] := by rfl) : WE W A C (.Call (.Name (Str.ofString "abs") np) [e] [] pos) σ k :=
  WE.callB hC hb PyProof.Rows.Boot.abs (WEs.one (h.mono fun x σ1 ⟨i, ex, hk⟩ s vs H l => by
    subst ex
    obtain ⟨v, rfl, lv⟩ := l.one
    obtain ⟨t, rfl⟩ := Rd.int_inv lv
    exact call_abs_int fun u tk => Post.here hC hk H ⟨_, _, rfl⟩ (Le.refl _) Rd.int) he) hx (he := he)
theorem WE.int (hC : ActOk W C) (hb : Blt W (Str.ofString "int")) (h : WE W A C e σ fun x σ1 => ∃ i : Int, x = .dat (.int i) ∧ k (.dat (.int i)) σ1)
    (hx : C.env.kindOf (Str.ofString "int") = some .globalImplicit := by rfl) (he : starEach [e] C.env = [(false, eval e C.env)] := by rfl) : WE W A C (.Call (.Name (Str.ofString "int") np) [e] [] pos) σ k :=
  WE.callT hC hb PyProof.Rows.Boot.int (WEs.one (h.mono fun x σ1 ⟨i, ex, hk⟩ s vs H l => by
    subst ex
    obtain ⟨v, rfl, lv⟩ := l.one
    obtain ⟨t, rfl⟩ := Rd.int_inv lv
    exact call_int_int (Post.here hC hk H (Sm.refl _) (Le.refl _) Rd.int)) he) hx (he := he)
theorem WE.chr (hC : ActOk W C) (hb : Blt W (Str.ofString "chr")) (h : WE W A C e σ fun x σ1 => ∃ i : Int, A4 (x = .dat (.int i)) (0 ≤ i) (i ≤ 1114111) (k (.dat (.str ⟨#[i.toNat]⟩)) σ1))
    (hx : C.env.kindOf (Str.ofString "chr") = some .globalImplicit := by rfl) (he : starEach [e] C.env = [(false, eval e C.env)] := by rfl) : WE W A C (.Call (.Name (Str.ofString "chr") np) [e] [] pos) σ k :=
  WE.callB hC hb PyProof.Rows.Boot.chr (WEs.one (h.mono fun x σ1 ⟨i, ex, h0, h1, hk⟩ s vs H l => by
    subst ex
    obtain ⟨v, rfl, lv⟩ := l.one
    obtain ⟨t, rfl⟩ := Rd.int_inv lv
    exact chr_of_range h0 h1 (Post.here hC hk H ⟨_, _, rfl⟩ (Le.refl _) Rd.str)) he) hx (he := he)
theorem WE.ord (hC : ActOk W C) (hb : Blt W (Str.ofString "ord")) (h : WE W A C e σ fun x σ1 => ∃ c : Nat, x = .dat (.str ⟨#[c]⟩) ∧ k (.dat (.int c)) σ1)
    (hx : C.env.kindOf (Str.ofString "ord") = some .globalImplicit := by rfl) (he : starEach [e] C.env = [(false, eval e C.env)] := by rfl) : WE W A C (.Call (.Name (Str.ofString "ord") np) [e] [] pos) σ k :=
  WE.callB hC hb PyProof.Rows.Boot.ord (WEs.one (h.mono fun x σ1 ⟨c, ex, hk⟩ s vs H l => by
    subst ex
    obtain ⟨v, rfl, lv⟩ := l.one
    obtain ⟨t, rfl⟩ := Rd.str_inv lv
    exact PySem.P.ord_of_char (Post.here hC hk H ⟨_, _, rfl⟩ (Le.refl _) Rd.int)) he) hx (he := he)
/-- a new list of the items -/
theorem WE.list_of (hC : ActOk W C) (hb : Blt W (Str.ofString "list")) (h : WE W A C e σ fun x σ1 => ∃ ds, A3 ((x = .dat (.list ds) ∨ x = .dat (.tuple ds))) (ds.length ≤ sizeLine) (k (.dat (.list ds)) σ1))
    (hx : C.env.kindOf (Str.ofString "list") = some .globalImplicit := by rfl) (he : starEach [e] C.env = [(false, eval e C.env)] := by rfl) : WE W A C (.Call (.Name (Str.ofString "list") np) [e] [] pos) σ k :=
  WE.callT hC hb PyProof.Rows.Boot.list (WEs.one (h.mono fun x σ1 ⟨ds, ex, hz, hk⟩ s vs H l => by
    obtain ⟨v, rfl, lv⟩ := l.one
    have key : ∀ a ws T o n, s.heap.get? a = some o → (T = "list" ∨ T = "tuple") → o.cls = .type T → o.data = .seq (List.toArray ws) n → Rds (G C σ1 s.heap) ws ds → v = .ref a → wpAny W.M A (call (.type "list") [v]) (Post C σ1 s k) NoE s := fun a ws T o n e hT hc hd r ev => by
      subst ev
      refine call_list_seq (hsz := by rw [List.size_toArray, r.len]; exact hz) a hT e hc hd fun h' c' hk' hD => ?_
      obtain ⟨m, hm, _⟩ := H.ns
      obtain ⟨H2, le2⟩ := H.step (s' := { s with heap := h' }) hC hm (.of_le ⟨h', s.toks, rfl⟩ hm hk')
      refine ⟨_, σ1, hk, ⟨h', s.toks, rfl⟩, H2, le2, Rd.list (vs := ws) ⟨_, hideAll_get _ hD fun q => ?_, rfl, c', by simp⟩ (r.keeps le2)⟩
      exact Nat.lt_irrefl _ (H.lt hC _ q)
    rcases ex with rfl | rfl
    · obtain ⟨a, ws, rfl, il, r⟩ := Rd.list_inv lv
      obtain ⟨o, e, hc, n, hd⟩ := up_list il
      exact key a ws "list" o n e (.inl rfl) hc hd r rfl
    · obtain ⟨a, ws, rfl, il, r⟩ := Rd.tup_inv lv
      obtain ⟨o, e, hc, n, hd⟩ := up_tup il
      exact key a ws "tuple" o n e (.inr rfl) hc hd r rfl) he) hx (he := he)
noncomputable def isInt : PyData → Bool
  | .int _ => true
  | _ => false
noncomputable def IntOrStr (d : PyData) : Prop := (∃ i, d = .int i) ∨ ∃ x, d = .str x
theorem WE.isinstance_int {n2 : Pos} (hC : ActOk W C) (hb : Blt W (Str.ofString "isinstance")) (hb2 : Blt W (Str.ofString "int")) (h : WE W A C e σ fun x σ1 => ∃ d, A3 (x = .dat d) (IntOrStr d) (k (.dat (.bool (isInt d))) σ1))
    (hx : C.env.kindOf (Str.ofString "isinstance") = some .globalImplicit := by rfl) (hx2 : C.env.kindOf (Str.ofString "int") = some .globalImplicit := by rfl) (he : starEach [e, .Name (Str.ofString "int") n2] C.env = [(false, eval e C.env), (false, eval (.Name (Str.ofString "int") n2) C.env)] := by rfl) :
    WE W A C (.Call (.Name (Str.ofString "isinstance") np) [e, .Name (Str.ofString "int") n2] [] pos) σ k := fun s H => by
  refine Call_ (blt_val hC (H.stat hC) hide_le hb PyProof.Rows.Boot.isinstance (PyProof.Rows.callWith_builtin1 ?_ he (by rfl)) hx (by decide) (by decide))
  refine PyProof.Rows.args_cons (wpAny_mono (h s H) (fun v s1 hqq => ?_) fun _ _ e => e) he
  obtain ⟨x, σ1, ⟨d, ex, hd, hk⟩, sm1, H1, le1, l1⟩ := hqq
  subst ex
  refine PyProof.Rows.args_cons (rest := []) (blt_val hC (H1.stat hC) hide_le hb2 PyProof.Rows.Boot.int (PyProof.Rows.args_nil ?_) hx2 (by decide) (by decide)) (by rfl)
  rcases hd with ⟨i, rfl⟩ | ⟨x, rfl⟩
  · obtain ⟨t, rfl⟩ := Rd.int_inv l1
    exact IsiPair.int_int (Post.lift sm1 le1 (Post.here hC hk H1 (Sm.refl _) (Le.refl _) Rd.bool))
  · obtain ⟨t, rfl⟩ := Rd.str_inv l1
    exact IsiPair.str_int (Post.lift sm1 le1 (Post.here hC hk H1 ⟨_, _, rfl⟩ (Le.refl _) Rd.bool))

/-- methods of a text -/
theorem StrsOf {h : Heap} : ∀ {vs : List Value} {ys : List Str}, Rds h vs (ys.map .str) → StrsAre vs ys
  | [], [], _ => .nil
  | [], _ :: _, ⟨_, r⟩ => by cases r
  | _ :: _, [], ⟨_, r⟩ => by cases r
  | v :: vs, y :: ys, r => by
    obtain ⟨a, b⟩ := r.inv
    obtain ⟨t, rfl⟩ := a.str_inv
    exact .cons y t (StrsOf b)
theorem WE.join {o : Expr} {apos : Pos} (hC : ActOk W C)
    (h : WE W A C o σ fun x σ1 => ∃ sep, A3 (x = .dat (.str sep)) (sep.length ≤ 16) (WE W A C e σ1 fun y σ2 => ∃ ys : List Str, A3 (y = .dat (.list (ys.map .str))) ((ys.map (·.length)).sum + ys.length ≤ 1048576) (k (.dat (.str (Txt.join sep ys))) σ2)))
    (he : eval (.Call (.Attribute o (Str.ofString "join") apos) [e] [] pos) C.env = (do
      let ov ← eval o C.env
      standAt apos.atName
      let (f, first) ← holding [ov] (getMethod ov (Str.ofString "join") (do return (← importBound o C.env).getD true))
      callWith pos f first (backTo pos (starEach [e] C.env)) []) := by rfl)
    (he1 : starEach [e] C.env = [(false, eval e C.env)] := by rfl) : WE W A C (.Call (.Attribute o (Str.ofString "join") apos) [e] [] pos) σ k := fun s H => by
  refine MethodCall_ (wpAny_mono (h s H) (fun v s1 hqq => ?_) fun _ _ e => e) he
  obtain ⟨x, σ1, ⟨sep, ex, hsep, h1⟩, sm1, H1, le1, l1⟩ := hqq
  subst ex
  obtain ⟨t, rfl⟩ := Rd.str_inv l1
  refine GM.join (callWith_method1 (PyProof.Rows.args_cons (wpAny_mono (h1 s1 H1) (fun w s2 ⟨y, σ2, ⟨ys, ey, hw, hk⟩, sm2, H2, le2, l2⟩ => PyProof.Rows.args_nil ?_) fun _ _ e => e) he1) he1)
  subst ey
  obtain ⟨a, vs, rfl, il, r⟩ := Rd.list_inv l2
  refine join_listW (up_list il) (StrsOf (by simpa using r)) hsep hw fun t' tk => ?_
  exact Post.lift (sm1.trans sm2) (le1.trans le2) (Post.here (s := s2) hC hk H2 ⟨_, _, rfl⟩ (Le.refl _) Rd.str)
theorem WE.lower {o : Expr} {apos : Pos} (hC : ActOk W C)
    (h : WE W A C o σ fun x σ1 => ∃ w, A3 (x = .dat (.str w)) (w.length ≤ 5592405) (k (.dat (.str (Txt.lower w))) σ1))
    (he : eval (.Call (.Attribute o (Str.ofString "lower") apos) [] [] pos) C.env = (do
      let ov ← eval o C.env
      standAt apos.atName
      let (f, first) ← holding [ov] (getMethod ov (Str.ofString "lower") (do return (← importBound o C.env).getD true))
      callWith pos f first (backTo pos (starEach [] C.env)) []) := by rfl) : WE W A C (.Call (.Attribute o (Str.ofString "lower") apos) [] [] pos) σ k := fun s H => by
  refine MethodCall_ (wpAny_mono (h s H) (fun v s1 hqq => ?_) fun _ _ e => e) he
  obtain ⟨x, σ1, ⟨w, ex, hz, hk⟩, sm1, H1, le1, l1⟩ := hqq
  subst ex
  obtain ⟨t, rfl⟩ := Rd.str_inv l1
  exact GM.lower (callWith_method0 (SCL.lower hz fun _ => Post.lift sm1 le1 (Post.here (s := s1) hC hk H1 ⟨_, _, rfl⟩ (Le.refl _) Rd.str)))
theorem WE.split {o : Expr} {apos : Pos} (hC : ActOk W C)
    (h : WE W A C o σ fun x σ1 => ∃ w, A3 (x = .dat (.str w)) (w.length + 2 ≤ sizeLine) (WE W A C e σ1 fun y σ2 => ∃ sep, A3 (y = .dat (.str sep)) ((sep.length == 0) = false) (k (.dat (.list ((Txt.split w sep).map .str))) σ2)))
    (he : eval (.Call (.Attribute o (Str.ofString "split") apos) [e] [] pos) C.env = (do
      let ov ← eval o C.env
      standAt apos.atName
      let (f, first) ← holding [ov] (getMethod ov (Str.ofString "split") (do return (← importBound o C.env).getD true))
      callWith pos f first (backTo pos (starEach [e] C.env)) []) := by rfl)
    (he1 : starEach [e] C.env = [(false, eval e C.env)] := by rfl) : WE W A C (.Call (.Attribute o (Str.ofString "split") apos) [e] [] pos) σ k := fun s H => by
  refine MethodCall_ (wpAny_mono (h s H) (fun v s1 hqq => ?_) fun _ _ e => e) he
  obtain ⟨x, σ1, ⟨w, ex, hz, h1⟩, sm1, H1, le1, l1⟩ := hqq
  subst ex
  obtain ⟨t, rfl⟩ := Rd.str_inv l1
  refine GM.split (callWith_method1 (PyProof.Rows.args_cons (wpAny_mono (h1 s1 H1) (fun wv s2 ⟨y, σ2, ⟨sep, ey, hs, hk⟩, sm2, H2, le2, l2⟩ => PyProof.Rows.args_nil ?_) fun _ _ e => e) he1) he1)
  subst ey
  obtain ⟨t2, rfl⟩ := Rd.str_inv l2
  obtain ⟨m, hm, _⟩ := H2.ns
  refine splitN1 (hsz := hz) (frAny hm) (newsAll s2.heap C.env.locals) hs fun l h' tk hl F N => ?_
  have st : Stp C.env.locals m s2 { s2 with heap := h', toks := tk } := .of_fr F N fun p hp => .tail _ hp
  refine Post.lift (sm1.trans sm2) (le1.trans le2) (Post.step (s := s2) (x := .dat (.list ((Txt.split w sep).map .str))) hC hk H2 hm st ?_)
  have hnew : s2.heap.objs.size ∉ hidl C σ2.mu := fun q => Nat.lt_irrefl _ (H2.lt hC _ q)
  refine Rd.list (vs := strValues l) ⟨_, hideAll_get _ (N _ (.head _)).1 hnew, rfl, 0, rfl⟩ ?_
  rw [← hl]
  clear hl F N
  induction l with
  | nil => exact .nil
  | cons p r ih => exact .cons Rd.str ih

/-- the place of an int in a list that is being kept apart -/
theorem IntsOf {h : Heap} : ∀ {vs : List Value} {ns : List Int}, LayVs h vs (ns.map fun n => V.dat (.int n)) → IntsAre vs ns
  | _, [], .nil => .nil
  | _, n :: ns, .cons a b => by
    obtain ⟨t, rfl⟩ := Rd.int_inv a
    exact .cons n t (IntsOf b)
theorem WE.index {o : Expr} {apos : Pos} (hC : ActOk W C)
    (h : WE W A C o σ fun x σ1 => ∃ a, A3 (x = .ref a) ((∃ xs, (a, xs) ∈ σ1.mu)) (WE W A C e σ1 fun y σ2 => Ex2 fun (ns : List Int) (n : Int) => A5 (y = .dat (.int n)) ((a, ns.map fun n => V.dat (.int n)) ∈ σ2.mu) (PyData.layable0 (.list (ns.map .int)) = true) (n ∈ ns) (k (.dat (.int (ns.idxOf n : Nat))) σ2)))
    (he : eval (.Call (.Attribute o (Str.ofString "index") apos) [e] [] pos) C.env = (do
      let ov ← eval o C.env
      standAt apos.atName
      let (f, first) ← holding [ov] (getMethod ov (Str.ofString "index") (do return (← importBound o C.env).getD true))
      callWith pos f first (backTo pos (starEach [e] C.env)) []) := by rfl)
    (he1 : starEach [e] C.env = [(false, eval e C.env)] := by rfl) : WE W A C (.Call (.Attribute o (Str.ofString "index") apos) [e] [] pos) σ k := fun s H => by
  refine MethodCall_ (wpAny_mono (h s H) (fun v s1 hqq => ?_) fun _ _ e => e) he
  obtain ⟨x, σ1, ⟨a, ex, ⟨xs0, hm0⟩, h1⟩, sm1, H1, le1, l1⟩ := hqq
  subst ex
  obtain rfl : v = .ref a := l1
  obtain ⟨i0, n0, e0, _⟩ := H1.mus _ hm0
  refine getMethod_list_of PySem.F.slot_list_index PySem.F.type_list_index ⟨_, e0, rfl, n0, rfl⟩ ⟨_, e0, rfl⟩ ?_
  refine callWith_method1 (PyProof.Rows.args_cons (wpAny_mono (h1 s1 H1) (fun wv s2 ⟨y, σ2, ⟨ns, n, ey, hm, hlay, hn, hk⟩, sm2, H2, le2, l2⟩ => PyProof.Rows.args_nil ?_) fun _ _ e => e) he1) he1
  subst ey
  obtain ⟨t, rfl⟩ := Rd.int_inv l2
  obtain ⟨its, c, e2, lx⟩ := H2.mus _ hm
  exact index_list_ints (vs := its.toList) ⟨_, e2, rfl, c, by simp⟩ (IntsOf lx) hlay hn (Post.lift (sm1.trans sm2) (le1.trans le2) (Post.here (s := s2) hC hk H2 ⟨_, _, rfl⟩ (Le.refl _) Rd.int))
/-- ints in order -/
theorem WE.sorted_mu (hC : ActOk W C) (hb : Blt W (Str.ofString "sorted"))
    (h : WE W A C e σ fun x σ1 => Ex2 fun (a : Addr) (ns : List Int) => A4 (x = .ref a) ((a, ns.map fun n => V.dat (.int n)) ∈ σ1.mu) (ns.length < 64) (∀ ns' : List Int, ns'.Perm ns → ns'.Pairwise (· ≤ ·) → k (.dat (.list (ns'.map .int))) σ1))
    (hx : C.env.kindOf (Str.ofString "sorted") = some .globalImplicit := by rfl) (he : starEach [e] C.env = [(false, eval e C.env)] := by rfl) : WE W A C (.Call (.Name (Str.ofString "sorted") np) [e] [] pos) σ k :=
  WE.callB hC hb PyProof.Rows.Boot.sorted (WEs.one (h.mono fun x σ1 ⟨a, ns, ex, hm, hz, hk⟩ s vs H l => by
    subst ex
    obtain ⟨v, rfl, lv⟩ := l.one
    obtain rfl : v = .ref a := lv
    obtain ⟨its, c, e2, lx⟩ := H.mus _ hm
    obtain ⟨m, hn, _⟩ := H.ns
    refine sorted_N (vs := its.toList) (frAny hn) (newsAll s.heap C.env.locals) ⟨_, e2, rfl, c, by simp⟩ (IntsOf lx) (by rw [lx.len, List.length_map]; exact hz) fun h' vs' ns' c' F N hI hp hs => ?_
    have st : Stp C.env.locals m s { s with heap := h' } := .of_fr' F N fun p hp => .tail _ hp
    refine Post.step (x := .dat (.list (ns'.map .int))) hC (hk ns' hp hs) H hn st ?_
    have hnew : s.heap.objs.size + 1 ∉ hidl C σ1.mu := fun q => Nat.lt_irrefl _ (Nat.lt_of_succ_lt (H.lt hC _ q))
    refine Rd.list (vs := vs') ⟨_, hideAll_get _ (N _ (.head _)).1 hnew, rfl, c', rfl⟩ ?_
    clear N hp hs st
    induction hI with
    | nil => exact .nil
    | cons n t _ ih => exact .cons Rd.int ih) he) hx (he := he)
end

end Mine
namespace Mine
section
variable {W : Wd} {A : Around} {C : Act} {σ : St} {k : V → St → Prop} {E : Value → Shared → Prop} {kf : Fl → St → Prop} {scope : Scope}

/-- what a while's turn is to show -/
noncomputable abbrev TurnK (J : Nat → St → Prop) (n : Nat) (kf : Fl → St → Prop) : Fl → St → Prop
  | .next, σ => ∃ m, m < n ∧ J m σ
  | .cont, σ => ∃ m, m < n ∧ J m σ
  | .brk, σ => kf .next σ
  | .ret v, σ => kf (.ret v) σ
theorem WS.while {test : Expr} {body : List Stmt} {pos : Pos} (J : Nat → St → Prop) {n : Nat} (hJ : J n σ)
    (h : ∀ n σ', J n σ' → WT W A C test σ' fun b σ1 => (b = true → WX W A C NoE body σ1 (TurnK J n kf)) ∧ (b = false → kf .next σ1)) : WS W A C E (.While test body [] pos) σ kf := fun s sm H => by
  refine wpAny_While (codeAny_mono (R := fun r s' => Ex3 fun f g σ' => A6 (r = .ok f) (kf g σ') (Sm s s') (Hold C σ' s'.heap) (Le (G C σ s.heap) (G C σ' s'.heap)) (LayFl (G C σ' s'.heap) f g)) ?_ (fun r s' ⟨f, g, σ', er, a, b, c, d, e⟩ => by subst er; exact ⟨g, σ', a, b, c, d, e⟩))
  refine codeAny_whileLoop (fun n s' => ∃ σi, A4 (J n σi) (Sm s s') (Hold C σi s'.heap) (Le (G C σ s.heap) (G C σi s'.heap))) ?_ n ⟨σ, hJ, Sm.refl _, H, Le.refl _⟩
  rintro n s3 ⟨σi, hJi, sm3, H3, le3⟩
  refine wpAny_mono (h n σi hJi s3 H3) (fun b s4 hqq => ?_) fun _ _ e => e.elim
  obtain ⟨σ4, ⟨ht, hf⟩, sm4, H4, le4⟩ := hqq
  cases b with
  | false =>
    rw [if_neg Bool.false_ne_true]
    exact wpAny_execs_nil ⟨.next, .next, σ4, rfl, hf rfl, sm3.trans sm4, H4, le3.trans le4, trivial⟩
  | true =>
    rw [if_pos rfl]
    refine wpAny_mono (ht rfl s4 (sm.trans (sm3.trans sm4)) H4) (fun f s5 hqq => ?_) fun _ _ e => e.elim
    obtain ⟨g, σ5, hk, sm5, H5, le5, l5⟩ := hqq
    have sm35 := sm3.trans (sm4.trans sm5)
    have le35 := le3.trans (le4.trans le5)
    cases f <;> cases g <;> first | exact l5.elim | skip
    · obtain ⟨m, hm, hJ⟩ := hk; exact ⟨m, hm, σ5, hJ, sm35, H5, le35⟩
    · exact ⟨.next, .next, σ5, rfl, hk, sm35, H5, le35, trivial⟩
    · obtain ⟨m, hm, hJ⟩ := hk; exact ⟨m, hm, σ5, hJ, sm35, H5, le35⟩
    · exact ⟨_, _, σ5, rfl, hk, sm35, H5, le35, l5⟩

/-- a name of the text that bears data -/
theorem WE.globStr {x : Str} {w : Str} {t : Tok} {pos : Pos} (hC : ActOk W C) (e : nsIn W.K mainGlobals x = some (some (.str w t))) (h : k (.dat (.str w)) σ)
    (hx : C.env.kindOf x = some .globalImplicit := by rfl) (hd : (x == ("__debug__" : Str)) = false := by decide) : WE W A C (.Name x pos) σ k := fun s H =>
  glob_val hC (H.stat hC) hide_le e (Post.here hC h H (Sm.refl _) (Le.refl _) Rd.str) hx hd
/-- texts laid out -/
noncomputable def strsOf : List Value → Option (List Str)
  | [] => some []
  | .str w _ :: r => (strsOf r).map (w :: ·)
  | _ :: _ => none
theorem strsOf_rds {h : Heap} : ∀ {vs : List Value} {ws : List Str}, strsOf vs = some ws → Rds h vs (ws.map .str)
  | [], ws, e => by cases e; exact .nil
  | .str w t :: r, ws, e => by
    simp only [strsOf] at e
    cases q : strsOf r with
    | none => rw [q] at e; cases e
    | some us => rw [q] at e; cases e; exact .cons Rd.str (strsOf_rds q)
  | .none :: _, _, e | .bool _ :: _, _, e | .int _ _ :: _, _, e | .float _ _ :: _, _, e | .ref _ :: _, _, e => by simp [strsOf] at e
theorem WE.globTup {x : Str} {a : Addr} {o : Obj} {vs : Array Value} {n : Nat} {ws : List Str} {pos : Pos} (hC : ActOk W C) (e : nsIn W.K mainGlobals x = some (some (.ref a))) (ho : W.K.lookup a = some o) (hc : o.cls = .type "tuple") (hd : o.data = .seq vs n)
    (hw : strsOf vs.toList = some ws) (h : k (.dat (.tuple (ws.map .str))) σ)
    (hx : C.env.kindOf x = some .globalImplicit := by rfl) (hdb : (x == ("__debug__" : Str)) = false := by decide) : WE W A C (.Name x pos) σ k := fun s H =>
  glob_val hC (H.stat hC) hide_le e (Post.here (x := .dat (.tuple (ws.map .str))) hC h H (Sm.refl _) (Le.refl _) (Rd.tup (vs := vs.toList) ⟨o, (H.stat hC).K _ _ ho, hc, n, by simpa using hd⟩ (strsOf_rds hw))) hx hdb
end

end Mine
namespace Mine

structure IsW (W : Wd) : Prop where
  K : W.K = hd.heap_1 W.w.params

noncomputable abbrev main : List Stmt := PySem.Challenge.pw_pq0929_01.main.body
noncomputable def bodyOf : Stmt → List Stmt
  | .FunctionDef _ _ body _ _ _ _ _ _ _ => body
  | _ => []
noncomputable def argsOf : Stmt → Arguments
  | .FunctionDef _ args _ _ _ _ _ _ _ _ => args
  | _ => default
noncomputable def scopeOf : Stmt → Scope
  | .FunctionDef _ _ _ _ _ _ scope _ _ _ => scope
  | _ => default
noncomputable def nth : Nat → List Stmt → Stmt
  | _, [] => .Pass ⟨0, 0, 0, 0⟩
  | 0, x :: _ => x
  | n + 1, _ :: r => nth n r
noncomputable def bodyAt (i : Nat) : List Stmt := bodyOf (nth i main)
noncomputable def argsAt (i : Nat) : Arguments := argsOf (nth i main)
noncomputable def scopeAt (i : Nat) : Scope := scopeOf (nth i main)
noncomputable def objAt (p : Params) (f : Addr) : Obj := ((hd.heap_1 p).lookup f).getD { cls := .none, data := .dict #[] }
noncomputable def fdAt (p : Params) (f : Addr) : FuncData := match (objAt p f).data with | .func fd => fd | _ => default

theorem lk (p : Params) (f : Addr) (h : ((hd.heap_1 p).lookup f).isSome = true) : (hd.heap_1 p).lookup f = some (objAt p f) := by
  unfold objAt
  cases e : (hd.heap_1 p).lookup f with
  | none => rw [e] at h; cases h
  | some o => rfl
theorem cellsFrom_has (x : Str) : ∀ (names : List (Str × NameKind)) (n : Nat) (acc : List (Str × Addr)), (x, NameKind.cell) ∈ names → ((cellsFrom n names acc).lookup x).isSome = true
  | [], _, _, h => by cases h
  | (y, kind) :: r, n, acc, h => by
    have grow : ∀ (names : List (Str × NameKind)) (n : Nat) (acc : List (Str × Addr)), (acc.lookup x).isSome = true → ((cellsFrom n names acc).lookup x).isSome = true := by
      intro names
      induction names with
      | nil => intro n acc h; exact h
      | cons z r ih =>
        intro n acc h
        obtain ⟨z1, z2⟩ := z
        unfold cellsFrom
        split
        · refine ih _ _ ?_
          simp only [List.lookup]
          cases x == z1 <;> simp [h]
        · exact ih _ _ h
    unfold cellsFrom
    rcases List.mem_cons.mp h with e | h
    · cases e
      rw [if_pos (by rfl)]
      exact grow _ _ _ (by simp [List.lookup])
    · split
      · exact cellsFrom_has x r _ _ h
      · exact cellsFrom_has x r _ _ h

theorem mkDef {W : Wd} (hW : IsW W) (i f : Nat) (c : Addr) (nm : Str) (ps : List Str)
    (h1 : ∀ p, ((hd.heap_1 p).lookup f).isSome = true) (h2 : ∀ p, nsIn (hd.heap_1 p) mainGlobals nm = some (some (.ref f))) (h3 : ∀ p, (objAt p f).data = .func (fdAt p f))
    (h4 : ∀ p, fdAt p f = fnOf nm nm (argsAt i) (bodyAt i) (scopeAt i) .none .none (fdAt p f).doc (fdAt p f).pyModule none (.ref c) (fdAt p f).closureTuple)
    (h5 : ∀ p, codeIn (hd.heap_1 p) (.ref c) nm = true) (h6 : ∀ p, ∀ vs : List Value, vs.length = ps.length → bindArgs (fdAt p f) ⟨vs, []⟩ = pure (ps.zip vs)) (h7 : ps.Nodup)
    (h8 : (ps.all fun x => (scopeAt i).names.lookup x == some .local || ((scopeAt i).names.lookup x == some .cell)) = true)
    (h9 : ((cellsFrom 0 (scopeAt i).names []).map (·.1)).Nodup) (h10 : (scopeAt i).kind = .function) (h11 : (scopeAt i).isCoroutine = false) (h12 : (scopeAt i).isGenerator = false) :
    ∃ fd, Def W nm f ps (argsAt i) (bodyAt i) (scopeAt i) (.ref c) fd := by
  refine ⟨fdAt W.w.params f, ⟨by rw [hW.K]; exact h2 _, objAt W.w.params f, by rw [hW.K]; exact lk _ _ (h1 _), h3 _⟩, ⟨_, _, _, h4 _⟩, by rw [hW.K]; exact h5 _, h6 _, h7, fun n x hx => ?_, h9, h10, h11, h12⟩
  have := List.all_eq_true.mp h8 x hx
  simp only [Bool.or_eq_true, beq_iff_eq] at this
  refine this.imp id fun h => ⟨h, ?_⟩
  exact cellsFrom_has _ _ _ _ (mem_of_lookup h)

theorem D_upper_text {W : Wd} (hW : IsW W) : ∃ fd, Def W (Str.ofString "upper_text") 66 [Str.ofString "text"] (argsAt 5) (bodyAt 5) (scopeAt 5) (.ref 65) fd :=
  mkDef hW 5 66 65 _ _ (fun _ => by kernel_rfl) (fun _ => by kernel_rfl) (fun _ => by kernel_rfl) (fun _ => by kernel_rfl) (fun _ => by kernel_rfl)
    (fun _ vs h => match vs, h with
    | [a], _ => by kernel_rfl
    | [], h => by cases h
    | _ :: _ :: _, h => by cases h
    )
    (by decide) (by kernel_rfl) (by decide +kernel) (by kernel_rfl) (by kernel_rfl) (by kernel_rfl)

theorem D_sort_words {W : Wd} (hW : IsW W) : ∃ fd, Def W (Str.ofString "sort_words") 73 [] (argsAt 8) (bodyAt 8) (scopeAt 8) (.ref 72) fd :=
  mkDef hW 8 73 72 _ _ (fun _ => by kernel_rfl) (fun _ => by kernel_rfl) (fun _ => by kernel_rfl) (fun _ => by kernel_rfl) (fun _ => by kernel_rfl)
    (fun _ vs h => match vs, h with
    | [], _ => by kernel_rfl
    | _ :: _, h => by cases h
    )
    (by decide) (by kernel_rfl) (by decide +kernel) (by kernel_rfl) (by kernel_rfl) (by kernel_rfl)

theorem D_read_sort_keys {W : Wd} (hW : IsW W) : ∃ fd, Def W (Str.ofString "read_sort_keys") 80 [Str.ofString "words"] (argsAt 9) (bodyAt 9) (scopeAt 9) (.ref 79) fd :=
  mkDef hW 9 80 79 _ _ (fun _ => by kernel_rfl) (fun _ => by kernel_rfl) (fun _ => by kernel_rfl) (fun _ => by kernel_rfl) (fun _ => by kernel_rfl)
    (fun _ vs h => match vs, h with
    | [a], _ => by kernel_rfl
    | [], h => by cases h
    | _ :: _ :: _, h => by cases h
    )
    (by decide) (by kernel_rfl) (by decide +kernel) (by kernel_rfl) (by kernel_rfl) (by kernel_rfl)

theorem D_show_sort_keys {W : Wd} (hW : IsW W) : ∃ fd, Def W (Str.ofString "show_sort_keys") 87 [Str.ofString "keys"] (argsAt 10) (bodyAt 10) (scopeAt 10) (.ref 86) fd :=
  mkDef hW 10 87 86 _ _ (fun _ => by kernel_rfl) (fun _ => by kernel_rfl) (fun _ => by kernel_rfl) (fun _ => by kernel_rfl) (fun _ => by kernel_rfl)
    (fun _ vs h => match vs, h with
    | [a], _ => by kernel_rfl
    | [], h => by cases h
    | _ :: _ :: _, h => by cases h
    )
    (by decide) (by kernel_rfl) (by decide +kernel) (by kernel_rfl) (by kernel_rfl) (by kernel_rfl)

theorem D_sort_rows {W : Wd} (hW : IsW W) : ∃ fd, Def W (Str.ofString "sort_rows") 92 [Str.ofString "keys", Str.ofString "rows"] (argsAt 11) (bodyAt 11) (scopeAt 11) (.ref 91) fd :=
  mkDef hW 11 92 91 _ _ (fun _ => by kernel_rfl) (fun _ => by kernel_rfl) (fun _ => by kernel_rfl) (fun _ => by kernel_rfl) (fun _ => by kernel_rfl)
    (fun _ vs h => match vs, h with
    | [a, b], _ => by kernel_rfl
    | [], h => by cases h
    | [_], h => by cases h
    | _ :: _ :: _ :: _, h => by cases h
    )
    (by decide) (by kernel_rfl) (by decide +kernel) (by kernel_rfl) (by kernel_rfl) (by kernel_rfl)

theorem D_is_ahead {W : Wd} (hW : IsW W) : ∃ fd, Def W (Str.ofString "is_ahead") 99 [Str.ofString "keys", Str.ofString "one", Str.ofString "other"] (argsAt 12) (bodyAt 12) (scopeAt 12) (.ref 98) fd :=
  mkDef hW 12 99 98 _ _ (fun _ => by kernel_rfl) (fun _ => by kernel_rfl) (fun _ => by kernel_rfl) (fun _ => by kernel_rfl) (fun _ => by kernel_rfl)
    (fun _ vs h => match vs, h with
    | [a, b, c], _ => by kernel_rfl
    | [], h => by cases h
    | [_], h => by cases h
    | [_, _], h => by cases h
    | _ :: _ :: _ :: _ :: _, h => by cases h
    )
    (by decide) (by kernel_rfl) (by decide +kernel) (by kernel_rfl) (by kernel_rfl) (by kernel_rfl)

theorem D_sorted_place {W : Wd} (hW : IsW W) : ∃ fd, Def W (Str.ofString "sorted_place") 106 [Str.ofString "keys", Str.ofString "rows", Str.ofString "row"] (argsAt 13) (bodyAt 13) (scopeAt 13) (.ref 105) fd :=
  mkDef hW 13 106 105 _ _ (fun _ => by kernel_rfl) (fun _ => by kernel_rfl) (fun _ => by kernel_rfl) (fun _ => by kernel_rfl) (fun _ => by kernel_rfl)
    (fun _ vs h => match vs, h with
    | [a, b, c], _ => by kernel_rfl
    | [], h => by cases h
    | [_], h => by cases h
    | [_, _], h => by cases h
    | _ :: _ :: _ :: _ :: _, h => by cases h
    )
    (by decide) (by kernel_rfl) (by decide +kernel) (by kernel_rfl) (by kernel_rfl) (by kernel_rfl)

theorem D_sorted_with {W : Wd} (hW : IsW W) : ∃ fd, Def W (Str.ofString "sorted_with") 113 [Str.ofString "keys", Str.ofString "rows", Str.ofString "row"] (argsAt 14) (bodyAt 14) (scopeAt 14) (.ref 112) fd :=
  mkDef hW 14 113 112 _ _ (fun _ => by kernel_rfl) (fun _ => by kernel_rfl) (fun _ => by kernel_rfl) (fun _ => by kernel_rfl) (fun _ => by kernel_rfl)
    (fun _ vs h => match vs, h with
    | [a, b, c], _ => by kernel_rfl
    | [], h => by cases h
    | [_], h => by cases h
    | [_, _], h => by cases h
    | _ :: _ :: _ :: _ :: _, h => by cases h
    )
    (by decide) (by kernel_rfl) (by decide +kernel) (by kernel_rfl) (by kernel_rfl) (by kernel_rfl)

theorem D_merged_rows {W : Wd} (hW : IsW W) : ∃ fd, Def W (Str.ofString "merged_rows") 120 [Str.ofString "keys", Str.ofString "one", Str.ofString "other"] (argsAt 15) (bodyAt 15) (scopeAt 15) (.ref 119) fd :=
  mkDef hW 15 120 119 _ _ (fun _ => by kernel_rfl) (fun _ => by kernel_rfl) (fun _ => by kernel_rfl) (fun _ => by kernel_rfl) (fun _ => by kernel_rfl)
    (fun _ vs h => match vs, h with
    | [a, b, c], _ => by kernel_rfl
    | [], h => by cases h
    | [_], h => by cases h
    | [_, _], h => by cases h
    | _ :: _ :: _ :: _ :: _, h => by cases h
    )
    (by decide) (by kernel_rfl) (by decide +kernel) (by kernel_rfl) (by kernel_rfl) (by kernel_rfl)

theorem D_law_pen {W : Wd} (hW : IsW W) : ∃ fd, Def W (Str.ofString "_law_pen") 126 [Str.ofString "script"] (argsAt 20) (bodyAt 20) (scopeAt 20) (.ref 125) fd :=
  mkDef hW 20 126 125 _ _ (fun _ => by kernel_rfl) (fun _ => by kernel_rfl) (fun _ => by kernel_rfl) (fun _ => by kernel_rfl) (fun _ => by kernel_rfl)
    (fun _ vs h => match vs, h with
    | [a], _ => by kernel_rfl
    | [], h => by cases h
    | _ :: _ :: _, h => by cases h
    )
    (by decide) (by kernel_rfl) (by decide +kernel) (by kernel_rfl) (by kernel_rfl) (by kernel_rfl)

theorem D_law_drawn {W : Wd} (hW : IsW W) : ∃ fd, Def W (Str.ofString "_law_drawn") 133 [Str.ofString "pen", Str.ofString "many"] (argsAt 21) (bodyAt 21) (scopeAt 21) (.ref 132) fd :=
  mkDef hW 21 133 132 _ _ (fun _ => by kernel_rfl) (fun _ => by kernel_rfl) (fun _ => by kernel_rfl) (fun _ => by kernel_rfl) (fun _ => by kernel_rfl)
    (fun _ vs h => match vs, h with
    | [a, b], _ => by kernel_rfl
    | [], h => by cases h
    | [_], h => by cases h
    | _ :: _ :: _ :: _, h => by cases h
    )
    (by decide) (by kernel_rfl) (by decide +kernel) (by kernel_rfl) (by kernel_rfl) (by kernel_rfl)

theorem D_law_keys {W : Wd} (hW : IsW W) : ∃ fd, Def W (Str.ofString "_law_keys") 138 [Str.ofString "pen", Str.ofString "many"] (argsAt 22) (bodyAt 22) (scopeAt 22) (.ref 137) fd :=
  mkDef hW 22 138 137 _ _ (fun _ => by kernel_rfl) (fun _ => by kernel_rfl) (fun _ => by kernel_rfl) (fun _ => by kernel_rfl) (fun _ => by kernel_rfl)
    (fun _ vs h => match vs, h with
    | [a, b], _ => by kernel_rfl
    | [], h => by cases h
    | [_], h => by cases h
    | _ :: _ :: _ :: _, h => by cases h
    )
    (by decide) (by kernel_rfl) (by decide +kernel) (by kernel_rfl) (by kernel_rfl) (by kernel_rfl)

theorem D_law_worth {W : Wd} (hW : IsW W) : ∃ fd, Def W (Str.ofString "_law_worth") 143 [Str.ofString "pen", Str.ofString "word"] (argsAt 23) (bodyAt 23) (scopeAt 23) (.ref 142) fd :=
  mkDef hW 23 143 142 _ _ (fun _ => by kernel_rfl) (fun _ => by kernel_rfl) (fun _ => by kernel_rfl) (fun _ => by kernel_rfl) (fun _ => by kernel_rfl)
    (fun _ vs h => match vs, h with
    | [a, b], _ => by kernel_rfl
    | [], h => by cases h
    | [_], h => by cases h
    | _ :: _ :: _ :: _, h => by cases h
    )
    (by decide) (by kernel_rfl) (by decide +kernel) (by kernel_rfl) (by kernel_rfl) (by kernel_rfl)

theorem D_law_rows {W : Wd} (hW : IsW W) : ∃ fd, Def W (Str.ofString "_law_rows") 148 [Str.ofString "pen", Str.ofString "keys", Str.ofString "count"] (argsAt 24) (bodyAt 24) (scopeAt 24) (.ref 147) fd :=
  mkDef hW 24 148 147 _ _ (fun _ => by kernel_rfl) (fun _ => by kernel_rfl) (fun _ => by kernel_rfl) (fun _ => by kernel_rfl) (fun _ => by kernel_rfl)
    (fun _ vs h => match vs, h with
    | [a, b, c], _ => by kernel_rfl
    | [], h => by cases h
    | [_], h => by cases h
    | [_, _], h => by cases h
    | _ :: _ :: _ :: _ :: _, h => by cases h
    )
    (by decide) (by kernel_rfl) (by decide +kernel) (by kernel_rfl) (by kernel_rfl) (by kernel_rfl)

theorem D_law_weights {W : Wd} (hW : IsW W) : ∃ fd, Def W (Str.ofString "_law_weights") 153 [Str.ofString "keys", Str.ofString "rows"] (argsAt 25) (bodyAt 25) (scopeAt 25) (.ref 152) fd :=
  mkDef hW 25 153 152 _ _ (fun _ => by kernel_rfl) (fun _ => by kernel_rfl) (fun _ => by kernel_rfl) (fun _ => by kernel_rfl) (fun _ => by kernel_rfl)
    (fun _ vs h => match vs, h with
    | [a, b], _ => by kernel_rfl
    | [], h => by cases h
    | [_], h => by cases h
    | _ :: _ :: _ :: _, h => by cases h
    )
    (by decide) (by kernel_rfl) (by decide +kernel) (by kernel_rfl) (by kernel_rfl) (by kernel_rfl)

theorem D_law_refused {W : Wd} (hW : IsW W) : ∃ fd, Def W (Str.ofString "_law_refused") 160 [Str.ofString "words"] (argsAt 26) (bodyAt 26) (scopeAt 26) (.ref 159) fd :=
  mkDef hW 26 160 159 _ _ (fun _ => by kernel_rfl) (fun _ => by kernel_rfl) (fun _ => by kernel_rfl) (fun _ => by kernel_rfl) (fun _ => by kernel_rfl)
    (fun _ vs h => match vs, h with
    | [a], _ => by kernel_rfl
    | [], h => by cases h
    | _ :: _ :: _, h => by cases h
    )
    (by decide) (by kernel_rfl) (by decide +kernel) (by kernel_rfl) (by kernel_rfl) (by kernel_rfl)

theorem D_law_words_right {W : Wd} (hW : IsW W) : ∃ fd, Def W (Str.ofString "_law_words_right") 167 [Str.ofString "pen", Str.ofString "keys", Str.ofString "words"] (argsAt 27) (bodyAt 27) (scopeAt 27) (.ref 166) fd :=
  mkDef hW 27 167 166 _ _ (fun _ => by kernel_rfl) (fun _ => by kernel_rfl) (fun _ => by kernel_rfl) (fun _ => by kernel_rfl) (fun _ => by kernel_rfl)
    (fun _ vs h => match vs, h with
    | [a, b, c], _ => by kernel_rfl
    | [], h => by cases h
    | [_], h => by cases h
    | [_, _], h => by cases h
    | _ :: _ :: _ :: _ :: _, h => by cases h
    )
    (by decide) (by kernel_rfl) (by decide +kernel) (by kernel_rfl) (by kernel_rfl) (by kernel_rfl)

theorem D_law_merged_right {W : Wd} (hW : IsW W) : ∃ fd, Def W (Str.ofString "_law_merged_right") 174 [Str.ofString "pen", Str.ofString "keys", Str.ofString "due"] (argsAt 28) (bodyAt 28) (scopeAt 28) (.ref 173) fd :=
  mkDef hW 28 174 173 _ _ (fun _ => by kernel_rfl) (fun _ => by kernel_rfl) (fun _ => by kernel_rfl) (fun _ => by kernel_rfl) (fun _ => by kernel_rfl)
    (fun _ vs h => match vs, h with
    | [a, b, c], _ => by kernel_rfl
    | [], h => by cases h
    | [_], h => by cases h
    | [_, _], h => by cases h
    | _ :: _ :: _ :: _ :: _, h => by cases h
    )
    (by decide) (by kernel_rfl) (by decide +kernel) (by kernel_rfl) (by kernel_rfl) (by kernel_rfl)

theorem D_law {W : Wd} (hW : IsW W) : ∃ fd, Def W (Str.ofString "law") 179 [Str.ofString "script"] (argsAt 29) (bodyAt 29) (scopeAt 29) (.ref 178) fd :=
  mkDef hW 29 179 178 _ _ (fun _ => by kernel_rfl) (fun _ => by kernel_rfl) (fun _ => by kernel_rfl) (fun _ => by kernel_rfl) (fun _ => by kernel_rfl)
    (fun _ vs h => match vs, h with
    | [a], _ => by kernel_rfl
    | [], h => by cases h
    | _ :: _ :: _, h => by cases h
    )
    (by decide) (by kernel_rfl) (by decide +kernel) (by kernel_rfl) (by kernel_rfl) (by kernel_rfl)

end Mine
namespace Mine
section
variable {W : Wd} {A : Around} {C : Act} {σ : St} {k : V → St → Prop} {E : Value → Shared → Prop} {kf : Fl → St → Prop} {scope : Scope}

theorem lk_eq {x : Str} {v : V} {l : List (Str × V)} : (setL x v l).lookup x = some v := by rw [setL_lookup, if_pos rfl]
theorem lk_ne {x y : Str} {v w : V} {l : List (Str × V)} (h : y ≠ x) (hl : l.lookup y = some w) : (setL x v l).lookup y = some w := by rw [setL_lookup, if_neg h]; exact hl
theorem lk_at {x y : Str} {v w : V} {l : List (Str × V)} (h : y = x) (e : v = w) : (setL x v l).lookup y = some w := by rw [setL_lookup, if_pos h, e]

inductive LenOf (mu : Mu) : V → Nat → Prop where
  | list {ds : List PyData} : LenOf mu (.dat (.list ds)) ds.length
  | str {w : Str} : LenOf mu (.dat (.str w)) w.length
  | mu {a : Addr} {xs : List V} (h : (a, xs) ∈ mu) : LenOf mu (.ref a) xs.length
theorem WE.len {np pos : Pos} {e : Expr} (hC : ActOk W C) (hb : Blt W (Str.ofString "len")) (h : WE W A C e σ fun x σ1 => ∃ n, A3 (LenOf σ1.mu x n) (n ≤ sizeLine) (k (.dat (.int (n : Nat))) σ1))
    (hx : C.env.kindOf (Str.ofString "len") = some .globalImplicit := by rfl) (he : starEach [e] C.env = [(false, eval e C.env)] := by rfl) : WE W A C (.Call (.Name (Str.ofString "len") np) [e] [] pos) σ k :=
  WE.callB hC hb PyProof.Rows.Boot.len (WEs.one (h.mono fun x σ1 ⟨n, hn, hz, hk⟩ s vs H l => by
    have h62 : sizeLine < 2 ^ 62 := by decide
    obtain ⟨v, rfl, lv⟩ := l.one
    cases hn with
    | list =>
      obtain ⟨a, vs, rfl, il, r⟩ := Rd.list_inv lv
      have hz' : vs.length ≤ sizeLine := by rw [r.len]; exact hz
      refine call_len_list (up_list il) (by rw [List.size_toArray]; lia) ?_
      rw [List.size_toArray, r.len]
      exact Post.here hC hk H ⟨_, _, rfl⟩ (Le.refl _) Rd.int
    | str =>
      obtain ⟨t, rfl⟩ := Rd.str_inv lv
      exact PySem.P.len_str (by lia) (Post.here hC hk H ⟨_, _, rfl⟩ (Le.refl _) Rd.int)
    | @mu a xs hm =>
      obtain rfl : v = .ref a := lv
      obtain ⟨its, n, e2, lx⟩ := H.mus _ hm
      have hlen : its.size = xs.length := by rw [← Array.length_toList]; exact lx.len
      refine call_len_list ⟨_, e2, rfl, n, rfl⟩ (by rw [hlen]; lia) ?_
      rw [hlen]
      exact Post.here hC hk H ⟨_, _, rfl⟩ (Le.refl _) Rd.int) he) hx (he := he)

inductive SubOf (W : Wd) (mu : Mu) : V → V → V → Prop where
  | dat {dx dy dr : PyData} (ix : Indexed dx) (o : Op2 W getItem dx dy dr) : SubOf W mu (.dat dx) (.dat dy) (.dat dr)
  | mu {a : Addr} {xs : List V} {j : Int} {z : V} (h : (a, xs) ∈ mu) (h0 : 0 ≤ j) (h1 : j < 2 ^ 63) (hz : xs[j.toNat]? = some z) : SubOf W mu (.ref a) (.dat (.int j)) z
theorem SubOf.list {mu : Mu} {ds : List PyData} {i : Int} {d : PyData} (h0 : 0 ≤ i) (h1 : i < 2 ^ 63) (hd : ds[i.toNat]? = some d) : SubOf W mu (.dat (.list ds)) (.dat (.int i)) (.dat d) := .dat .list (Op2.get_list h0 h1 hd)
theorem SubOf.tup {mu : Mu} {ds : List PyData} {i : Int} {d : PyData} (h0 : 0 ≤ i) (h1 : i < 2 ^ 63) (hd : ds[i.toNat]? = some d) : SubOf W mu (.dat (.tuple ds)) (.dat (.int i)) (.dat d) := .dat .tup (Op2.get_tup h0 h1 hd)
theorem SubOf.str {mu : Mu} {w : Str} {i : Int} {c : Nat} (h0 : 0 ≤ i) (h1 : i < 2 ^ 63) (hd : w.cps[i.toNat]? = some c) : SubOf W mu (.dat (.str w)) (.dat (.int i)) (.dat (.str ⟨#[c]⟩)) := .dat .str (Op2.get_str h0 h1 hd)
theorem WE.subU {v i : Expr} {pos : Pos} (hC : ActOk W C) (hr : Rm 10 A)
    (h : WE W A C v σ fun x σ1 => WE W A C i σ1 fun y σ2 => ∃ z, SubOf W σ2.mu x y z ∧ k z σ2)
    (hs : ∀ o j, subscripted i false o j = operate [o, j] (getItem o j) := by intro _ _; rfl) : WE W A C (.Subscript v i pos) σ k := fun s H => by
  refine Subscript_ (wpAny_mono (h s H) (fun v s1 hqq => ?_) fun _ _ e => e)
  obtain ⟨x, σ1, h1, sm1, H1, le1, l1⟩ := hqq
  refine wpAny_mono (h1 s1 H1) (fun w s2 hqq => ?_) fun _ _ e => e
  obtain ⟨y, σ2, ⟨z, hz, hk⟩, sm2, H2, le2, l2⟩ := hqq
  cases hz with
  | dat ix o =>
    obtain ⟨T, id, hT, hl⟩ := ix.slot (l1.keeps le2) (hide_le (h := s2.heap))
    refine subTail hT hl ⟨_, hs _ _⟩ ?_
    exact wpAny_mono (op2_post hC hr o H2 hk (l1.keeps le2) l2) (fun u s3 p => p.lift (sm1.trans sm2) (le1.trans le2)) fun _ _ e => e
  | @mu a xs j _ hm h0 hj hz =>
    obtain ⟨t, rfl⟩ := Rd.int_inv l2
    obtain rfl : v = .ref a := l1
    obtain ⟨its, n, e, lx⟩ := H2.mus _ hm
    have il : s2.heap.IsList a its := ⟨_, e, rfl, n, rfl⟩
    obtain ⟨u, eu, lu⟩ := lx.get _ hz
    refine subTail il.typeIs slot_list_getitem.lookup ⟨_, hs _ _⟩ (wpAny_getItem_list il h0 hj (by simpa using eu) ?_)
    exact ⟨z, σ2, hk, sm1.trans sm2, H2, le1.trans le2, lu⟩

/-- what two operands give -/
noncomputable def Ope (W : Wd) (t : Value → Value → Sem Value) (x y : V) (k : PyData → Prop) : Prop := Ex3 fun dx dy dr => A4 (x = .dat dx) (y = .dat dy) (Op2 W t dx dy dr) (k dr)
theorem Ope.mk {t : Value → Value → Sem Value} {dx dy dr : PyData} {k : PyData → Prop} (o : Op2 W t dx dy dr) (h : k dr) : Ope W t (.dat dx) (.dat dy) k := ⟨_, _, _, rfl, rfl, o, h⟩
theorem WE.binopU {l r : Expr} {op : Operator} {pos : Pos} (hC : ActOk W C) (hr : Rm 10 A)
    (h : WE W A C l σ fun x σ1 => WE W A C r σ1 fun y σ2 => Ope W (binaryOp op) x y fun d => k (.dat d) σ2) : WE W A C (.BinOp l op r pos) σ k := WE.binop hC hr h
theorem WE.cmpU {l r : Expr} {op : CmpOp} {pos : Pos} (hC : ActOk W C) (hr : Rm 10 A)
    (h : WE W A C l σ fun x σ1 => WE W A C r σ1 fun y σ2 => Ope W (compareOp op) x y fun d => k (.dat d) σ2)
    (hm : behindInMarks op r = false := by with_unfolding_all rfl) : WE W A C (.Compare l [op] [r] pos) σ k := WE.cmp hC hr h hm
noncomputable def OpeB (W : Wd) (t : Value → Value → Sem Value) (x y : V) (k : Bool → Prop) : Prop := Ex3 fun dx dy b => A4 (x = .dat dx) (y = .dat dy) (Op2 W t dx dy (.bool b)) (k b)
theorem OpeB.mk {t : Value → Value → Sem Value} {dx dy : PyData} {b : Bool} {k : Bool → Prop} (o : Op2 W t dx dy (.bool b)) (h : k b) : OpeB W t (.dat dx) (.dat dy) k := ⟨_, _, _, rfl, rfl, o, h⟩
theorem WT.cmpU {l r : Expr} {op : CmpOp} {pos : Pos} {kb : Bool → St → Prop} (hC : ActOk W C) (hr : Rm 10 A)
    (h : WE W A C l σ fun x σ1 => WE W A C r σ1 fun y σ2 => OpeB W (compareOp op) x y fun b => kb b σ2)
    (hm : behindInMarks op r = false := by with_unfolding_all rfl) : WT W A C (.Compare l [op] [r] pos) σ kb := WT.cmp hC hr h hm

theorem Ope.add_int {a b : Int} {k : PyData → Prop} (h : k (.int (a + b))) : Ope W (binaryOp .Add) (.dat (.int a)) (.dat (.int b)) k := .mk Op2.add_int h
theorem Ope.sub_int {a b : Int} {k : PyData → Prop} (h : k (.int (a - b))) : Ope W (binaryOp .Sub) (.dat (.int a)) (.dat (.int b)) k := .mk Op2.sub_int h
theorem Ope.mul_int {a b : Int} {k : PyData → Prop} (hm : IntMulOk a b) (h : k (.int (a * b))) : Ope W (binaryOp .Mult) (.dat (.int a)) (.dat (.int b)) k := .mk (Op2.mul_int hm) h
theorem Ope.mod_int {a b : Int} {k : PyData → Prop} (hm : b ≠ 0) (h : k (.int (a.fmod b))) : Ope W (binaryOp .Mod) (.dat (.int a)) (.dat (.int b)) k := .mk (Op2.mod_int hm) h
theorem Ope.fdiv_int {a b : Int} {k : PyData → Prop} (h0 : 0 < b) (h1 : b < 1073741824) (h : k (.int (a.fdiv b))) : Ope W (binaryOp .FloorDiv) (.dat (.int a)) (.dat (.int b)) k := .mk (Op2.fdiv_int (by lia) (PyProof.noPylong_small (by lia))) h
theorem Ope.shr_int {a b : Int} {k : PyData → Prop} (h0 : 0 ≤ b) (h : k (.int (a.fdiv (2 ^ b.toNat)))) : Ope W (binaryOp .RShift) (.dat (.int a)) (.dat (.int b)) k := .mk (Op2.shr_int h0) h
theorem Ope.and_int {a b : Int} {k : PyData → Prop} (h : k (.int (Builtin.bitAnd a b))) : Ope W (binaryOp .BitAnd) (.dat (.int a)) (.dat (.int b)) k := .mk Op2.and_int h
theorem Ope.add_str {a b : Str} {k : PyData → Prop} (hz : a.length + b.length ≤ sizeLine) (h : k (.str (a ++ b))) : Ope W (binaryOp .Add) (.dat (.str a)) (.dat (.str b)) k := .mk (Op2.add_str hz) h
theorem Ope.add_list {a b : List PyData} {k : PyData → Prop} (hz : a.length + b.length ≤ sizeLine) (h : k (.list (a ++ b))) : Ope W (binaryOp .Add) (.dat (.list a)) (.dat (.list b)) k := .mk (Op2.add_list hz) h
theorem OpeB.lt_int {a b : Int} {k : Bool → Prop} (h : k (decide (a < b))) : OpeB W (compareOp .Lt) (.dat (.int a)) (.dat (.int b)) k := .mk Op2.lt_int h
theorem Ope.lt_int {a b : Int} {k : PyData → Prop} (h : k (.bool (decide (a < b)))) : Ope W (compareOp .Lt) (.dat (.int a)) (.dat (.int b)) k := .mk Op2.lt_int h
theorem OpeB.lt_str {a b : Str} {k : Bool → Prop} (h : k (decide (a.cps.toList < b.cps.toList))) : OpeB W (compareOp .Lt) (.dat (.str a)) (.dat (.str b)) k := .mk Op2.lt_str h
theorem Ope.lt_str {a b : Str} {k : PyData → Prop} (h : k (.bool (decide (a.cps.toList < b.cps.toList)))) : Ope W (compareOp .Lt) (.dat (.str a)) (.dat (.str b)) k := .mk Op2.lt_str h
theorem OpeB.eq {a b : PyData} {k : Bool → Prop} (ha : SeqAt.shaped a = true) (hb : SeqAt.shaped b = true) (h : k (PyData.eqv a b)) : OpeB W (compareOp .Eq) (.dat a) (.dat b) k := .mk (Op2.eq ha hb) h
theorem OpeB.ne {a b : PyData} {k : Bool → Prop} (ha : SeqAt.shaped a = true) (hb : SeqAt.shaped b = true) (h : k (!PyData.eqv a b)) : OpeB W (compareOp .NotEq) (.dat a) (.dat b) k := .mk (Op2.ne ha hb) h
theorem Ope.eq {a b : PyData} {k : PyData → Prop} (ha : SeqAt.shaped a = true) (hb : SeqAt.shaped b = true) (h : k (.bool (PyData.eqv a b))) : Ope W (compareOp .Eq) (.dat a) (.dat b) k := .mk (Op2.eq ha hb) h
theorem Ope.ne {a b : PyData} {k : PyData → Prop} (ha : SeqAt.shaped a = true) (hb : SeqAt.shaped b = true) (h : k (.bool (!PyData.eqv a b))) : Ope W (compareOp .NotEq) (.dat a) (.dat b) k := .mk (Op2.ne ha hb) h
/-- the rest of a block -/
noncomputable abbrev SeqK (W : Wd) (A : Around) (C : Act) (E : Value → Shared → Prop) (rest : List Stmt) (kf : Fl → St → Prop) : Fl → St → Prop
  | .next, σ => WX W A C E rest σ kf
  | .brk, σ => kf .brk σ
  | .cont, σ => kf .cont σ
  | .ret v, σ => kf (.ret v) σ
theorem WX.consU {st : Stmt} {rest : List Stmt} (h : WS W A C E st σ (SeqK W A C E rest kf)) : WX W A C E (st :: rest) σ kf := WX.cons (h.mono fun f σ1 h => by cases f <;> exact h)
theorem Calls.nd {d : Nat} {f : Value} {xs : List V} {mu : Mu} {k : V → Mu → Prop} (h : (keys mu).Nodup → Calls W d f xs mu k) : Calls W d f xs mu k := fun A s vs l hr B la =>
  h (List.nodup_cons.mp B.nodup).2 A s vs l hr B la
/-- how a def's body ends -/
inductive End (k : V → Mu → Prop) : Fl → St → Prop where
  | ret {x : V} {σ : St} (h : k x σ.mu) : End k (.ret x) σ
  | fall {σ : St} (h : k (.dat .none) σ.mu) : End k .next σ
theorem Calls.introU {name : Str} {f : Addr} {ps : List Str} {params : Arguments} {body : List Stmt} {scope : Scope} {cdv : Value} {fd : FuncData} {d : Nat} {xs : List V} {mu : Mu} {k : V → Mu → Prop}
    (D : Def W name f ps params body scope cdv fd) (hlen : xs.length = ps.length)
    (B : ∀ A L h₀ l s₀, ActOk W (actOf name f scope cdv L h₀ l s₀) → Rm d A → WX W A (actOf name f scope cdv L h₀ l s₀) NoE body ⟨ps.zip xs, mu⟩ (End k)) : Calls W (d + 1) (.ref f) xs mu k :=
  Calls.intro D hlen fun A L h₀ l s₀ hC hr => (B A L h₀ l s₀ hC hr).mono fun fl σ' h => by
    cases h with
    | ret h => exact ⟨_, .inl rfl, h⟩
    | fall h => exact ⟨_, .inr ⟨rfl, rfl⟩, h⟩
/-- the lists that are being changed have addresses of their own -/
theorem WX.nd {st : List Stmt} (h : (keys σ.mu).Nodup → WX W A C E st σ kf) : WX W A C E st σ kf := fun s sm H => h H.mund s sm H

theorem setMu_skip {a b : Addr} {y z : List V} {mu : Mu} (h : b ≠ a) : setMu a z ((b, y) :: mu) = (b, y) :: setMu a z mu := by simp [setMu, h]
theorem setMu_off {a : Addr} {z : List V} : ∀ {mu : Mu}, a ∉ keys mu → setMu a z mu = mu
  | [], _ => rfl
  | (b, y) :: r, h => by
    have hb : b ≠ a := fun q => h (by subst q; exact .head _)
    rw [setMu_skip hb, setMu_off fun q => h (List.mem_cons_of_mem _ q)]
theorem setMu_hit {a : Addr} {y z : List V} {mu : Mu} (h : a ∉ keys mu) : setMu a z ((a, y) :: mu) = (a, z) :: mu := by
  have e : setMu a z ((a, y) :: mu) = (a, z) :: setMu a z mu := by simp [setMu]
  rw [e, setMu_off h]
theorem WX.muEq {st : List Stmt} {loc : List (Str × V)} {mu mu' : Mu} (e : mu = mu') (h : WX W A C E st ⟨loc, mu'⟩ kf) : WX W A C E st ⟨loc, mu⟩ kf := e ▸ h
theorem WE.nd {e : Expr} (h : (keys σ.mu).Nodup → WE W A C e σ k) : WE W A C e σ k := fun s H => h H.mund s H
theorem freeze_mu {loc : List (Str × V)} {a : Addr} {ys : List V} {mu : Mu} {d : PyData} (h : a ∉ keys mu) : (St.freeze ⟨loc, (a, ys) :: mu⟩ a d).mu = mu := by
  have e : (mu.filter fun p => p.1 ≠ a) = mu := List.filter_eq_self.mpr fun p hp => by
    have : p.1 ≠ a := fun q => h (q ▸ List.mem_map_of_mem (f := fun p : Addr × List V => p.1) hp)
    simpa using this
  show ((a, ys) :: mu).filter (fun p => p.1 ≠ a) = mu
  rw [List.filter_cons_of_neg (by simp), e]
theorem wes_mono {pos : Pos} {es : List Expr} {kk kk' : List V → St → Prop} (h : WEs W A C pos es σ kk) (hk : ∀ xs σ', kk xs σ' → kk' xs σ') : WEs W A C pos es σ kk' := fun s H =>
  wpAny_mono (h s H) (fun _ _ ⟨x, σ', a, b, c, d, e⟩ => ⟨x, σ', hk _ _ a, b, c, d, e⟩) fun _ _ x => x
/-- a call of a def that changes nothing -/
theorem WE.callPure {name : Str} {f : Addr} {fd : FuncData} {e : Expr} {es : List Expr} {np pos : Pos} (d : Nat) (hC : ActOk W C) (hr : Rm d A) (F : Fn W name f fd)
    (h : WEs W A C pos (e :: es) σ fun xs σ1 => ∃ r, Calls W d (.ref f) xs σ1.mu (fun x mu' => x = .dat r ∧ mu' = σ1.mu) ∧ k (.dat r) σ1)
    (hx : C.env.kindOf name = some .globalImplicit := by rfl) (hd : (name == ("__debug__" : Str)) = false := by decide)
    (hes : starEach (e :: es) C.env = (false, eval e C.env) :: starEach es C.env := by rfl) : WE W A C (.Call (.Name name np) (e :: es) [] pos) σ k :=
  WE.callFn d hC hr F (wes_mono h fun xs σ1 ⟨r, hc, hk⟩ => ⟨[], σ1.mu, _, rfl, hc, fun x mu' ⟨ex, em⟩ => by subst ex; subst em; exact hk⟩) hx hd hes
noncomputable def SwapK (names : List Str) (xs : List V) (k : Prop) : Prop := xs.length ≤ sizeLine ∧ names.length = xs.length ∧ k
theorem SwapK.mk {names : List Str} {xs : List V} {k : Prop} (h1 : xs.length ≤ sizeLine) (h2 : names.length = xs.length) (h : k) : SwapK names xs k := ⟨h1, h2, h⟩
theorem WS.assignSwapU {ts es : List Expr} {n n' : Nat} {tp vp pos : Pos} {names : List Str} (hC : ActOk W C) (hr : Rm 10 A) (hc : Cans C names.reverse)
    (h : WEs W A C vp es σ fun xs σ1 => SwapK names xs (kf .next (σ1.putAll names.reverse xs.reverse)))
    (hs : swapsWithSole [.Tuple ts n tp] (.Tuple es n' vp) pos.line C.env = pure false := by rfl)
    (hw : swappedStores [.Tuple ts n tp] (.Tuple es n' vp) C.env = pure (some names) := by rfl) :
    WS W A C E (.Assign [.Tuple ts n tp] (.Tuple es n' vp) pos) σ kf := WS.assignSwap hC hr hc h hs hw
theorem WT.mono {e : Expr} {kb kb' : Bool → St → Prop} (h : WT W A C e σ kb) (hk : ∀ b σ', kb b σ' → kb' b σ') : WT W A C e σ kb' := fun s H =>
  wpAny_mono (h s H) (fun _ _ ⟨σ', a, b, c, d⟩ => ⟨σ', hk _ _ a, b, c, d⟩) fun _ _ x => x
noncomputable def TupK (n : Nat) (xs : List V) (k : Prop) : Prop := xs.length ≤ sizeLine ∧ xs.length = n ∧ k
theorem TupK.mk {n : Nat} {xs : List V} {k : Prop} (h1 : xs.length ≤ sizeLine) (h2 : xs.length = n) (h : k) : TupK n xs k := ⟨h1, h2, h⟩
theorem WS.assignTupU {ts es : List Expr} {n n' : Nat} {tp vp pos : Pos} (hC : ActOk W C) (hr : Rm 10 A) (hn : (assignEach ts C.env).length = es.length)
    (h : WEs W A C vp es σ fun xs σ1 => TupK es.length xs (WAs W A C ts xs σ1 fun σ2 => kf .next σ2))
    (hs : swapsWithSole [.Tuple ts n tp] (.Tuple es n' vp) pos.line C.env = pure false := by rfl)
    (hw : swappedStores [.Tuple ts n tp] (.Tuple es n' vp) C.env = pure none := by rfl) (hstar : (assignEach ts C.env).findIdx? (·.1) = none := by rfl) :
    WS W A C E (.Assign [.Tuple ts n tp] (.Tuple es n' vp) pos) σ kf := WS.assignTup hC hr hn h hs hw hstar
theorem WE.same {e : Expr} (v : V) (h : WE W A C e σ fun x σ1 => x = v ∧ σ1 = σ) (hk : k v σ) : WE W A C e σ k := h.mono fun x σ1 ⟨a, b⟩ => by subst a; subst b; exact hk
theorem WT.same {e : Expr} {kb : Bool → St → Prop} (v : Bool) (h : WT W A C e σ fun x σ1 => x = v ∧ σ1 = σ) (hk : kb v σ) : WT W A C e σ kb := h.mono fun x σ1 ⟨a, b⟩ => by subst a; subst b; exact hk
/-- a truth -/
noncomputable def BoolV (x : V) (k : Bool → Prop) : Prop := ∃ b, x = .dat (.bool b) ∧ k b
theorem BoolV.mk {b : Bool} {k : Bool → Prop} (h : k b) : BoolV (.dat (.bool b)) k := ⟨b, rfl, h⟩
theorem WT.plainU {e : Expr} {kb : Bool → St → Prop} (h : WE W A C e σ fun x σ1 => BoolV x fun b => kb b σ1)
    (he : isTrue e C.env (eval e C.env) = (do let v ← eval e C.env; standAt e.pos; holding [v] (truthy v)) := by rfl) : WT W A C e σ kb := WT.plain h he
theorem WE.notU {e : Expr} {pos : Pos} (hC : ActOk W C) (hr : Rm 10 A) (h : WE W A C e σ fun x σ1 => BoolV x fun b => k (.dat (.bool (!b))) σ1) : WE W A C (.UnaryOp .Not e pos) σ k :=
  WE.unary hC hr (h.mono fun x σ1 ⟨b, ex, hk⟩ => ⟨_, _, ex, Op1.not_bool, hk⟩)
noncomputable def IntV (x : V) (k : Int → Prop) : Prop := ∃ b, x = .dat (.int b) ∧ k b
theorem IntV.mk {b : Int} {k : Int → Prop} (h : k b) : IntV (.dat (.int b)) k := ⟨b, rfl, h⟩
theorem WE.negU {e : Expr} {pos : Pos} (hC : ActOk W C) (hr : Rm 10 A) (h : WE W A C e σ fun x σ1 => IntV x fun b => k (.dat (.int (-b))) σ1) : WE W A C (.UnaryOp .USub e pos) σ k :=
  WE.unary hC hr (h.mono fun x σ1 ⟨b, ex, hk⟩ => ⟨_, _, ex, Op1.neg_int, hk⟩)
theorem WE.absU {np pos : Pos} {e : Expr} (hC : ActOk W C) (hb : Blt W (Str.ofString "abs")) (h : WE W A C e σ fun x σ1 => IntV x fun i => k (.dat (.int (if i < 0 then -i else i))) σ1)
    (hx : C.env.kindOf (Str.ofString "abs") = some .globalImplicit := by rfl) (he : starEach [e] C.env = [(false, eval e C.env)] := by rfl) : WE W A C (.Call (.Name (Str.ofString "abs") np) [e] [] pos) σ k := WE.abs hC hb h hx he
theorem WE.intU {np pos : Pos} {e : Expr} (hC : ActOk W C) (hb : Blt W (Str.ofString "int")) (h : WE W A C e σ fun x σ1 => IntV x fun i => k (.dat (.int i)) σ1)
    (hx : C.env.kindOf (Str.ofString "int") = some .globalImplicit := by rfl) (he : starEach [e] C.env = [(false, eval e C.env)] := by rfl) : WE W A C (.Call (.Name (Str.ofString "int") np) [e] [] pos) σ k := WE.int hC hb h hx he
/-- values that are data -/
noncomputable def Dats (xs : List V) (k : List PyData → Prop) : Prop := ∃ ds, xs = ds.map V.dat ∧ k ds
theorem Dats.nil {k : List PyData → Prop} (h : k []) : Dats [] k := ⟨[], rfl, h⟩
theorem Dats.cons {d : PyData} {xs : List V} {k : List PyData → Prop} (h : Dats xs fun ds => k (d :: ds)) : Dats (.dat d :: xs) k := let ⟨ds, e, h⟩ := h; ⟨d :: ds, by rw [e]; rfl, h⟩
theorem WE.tupleU {es : List Expr} {n : Nat} {pos : Pos} (hC : ActOk W C) (h : WEs W A C pos es σ fun xs σ1 => Dats xs fun ds => ds.length ≤ sizeLine ∧ k (.dat (.tuple ds)) σ1) : WE W A C (.Tuple es n pos) σ k := WE.tuple hC h
theorem WE.listU {es : List Expr} {pos : Pos} (hC : ActOk W C) (h : WEs W A C pos es σ fun xs σ1 => Dats xs fun ds => ds.length ≤ sizeLine ∧ k (.dat (.list ds)) σ1) : WE W A C (.List es pos) σ k := WE.list hC h
theorem WA.mono {t : Expr} {x : V} {k k' : St → Prop} (h : WA W A C t x σ k) (hk : ∀ σ', k σ' → k' σ') : WA W A C t x σ k' := fun s v H l =>
  wpAny_mono (h s v H l) (fun _ _ ⟨σ1, h1, b, c, d⟩ => ⟨σ1, hk _ h1, b, c, d⟩) fun _ _ e => e
theorem WA.pair {t1 t2 : Expr} {n : Nat} {pos : Pos} {d d1 d2 : PyData} {ku : St → Prop} (e : d = .tuple [d1, d2]) (hC : ActOk W C) (hr : Rm 10 A)
    (h : WA W A C t1 (.dat d1) σ fun σ1 => WA W A C t2 (.dat d2) σ1 ku) (hn : (assignEach [t1, t2] C.env).length = 2 := by rfl) (hstar : (assignEach [t1, t2] C.env).findIdx? (·.1) = none := by rfl)
    (he : assignEach [t1, t2] C.env = (false, PySem.assign t1 C.env) :: assignEach [t2] C.env := by rfl) (he2 : assignEach [t2] C.env = (false, PySem.assign t2 C.env) :: assignEach [] C.env := by rfl) : WA W A C (.Tuple [t1, t2] n pos) (.dat d) σ ku := by
  subst e
  exact WA.tuple hC hr hn (WAs.cons (h.mono fun σ1 h1 => WAs.cons (h1.mono fun σ2 h2 => WAs.nil h2) he2) he) hstar
/-- a loop by what holds before each turn -/
noncomputable abbrev TurnL (J : List PyData → St → Prop) (xs : List PyData) (kf : Fl → St → Prop) : Fl → St → Prop
  | .next, σ => J xs σ
  | .cont, σ => J xs σ
  | .brk, σ => kf .next σ
  | .ret v, σ => kf (.ret v) σ
theorem LoopW.gen {t : Expr} {body : List Stmt} (J : List PyData → St → Prop) (fin : ∀ σ, J [] σ → kf .next σ)
    (step : ∀ x xs σ, J (x :: xs) σ → ∀ h₀ l, ActOk W (C.at h₀ l) → WA W A (C.at h₀ l) t (.dat x) σ fun σ1 => WX W A (C.at h₀ l) E body σ1 (TurnL J xs kf)) :
    ∀ xs σ, J xs σ → LoopW W A C E t body kf xs σ
  | [], σ, h => fin σ h
  | x :: xs, σ, h => fun h₀ l hC s v H lv => wpAny_mono (step x xs σ h h₀ l hC s v H lv) (fun _ s1 ⟨σ1, h1, r1, r2, r3⟩ => ⟨σ1, h1.mono fun f σ2 h2 => by
      cases f with
      | next => exact LoopW.gen J fin step xs σ2 h2
      | cont => exact LoopW.gen J fin step xs σ2 h2
      | brk => exact h2
      | ret v => exact h2, r1, r2, r3⟩) fun _ _ e => e
theorem CompW.gen {t elt : Expr} {kc : List PyData → St → Prop} (J : List PyData → List PyData → St → Prop) (fin : ∀ acc σ, J [] acc σ → kc acc σ)
    (step : ∀ x xs acc σ, J (x :: xs) acc σ → ∀ h₀ l, ActOk W (C.at h₀ l) → WA W A (C.at h₀ l) t (.dat x) σ fun σ1 => WE W A (C.at h₀ l) elt σ1 fun y σ2 => ∃ d, y = .dat d ∧ J xs (acc ++ [d]) σ2) :
    ∀ xs acc σ, J xs acc σ → CompW W A C t [] elt kc xs acc σ
  | [], acc, σ, h => fin acc σ h
  | x :: xs, acc, σ, h => fun h₀ l hC => (step x xs acc σ h h₀ l hC).mono fun σ1 h1 => ⟨fun e => (by cases e), fun _ => h1.mono fun y σ2 ⟨d, ey, h2⟩ => ⟨d, ey, CompW.gen J fin step xs _ σ2 h2⟩⟩
theorem CompW.map {t elt : Expr} {kc : List PyData → St → Prop} {xs : List PyData} (g : PyData → PyData) (P : St → Prop) (hP : P σ) (fin : ∀ σ', P σ' → kc (xs.map g) σ')
    (turn : ∀ x, x ∈ xs → ∀ σ, P σ → ∀ h₀ l, ActOk W (C.at h₀ l) → WA W A (C.at h₀ l) t (.dat x) σ fun σ1 => WE W A (C.at h₀ l) elt σ1 fun y σ2 => y = .dat (g x) ∧ P σ2) : CompW W A C t [] elt kc xs [] σ :=
  CompW.gen (fun ys acc σ => P σ ∧ acc ++ ys.map g = xs.map g ∧ ∀ y ∈ ys, y ∈ xs) (fun acc σ ⟨p, e, _⟩ => by simp at e; rw [e]; exact fin σ p)
    (fun y ys acc σ ⟨p, e, m⟩ h₀ l hC => (turn y (m y (.head _)) σ p h₀ l hC).mono fun σ1 h => h.mono fun v σ2 ⟨ev, p2⟩ => ⟨g y, ev, p2, by simpa using e, fun z hz => m z (.tail _ hz)⟩) xs [] σ ⟨hP, by simp, fun _ h => h⟩
theorem CompW.gen1 {t elt c : Expr} {kc : List PyData → St → Prop} (J : List PyData → List PyData → St → Prop) (fin : ∀ acc σ, J [] acc σ → kc acc σ)
    (step : ∀ x xs acc σ, J (x :: xs) acc σ → ∀ h₀ l, ActOk W (C.at h₀ l) → WA W A (C.at h₀ l) t (.dat x) σ fun σ1 => WT W A (C.at h₀ l) c σ1 fun b σ2 => (b = false → J xs acc σ2) ∧ (b = true → WE W A (C.at h₀ l) elt σ2 fun y σ3 => ∃ d, y = .dat d ∧ J xs (acc ++ [d]) σ3)) :
    ∀ xs acc σ, J xs acc σ → CompW W A C t [c] elt kc xs acc σ
  | [], acc, σ, h => fin acc σ h
  | x :: xs, acc, σ, h => fun h₀ l hC s v H lv => wpAny_mono (step x xs acc σ h h₀ l hC s v H lv) (fun _ s1 ⟨σ1, h1, r1, r2, r3⟩ => ⟨σ1, fun s H => wpAny_mono (h1 s H) (fun b s2 ⟨σ2, ⟨hf, ht⟩, q1, q2, q3⟩ => ⟨σ2, ⟨fun e => CompW.gen1 J fin step xs _ σ2 (hf e), fun e => (ht e).mono fun y σ3 ⟨d, ey, h2⟩ => ⟨d, ey, CompW.gen1 J fin step xs _ σ3 h2⟩⟩, q1, q2, q3⟩) (fun _ _ e => e), r1, r2, r3⟩) fun _ _ e => e

theorem Calls.named {W : Wd} {d : Nat} {f : Value} {xs : List V} {mu : Mu} {k : V → Mu → Prop} (h : ∀ k' : V → Mu → Prop, (∀ x mu', k x mu' → k' x mu') → Calls W d f xs mu k') : Calls W d f xs mu k := h k fun _ _ q => q
theorem blt {W : Wd} (hW : IsW W) {x : Str} (h : ∀ p, nsIn (hd.heap_1 p) mainGlobals x = some none) : Blt W x := by unfold Blt; rw [hW.K]; exact h _
theorem blt_len (hW : IsW W) : Blt W (Str.ofString "len") := blt hW fun _ => by kernel_rfl
theorem blt_range (hW : IsW W) : Blt W (Str.ofString "range") := blt hW fun _ => by kernel_rfl
theorem blt_enumerate (hW : IsW W) : Blt W (Str.ofString "enumerate") := blt hW fun _ => by kernel_rfl
theorem blt_zip (hW : IsW W) : Blt W (Str.ofString "zip") := blt hW fun _ => by kernel_rfl
theorem blt_abs (hW : IsW W) : Blt W (Str.ofString "abs") := blt hW fun _ => by kernel_rfl
theorem blt_int (hW : IsW W) : Blt W (Str.ofString "int") := blt hW fun _ => by kernel_rfl
theorem blt_chr (hW : IsW W) : Blt W (Str.ofString "chr") := blt hW fun _ => by kernel_rfl
theorem blt_ord (hW : IsW W) : Blt W (Str.ofString "ord") := blt hW fun _ => by kernel_rfl
theorem blt_list (hW : IsW W) : Blt W (Str.ofString "list") := blt hW fun _ => by kernel_rfl
theorem blt_isinstance (hW : IsW W) : Blt W (Str.ofString "isinstance") := blt hW fun _ => by kernel_rfl
theorem blt_sorted (hW : IsW W) : Blt W (Str.ofString "sorted") := blt hW fun _ => by kernel_rfl
end

end Mine
namespace Mine
/-- a class of exceptions of the text below another of the text, with __init__ of its own -/
structure ExcUp (bm : List Value) : Prop where
  hasB : bm.contains (.type "Exception") = true
  noAttr : bm.contains (.type "AttributeError") = false
  noName : bm.contains (.type "NameError") = false
  base : bm.contains (.type "BaseException") = true
section
variable {M : Model} {A : Around} {E : Value → Shared → Prop} {h : Heap} {g : Array GenState} {d : Drawn} {t : Nat} {os : OsState}
variable {nm q : Str} {C N : Addr} {bs bm : List Value} {hdct : Bool} {sn : List Str} {sub : List Value} {ab : Bool} {col : Option Bool} {dd : Option Addr} {k0 k1 k2 k3 k5 : Option Value}
theorem up_check_new (U : ExcUp bm) {rest : List Value} {Q : Unit → Shared → Prop} (hC : h.get? C = some (excClassObj nm q C N bs bm hdct sn sub ab col dd k0 k1 k2 k3 k5 "Exception.__new__"))
    (hq : Q () ⟨h, g, d, t, os⟩) : wpAny M A (checkBuiltinCall "Exception.__new__" ⟨.ref C :: rest, []⟩) Q E ⟨h, g, d, t, os⟩ := by
  have F := PySem.F.excBase_Exception
  have hcont : (Value.ref C :: bm).contains (.type "Exception") = true := by rw [List.contains_cons, U.hasB, Bool.or_true]
  have hstar := F.noStar
  simp only [checkBuiltinCall, F.newKind, F.newSplit, F.newRow]
  repeat (first | refine wpAny_loadPart_at hC ?_ | (refine wpAny_isSubtype_exc hC ?_; rw [hcont]) | refine wpAny_staticBase_exc hC ?_ | refine wpAny_madeBy_exc hC ?_ | simp only [bne_self_eq_false, Bool.false_eq_true, if_false] | wp_step)
  exact hq
end
section
variable {prog : Program} {w : World} {A : Around} {R : Result → Shared → Prop} {E : Value → Shared → Prop} {h : Heap} {g : Array GenState} {d : Drawn} {t : Nat} {os : OsState}
variable {nm q : Str} {C N : Addr} {bs bm : List Value} {hdct : Bool} {sn : List Str} {sub : List Value} {ab : Bool} {col : Option Bool} {dd : Option Addr} {k0 k1 k2 k3 k5 : Option Value}
theorem up_new (U : ExcUp bm) {rest : List Value} (hC : h.get? C = some (excClassObj nm q C N bs bm hdct sn sub ab col dd k0 k1 k2 k3 k5 "Exception.__new__"))
    (hq : R (.ok (.ret (.ref (h.objs.size + 1)))) ⟨(h.push { cls := .type "tuple", data := .seq rest.toArray }).push
      { cls := .ref C, data := .fields #[.ref h.objs.size, .none, .none, .none, .bool false, .none] }, g, d, t, os⟩) (hrest : rest.length ≤ sizeLine := by size_fits) :
    codeAny (model prog w) A (.builtin "Exception.__new__" ⟨.ref C :: rest, []⟩) R ⟨h, g, d, t, os⟩ := by
  have F := PySem.F.excBase_Exception
  have hends := F.ends
  have hcB : (Value.ref C :: bm).contains (.type "Exception") = true := by rw [List.contains_cons, U.hasB, Bool.or_true]
  have hcA : (Value.ref C :: bm).contains (.type "AttributeError") = false := by rw [List.contains_cons, U.noAttr]; rfl
  have hcN : (Value.ref C :: bm).contains (.type "NameError") = false := by rw [List.contains_cons, U.noName]; rfl
  refine codeAny_builtinAt F.entry ?_
  unfold Builtin.«BaseException.__new__»
  refine PySem.wpAt_bind ?_
  show PySem.wpAt _ _ _ (stack >>= _) _ _ _
  refine PySem.wpAt_bind (PySem.wpAt_stack fun p below => PySem.wpAt_of_wpAny ?_)
  wp_walk
  refine PySem.wpAt_of_wpAny ?_
  rw [F.owner]
  repeat (first | with_reducible refine wpAny_madeHere_exc F.canon hC ?_ | with_reducible refine wpAny_loadPart_at hC ?_ | (with_reducible refine wpAny_isSubtype_exc hC ?_; first | rw [hcB] | rw [hcA] | rw [hcN]) | wp_step)
  show R _ _
  rw [Heap.size_push]
  exact hq
theorem up_type_call (U : ExcUp bm) {rest : List Value} {fI : Addr} {oI : Obj} {Q : Fin → Shared → Prop}
    (hC : h.get? C = some (excClassObj nm q C N bs bm hdct sn sub ab col dd k0 k1 k2 k3 k5 "Exception.__new__")) (hi : Looks (model prog w) h (typeLookup (.ref C) "__init__") (some (.ref fI)))
    (hfI : h.get? fI = some oI) (hfc : oI.cls = .type "function")
    (hq : ∀ h' e, Heap.MadeExcOf h h' e (.ref C) rest → h'.objs.size = h.objs.size + 2 → e = h.objs.size + 1 →
      wpAny (model prog w) A (call (.ref fI) (.ref e :: rest)) (fun r s' => r = .none ∧ Q (.done (.ret (.ref e))) s') E ⟨h', g, d, t, os⟩) (hrest : rest.length ≤ sizeLine := by size_fits) :
    wpAny (model prog w) A (Builtin.«type.__call__» ⟨.ref C :: rest, []⟩) Q E ⟨h, g, d, t, os⟩ := by
  have F := PySem.F.excBase_Exception
  repeat (first | with_reducible refine wpAny_loadPart_at hC ?_ | with_reducible refine wpAny_madeBy_exc hC ?_ | wp_step)
  refine codeAny_call_builtin_code (Code.quiet_builtin _ F.quiet) (up_check_new U hC ?_)
  refine up_new U hC ?_ hrest
  show wpAny _ _ _ _ _ _
  have keep : ∀ b o, h.get? b = some o → ((h.push { cls := .type "tuple", data := .seq rest.toArray }).push { cls := .ref C, data := .fields #[.ref h.objs.size, .none, .none, .none, .bool false, .none] }).get? b = some o :=
    fun b o e => Heap.get?_push_of_some _ (Heap.get?_push_of_some _ e)
  have hC₁ := keep _ _ hC
  have hfI₁ := keep _ _ hfI
  have hget : ((h.push { cls := .type "tuple", data := .seq rest.toArray }).push
      { cls := .ref C, data := .fields #[.ref h.objs.size, .none, .none, .none, .bool false, .none] }).get? (h.objs.size + 1) = some
      { cls := .ref C, data := .fields #[.ref h.objs.size, .none, .none, .none, .bool false, .none] } := by heap_get
  have hcC : (Value.ref C :: bm).contains (.ref C) = true := by simp
  unfold isInstance
  repeat (first | with_reducible refine wpAny_loadPart_at hget ?_ | (with_reducible refine wpAny_isSubtype_exc hC₁ ?_; rw [hcC]) | wp_step)
  show wpAny _ _ (typeLookup (.ref C) _) _ _ _
  refine hi _ _ _ _ keep ?_
  refine wpAny_holding (wpAny_bind ?_)
  unfold bindSpecial
  refine wpAny_bind (wpAny_typeOf (T := "function") ⟨_, hfI₁, hfc⟩ ?_)
  rw [if_pos (by decide)]
  refine wpAny_pure (wpAny_bind (wpAny_mono (hq _ (h.objs.size + 1) ⟨keep, Heap.get?_none_of_le (Nat.le_succ _), h.objs.size, hget, Heap.get?_none_of_le (Nat.le_refl _), ?_⟩ (by simp [Heap.size_push]) rfl) (fun r s' hr => ?_) fun _ _ x => x))
  · exact Heap.get?_push_of_some _ (Heap.get?_push_at rfl rfl)
  · obtain ⟨rfl, hQ⟩ := hr
    wp_walk
    exact hQ
theorem up_call (U : ExcUp bm) {rest : List Value} {fI : Addr} {oI : Obj} {Q : Value → Shared → Prop}
    (hC : h.get? C = some (excClassObj nm q C N bs bm hdct sn sub ab col dd k0 k1 k2 k3 k5 "Exception.__new__")) (hi : Looks (model prog w) h (typeLookup (.ref C) "__init__") (some (.ref fI)))
    (hfI : h.get? fI = some oI) (hfc : oI.cls = .type "function")
    (hq : ∀ h' e, Heap.MadeExcOf h h' e (.ref C) rest → h'.objs.size = h.objs.size + 2 → e = h.objs.size + 1 →
      wpAny (model prog w) (A.under (.builtin "type.__call__" ⟨.ref C :: rest, []⟩)) (call (.ref fI) (.ref e :: rest)) (fun r s' => r = .none ∧ Q (.ref e) s') E ⟨h', g, d, t, os⟩) (hrest : rest.length ≤ sizeLine := by size_fits) :
    wpAny (model prog w) A (call (.ref C) rest) Q E ⟨h, g, d, t, os⟩ := by
  have f1 := tc_lookup
  have f2 := tc_bind (.ref C)
  have hT : (⟨h, g, d, t, os⟩ : Shared).TypeIs (.ref C) "type" := ⟨_, hC, rfl⟩
  refine wpAny_call (codeAny_of_tree ?_)
  show wpAny _ _ (callAny (.ref C) _) _ _ _
  repeat (any_goals (first | assumption | with_reducible refine wpAny_loadPart_at hC ?_ | wp_step))
  refine ⟨rfl, ?_⟩
  exact codeAny_call_builtin_at (Code.quiet_builtin _ (by decide +kernel)) entry_typeCall (wpAny_check_type_call_sub hC (up_type_call (hrest := hrest) U hC hi hfI hfc hq))
end

section
variable {prog : Program} {w : World} {A : Around} {E : Value → Shared → Prop} {h : Heap} {g : Array GenState} {d : Drawn} {t : Nat} {os : OsState}
variable {nm q : Str} {C N x : Addr} {bs bm : List Value} {sn : List Str} {hdct : Bool} {sub : List Value} {ab : Bool} {col : Option Bool} {dd : Option Addr} {k0 k1 k2 k3 k5 : Option Value} {name : Str} {v : Value} {mA : Str → Option Value}
/-- Exception.__init__(self, what) -/
theorem up_init (U : ExcUp bm) {e : Addr} {ob : Obj} {vs : Array Value} {t0 : Addr} {rest : List Value} {Q : Value → Shared → Prop}
    (hC : h.get? C = some (excClassObj nm q C N bs bm hdct sn sub ab col dd k0 k1 k2 k3 k5 "Exception.__new__")) (he : h.get? e = some ob) (hcls : ob.cls = .ref C) (hd : ob.data = .fields vs) (h0 : vs[0]? = some (.ref t0))
    (hq : Q .none ⟨(h.push { cls := .type "tuple", data := .seq rest.toArray }).update e (Obj.mapFields (·.setIfInBounds 0 (.ref h.objs.size))), g, d, t, os⟩) (hrest : rest.length ≤ sizeLine := by size_fits) :
    wpAny (model prog w) A (call (.builtin "Exception.__init__") (.ref e :: rest)) Q E ⟨h, g, d, t, os⟩ := by
  have F := PySem.F.excBase_Exception
  refine wpAny_call (codeAny_call_builtin F.init.plain F.initEntry ?_)
  have hcB : (Value.ref C :: bm).contains (.type "Exception") = true := by rw [List.contains_cons, U.hasB, Bool.or_true]
  have hshort := F.noStar
  simp only [checkBuiltinCall, F.initKind, F.initSplit, F.initRow]
  repeat (first | (with_reducible refine wpAny_loadPart_at he ?_; rw [hcls]) | with_reducible refine wpAny_loadPart_at hC ?_ | (with_reducible refine wpAny_isSubtype_exc hC ?_; rw [hcB]) | wp_step)
  refine wpAny_onRaise ?_
  rw [show ∀ (a b : String) (n : Nat), Bind.check ⟨.positional, "*", "Exception", .self, [⟨"args", .varPos, false⟩]⟩ a b n (List.map (fun x => x.fst) ({ pos := Value.ref e :: rest } : Args).kw) = pure () from
    fun a b n => check_star_args _ _ _ _ _ _]
  refine wpAny_pure ?_
  unfold Builtin.«BaseException.__init__»
  dsimp only
  rw [if_neg (by simp)]
  unfold newTuple Builtin.BaseException.bexcPut
  have hsz : 0 < vs.size := (Array.getElem?_eq_some_iff.mp h0).1
  have he₁ := Heap.get?_push_of_some (h := h) { cls := .type "tuple", data := .seq rest.toArray } he
  refine wpAny_bind (wpAny_newObj_type (wpAny_bind (wpAny_bind (wpAny_field he₁ hd h0 (wpAny_bind (wpAny_setField he₁ hd hsz ?_))))) (by show rest.toArray.size ≤ sizeLine; rw [List.size_toArray]; exact hrest))
  exact wpAny_letGo (wpAny_pure hq)
end

end Mine
namespace Mine
open Builtin Builtin.ObjectAttr
section
variable {prog : Program} {w : World} {A : Around} {E : Value → Shared → Prop} {h : Heap} {g : Array GenState} {d : Drawn} {t : Nat} {os : OsState}
variable {nm q : Str} {C N x : Addr} {bs bm : List Value} {sn : List Str} {sub : List Value} {ab : Bool} {col : Option Bool} {dd : Option Addr} {k0 k1 k2 k3 k5 : Option Value} {newId : String} {name : Str} {v : Value} {mA : Str → Option Value}
/-- what of the class is asked when a thing is stored -/
structure UpSt (C : Addr) (bm : List Value) : Prop where
  own : bm.contains (.type "object") = true
  passes : ∀ self : Value, refuseLoop self "__setattr__" bm = pure ()
theorem up_check_sa {M : Model} {o : Obj} {nameV : Value} {Q : Unit → Shared → Prop} (U : UpSt C bm)
    (hC : h.get? C = some (excClassObj nm q C N bs bm true sn sub ab col dd k0 k1 k2 k3 k5 newId)) (hx : h.get? x = some o) (hc : o.cls = .ref C) (hq : Q () ⟨h, g, d, t, os⟩) :
    wpAny M A (checkBuiltinCall "object.__setattr__" ⟨[.ref x, nameV, v], []⟩) Q E ⟨h, g, d, t, os⟩ := by
  have SF := PySem.F.store_Exception
  have hcB : (Value.ref C :: bm).contains (.type "object") = true := by rw [List.contains_cons, U.own, Bool.or_true]
  have ha := SF.args (.ref x) nameV v
  simp only [checkBuiltinCall, SF.kind, SF.split]
  refine wpAny_bind ?_
  · unfold isInstance
    repeat (first | (with_reducible refine wpAny_loadPart_at hx ?_; rw [hc]) | (with_reducible refine wpAny_isSubtype_exc hC ?_; rw [hcB]) | wp_step)
    all_goals (first | exact hq | (rw [show Bind.checkArgs _ _ _ = pure () from ha]; exact wpAny_pure hq) | skip)
theorem up_store_entry {tk : Tok} {Q : Fin → Shared → Prop} {ns : List Str} (U : UpSt C bm)
    (hC : h.get? C = some (excClassObj nm q C N bs bm true sn sub ab col dd k0 k1 k2 k3 k5 newId)) (hl : Looks (model prog w) h (typeLookup (.ref C) name) none) (hxC : x ≠ C) (I : h.Inst x C mA)
    (hq : ∀ h' tk', h'.Inst x C (fun y => if y = name then some v else mA y) →
      (∀ b o, b ≠ x → (∀ o₀ dx, h.get? x = some o₀ → o₀.dict = some dx → b ≠ dx) → h.get? b = some o → h'.get? b = some o) →
      (∀ o₀, h.get? x = some o₀ → ∃ o₁, A5 (h'.get? x = some o₁) (o₁.cls = o₀.cls) (o₁.data = o₀.data) (o₁.slots = o₀.slots) ((o₁.dict = o₀.dict ∨ o₁.dict = some h.objs.size))) → Q (.done (.ret .none)) ⟨h', g, d, tk', os⟩) (hw : Within mA ns) (hsz : ns.length < 1000) :
    wpAny (model prog w) A (Builtin.«object.__setattr__» ⟨[.ref x, .str name tk, v], []⟩) Q E ⟨h, g, d, t, os⟩ := by
  obtain ⟨o, hx, hc, hnc, hd⟩ := I
  have hpass := U.passes (.ref x)
  unfold Builtin.«object.__setattr__»
  repeat (first | rw [refuse_eq] | (rw [refuseLoop_ref, hpass]) | (with_reducible refine wpAny_loadPart_at hx ?_; rw [hc]) | with_reducible refine wpAny_mroOf_exc hC ?_ | with_reducible refine Looks.at hl ?_ | wp_step)
  rcases hd with ⟨hdn, hmA⟩ | ⟨dx, hdx, hne, hns⟩
  · rw [hdn, if_neg (by simp [typeHasDict])]
    split
    · rename_i hcd
      cases hcd
    split
    · rename_i c hcd
      exact absurd hcd (hnc c)
    · have hx₁ : (h.push { cls := .type "dict", data := .dict #[] }).get? x = some o := Heap.get?_push_of_some _ hx
      have hxs : x ≠ h.objs.size := Nat.ne_of_lt (Heap.lt_size hx)
      refine wpAny_bind (wpAny_alloc' ?_)
      refine wpAny_bind (wpAny_update' hx₁ ?_)
      refine wpAny_pure ?_
      have hgd : ((h.push { cls := .type "dict", data := .dict #[] }).update x fun o => { cls := o.cls, dict := some h.objs.size, data := o.data, slots := o.slots }).get? h.objs.size
          = some { cls := .type "dict", data := .dict #[] } :=
        (Heap.get?_update_ne _ _ _ _ hxs.symm).trans (Heap.get?_push_at rfl rfl)
      have hnd : ((h.push { cls := .type "dict", data := .dict #[] }).update x fun o => { cls := o.cls, dict := some h.objs.size, data := o.data, slots := o.slots }).Ns h.objs.size (fun _ => none) :=
        ⟨_, #[], _, hgd, rfl, fun e he => absurd he (by simp), fun _ => rfl⟩
      show wpAny _ _ (storeInDict h.objs.size (.str name tk) name v) _ _ _
      unfold storeInDict newKeyGuard
      refine wpAny_bind (wpAny_pure (wpAny_bind (wpAny_nsSet1 (Heap.Ns1.of_empty hnd) fun h' hn' hs => ?_)))
      obtain ⟨oD, esD, epD, hoD, hdD, hcD⟩ := hn'.count (Within.cons name v Within.nil)
      refine wpAny_bind (wpAny_lookBehind hoD (by rw [hdD]; exact pastItsLine_dict (Nat.le_trans hcD (by rw [List.length_cons, List.length_nil, sizeLine_eq]; lia))) ?_)
      wp_walk
      have hx' : h'.get? x = some { cls := o.cls, dict := some h.objs.size, data := o.data, slots := o.slots } := ?_
      refine hq h' _ ⟨{ cls := o.cls, dict := some h.objs.size, data := o.data, slots := o.slots }, hx', hc, hnc, .inr ⟨h.objs.size, rfl, hxs.symm, ?_⟩⟩ (fun b ob hbx _ hb => ?_)
        (fun o₀ h₀ => by obtain rfl : o = o₀ := Option.some.inj (hx.symm.trans h₀); exact ⟨_, hx', rfl, rfl, rfl, .inr rfl⟩)
      · obtain ⟨o', es, ep, e1, e2, e3, eu, e4⟩ := hn'
        exact ⟨o', es, ep, e1, e2, e3, eu, fun y => by rw [e4 y]; by_cases hy : y = name <;> simp [hy, hmA]⟩
      · exact (hs.2 b (Nat.ne_of_lt (Heap.lt_size hb))).trans ((Heap.get?_update_ne _ _ _ _ hbx).trans (Heap.get?_push_of_some _ hb))
      · refine (hs.2 x hxs).trans (Heap.get?_update_self _ hx₁ ?_)
        have hfr := (Heap.get?_some_iff.mp hx).2
        obtain ⟨oc, od, odt, osl⟩ := o
        cases odt <;> first | rfl | exact hfr
  · rw [hdx]
    refine wpAny_pure ?_
    show wpAny _ _ (storeInDict dx (.str name tk) name v) _ _ _
    unfold storeInDict newKeyGuard
    refine wpAny_bind (wpAny_pure (wpAny_bind (wpAny_nsSet1 hns fun h' hn' hs => ?_)))
    obtain ⟨oD, esD, epD, hoD, hdD, hcD⟩ := hn'.count (Within.cons name v hw)
    refine wpAny_bind (wpAny_lookBehind hoD (by rw [hdD]; exact pastItsLine_dict (Nat.le_trans hcD (by rw [List.length_cons, sizeLine_eq]; lia))) ?_)
    wp_walk
    refine hq h' _ ⟨o, (hs.2 x hne.symm).trans hx, hc, hnc, .inr ⟨dx, hdx, hne, hn'⟩⟩ (fun b ob _ hbd hb => ?_)
      (fun o₀ h₀ => ⟨o₀, (hs.2 x hne.symm).trans h₀, rfl, rfl, rfl, .inl rfl⟩)
    exact (hs.2 b (hbd o dx hx hdx)).trans hb
theorem up_store {Q : Unit → Shared → Prop} {ns : List Str} (U : UpSt C bm)
    (hC : h.get? C = some (excClassObj nm q C N bs bm true sn sub ab col dd k0 k1 k2 k3 k5 newId)) (hl : Looks (model prog w) h (typeLookup (.ref C) name) none) (hsa : Looks (model prog w) h (typeLookup (.ref C) "__setattr__") (some (.builtin "object.__setattr__"))) (hxC : x ≠ C) (I : h.Inst x C mA)
    (hq : ∀ h' tk', h'.Inst x C (fun y => if y = name then some v else mA y) →
      (∀ b o, b ≠ x → (∀ o₀ dx, h.get? x = some o₀ → o₀.dict = some dx → b ≠ dx) → h.get? b = some o → h'.get? b = some o) →
      (∀ o₀, h.get? x = some o₀ → ∃ o₁, A5 (h'.get? x = some o₁) (o₁.cls = o₀.cls) (o₁.data = o₀.data) (o₁.slots = o₀.slots) ((o₁.dict = o₀.dict ∨ o₁.dict = some h.objs.size))) → Q () ⟨h', g, d, tk', os⟩) (hw : Within mA ns) (hsz : ns.length < 1000) :
    wpAny (model prog w) A (setAttr (.ref x) name v) Q E ⟨h, g, d, t, os⟩ := by
  have SF := PySem.F.store_Exception
  obtain ⟨o, hx, hc, _⟩ := id I
  have f3 := SF.slot.bind (.ref x)
  unfold setAttr callSpecial? specialOf
  repeat (any_goals (first | assumption | (with_reducible refine wpAny_loadPart_at hx ?_; rw [hc]) | with_reducible refine Looks.at hsa ?_ | wp_step))
  refine codeAny_call_builtin SF.slot.plain SF.entry (up_check_sa U hC hx hc (up_store_entry U hC hl hxC I (fun h' tk' I' hk hsame => ?_) hw hsz))
  repeat (any_goals (first | assumption | wp_step))
  exact hq h' tk' I' hk hsame
end

end Mine
namespace Mine
noncomputable abbrev bmF : List Value := [.ref 46, .type "Exception", .type "BaseException", .type "object"]
noncomputable abbrev objF : Obj := excClassObj (Str.ofString "QueryFault") (Str.ofString "QueryFault") 59 58 [.ref 46] bmF true [] [] false none none (some (.ref 50)) none (some (.str (Str.ofString "QueryFault") 236)) (some (.str (Str.ofString "QueryFault") 244)) (some (.bool true)) "Exception.__new__"
theorem K59 (p : Params) : (hd.heap_1 p).lookup 59 = some objF := by kernel_rfl
theorem find_init (p : Params) : findIn (hd.heap_1 p) (.ref 59) (Str.ofString "__init__") = some (some (.ref 36)) := by kernel_rfl
theorem find_set (p : Params) : findIn (hd.heap_1 p) (.ref 59) (Str.ofString "__setattr__") = some (some (.builtin "object.__setattr__")) := by kernel_rfl
theorem find_what (p : Params) : findIn (hd.heap_1 p) (.ref 59) (Str.ofString "what") = some none := by kernel_rfl
theorem find_at (p : Params) : findIn (hd.heap_1 p) (.ref 59) (Str.ofString "at") = some none := by kernel_rfl
theorem glob_fault (p : Params) : nsIn (hd.heap_1 p) mainGlobals (Str.ofString "QueryFault") = some (some (.ref 59)) := by kernel_rfl
theorem glob_exc (p : Params) : nsIn (hd.heap_1 p) mainGlobals (Str.ofString "Exception") = some none := by kernel_rfl
noncomputable def clsBody : Stmt → List Stmt
  | .ClassDef _ _ _ body _ _ _ _ _ _ _ => body
  | _ => []
noncomputable def initS : Stmt := nth 0 (clsBody (nth 2 main))
theorem K36 (p : Params) : ((hd.heap_1 p).lookup 36).isSome = true := by kernel_rfl
theorem K36d (p : Params) : (objAt p 36).data = .func (fdAt p 36) := by kernel_rfl
theorem K36c (p : Params) : (objAt p 36).cls = .type "function" := by kernel_rfl
theorem K36f (p : Params) : fdAt p 36 = fnOf (Str.ofString "__init__") (Str.ofString "PostError.__init__") (argsOf initS) (bodyOf initS) (scopeOf initS) (.ref 29) .none .none (fdAt p 36).pyModule none (.ref 35) .none := by kernel_rfl
theorem K36k (p : Params) : codeIn (hd.heap_1 p) (.ref 35) (Str.ofString "PostError.__init__") = true := by kernel_rfl
theorem K36b (p : Params) (S) (a b c : Value) : peek (hd.heap_1 p) S (bindArgs (fdAt p 36) ⟨[a, b, c], []⟩) = some [(Str.ofString "self", a), (Str.ofString "what", b), (Str.ofString "at", c)] := by kernel_rfl
theorem upF : ExcUp bmF where
  hasB := by decide +kernel
  noAttr := by decide +kernel
  noName := by decide +kernel
  base := by decide +kernel
theorem upS : UpSt 59 bmF where
  own := by decide +kernel
  passes := fun self => by rw [refuseLoop_ref]; exact PySem.F.store_Exception.passes self
theorem exc_meth (p : Params) : findCls (hd.heap_1 p) (.type "Exception") (.type "type") (Str.ofString "__init__") = some (.val (.builtin "Exception.__init__")) := by kernel_rfl

end Mine
namespace Mine
/-- a QueryFault that bears n -/
noncomputable def FaultAt (h0 h : Heap) (e : Addr) (n : Int) : Prop :=
  Ex4 fun tp D mA t => A5 (h.get? e = some { cls := .ref 59, dict := some D, data := .fields #[.ref tp, .none, .none, .none, .bool false, .none] }) (h.Ns1 D mA) (mA (Str.ofString "at") = some (.int n t)) (D ≠ e) (h0.get? D = none)
theorem init_names : ∀ x ∈ (scopeOf initS).names, x.2 ≠ .cell := by decide +kernel
theorem init_self : (scopeOf initS).names.lookup (Str.ofString "self") = some .local := by kernel_rfl
theorem init_what : (scopeOf initS).names.lookup (Str.ofString "what") = some .local := by kernel_rfl
theorem init_at : (scopeOf initS).names.lookup (Str.ofString "at") = some .local := by kernel_rfl
theorem init_kind : (scopeOf initS).kind = .function := by kernel_rfl
theorem Ns_upd {h : Heap} {L e : Addr} {m : Str → Option Value} {f : Obj → Obj} (n : h.Ns L m) (hne : L ≠ e) : (h.update e f).Ns L m := n.sameBut (Heap.SameBut.update h e f) hne
theorem init_run {W : Wd} (hW : IsW W) {A : Around} {s : Shared} {g : Heap} (S : W.Stat g) (le : Le g s.heap) (hdep : A.depth < recursionLimit) {e tp : Addr} {wv : Str} {t1 t2 : Tok} {n : Int} {Q : Shared → Prop}
    (he : s.heap.get? e = some { cls := .ref 59, data := .fields #[.ref tp, .none, .none, .none, .bool false, .none] })
    (hge : g.get? e = none) (hq : ∀ s', Sm s s' → (∀ b o, b ≠ e → s.heap.get? b = some o → s'.heap.get? b = some o) → FaultAt s.heap s'.heap e n → Q s') :
    wpAny W.M A (call (.ref 36) [.ref e, .str wv t1, .int n t2]) (fun r s' => r = .none ∧ Q s') NoE s := by
  have hK : W.K.In s.heap := S.K.keeps le
  have h36 : s.heap.get? 36 = some (objAt W.w.params 36) := hK _ _ (by rw [hW.K]; exact lk _ _ (K36 _))
  have hfd := K36d W.w.params
  have hb := kp_binds (s := s) (by rw [← hW.K]; exact hK) (fun S => K36b W.w.params S (.ref e) (.str wv t1) (.int n t2))
  rw [K36f] at hfd hb
  have h59 : s.heap.get? 59 = some objF := hK _ _ (by rw [hW.K]; exact K59 _)
  have he59 : e ≠ 59 := fun q => by rw [q, h59] at he; cases he
  refine wpAny_call (codeAny_call_def (body := bodyOf initS) hdep h36 hfd (S.T.nolimit.keeps le) (codeRec_of hK (by rw [hW.K]; exact K36k _)) rfl hb init_names (by intro x hx; simp at hx; rcases hx with rfl | rfl | rfl <;> first | exact init_self | exact init_what | exact init_at) (fun h₀ hns keep => ?_) rfl rfl rfl)
  generalize hL : s.heap.objs.size = L at *
  have hx : s.heap.objs.size ≤ L := Nat.le_of_eq hL
  conv in bodyOf initS => whnf
  have hm : (fun x => List.lookup x [(Str.ofString "self", Value.ref e), (Str.ofString "what", .str wv t1), (Str.ofString "at", .int n t2)].reverse) = (fun x => List.lookup x [(Str.ofString "at", .int n t2), (Str.ofString "what", .str wv t1), (Str.ofString "self", Value.ref e)]) := rfl
  rw [hm] at hns
  generalize hmm : (fun x => List.lookup x [(Str.ofString "at", Value.int n t2), (Str.ofString "what", .str wv t1), (Str.ofString "self", Value.ref e)]) = m0 at hns
  have m_self : m0 (Str.ofString "self") = some (.ref e) := by rw [← hmm]; rfl
  have m_what : m0 (Str.ofString "what") = some (.str wv t1) := by rw [← hmm]; rfl
  have m_at : m0 (Str.ofString "at") = some (.int n t2) := by rw [← hmm]; rfl
  clear hm hmm
  have F : Fr s.heap L h₀ m0 := ⟨hns, keep, hx⟩
  have le0 := le.trans keep
  refine wpAny_execs_cons (wpAny_Expr (MethodCall_ (Name_function_global rfl rfl (loadGlobal_builtin (mg := W.mg) (mb := W.mb) (S.T.g.keeps le0) (mg_none_of S.K S.T.g (by rw [hW.K]; exact glob_exc _)) (S.T.b.keeps le0) ((S.T.builtins _ (by decide)).trans PyProof.Rows.Boot.«Exception») ?_) (by decide)) rfl) rfl rfl)
  refine method_type (K := W.K) F hK rfl (by decide +kernel) (by rw [hW.K]; exact exc_meth _) (by decide +kernel) ?_
  have he0 := keep _ _ he
  have hLe : L ≠ e := fun q => by rw [← hL] at q; exact Nat.lt_irrefl _ (q ▸ Heap.lt_size he)
  have hnd : ∀ b, g.get? b ≠ none → b ≠ e := fun b hb q => hb (q ▸ hge)
  refine PyProof.Rows.callWith_builtin1 (PyProof.Rows.args_cons (ldc init_kind init_self hns m_self (PyProof.Rows.args_cons (ldc init_kind init_what hns m_what (PyProof.Rows.args_nil ?_)))))
  refine up_init (h := h₀) upF (keep _ _ h59) he0 rfl rfl rfl ?_ (Nat.le_of_ble_eq_true rfl)
  generalize hh1 : (h₀.push { cls := .type "tuple", data := .seq [Value.str wv t1].toArray }).update e (Obj.mapFields (·.setIfInBounds 0 (.ref h₀.objs.size))) = h1
  have k1 : ∀ b o, b ≠ e → h₀.get? b = some o → h1.get? b = some o := fun b o hb hbo => by
    rw [← hh1, Heap.get?_update_other _ _ (Ne.symm hb)]
    exact Heap.get?_push_of_some _ hbo
  have he1 : h1.get? e = some { cls := .ref 59, data := .fields #[.ref h₀.objs.size, .none, .none, .none, .bool false, .none] } := by
    rw [← hh1, Heap.get?_update_self _ (Heap.get?_push_of_some _ he0) rfl]; rfl
  have le1 : Le g h1 := fun b o hb => k1 b o (fun q => by rw [q, hge] at hb; cases hb) (le0 b o hb)
  have ns1 : h1.Ns L m0 := by rw [← hh1]; exact Ns_upd (hns.keeps fun b o e => Heap.get?_push_of_some _ e) hLe
  have K1 := S.K.keeps le1
  show wpAny _ _ _ _ _ _
  dsimp only
  refine wpAny_execs_cons (plainObj_wpAny_Assign_Attribute (ldc init_kind init_what ns1 m_what (ldc init_kind init_self ns1 m_self ?_)))
  refine up_store (h := h1) (mA := fun _ => none) (ns := []) upS (k1 _ _ he59.symm (keep _ _ h59)) (looks_findIn K1 (by rw [hW.K]; exact find_what _)) (looks_findIn K1 (by rw [hW.K]; exact find_set _)) he59 ⟨_, he1, rfl, fun c q => (by cases q), .inl ⟨rfl, fun _ => rfl⟩⟩ (fun h2 tk2 I2 k2 o2 => ?_) .nil (by decide)
  obtain ⟨o2', ho2, oc2, od2, os2, odd2⟩ := o2 _ he1
  obtain ⟨ox, hox, hoc, hnc, hdict⟩ := I2
  rw [ho2] at hox; cases hox
  obtain ⟨D, hD, hDe, hDn⟩ : ∃ D, A3 (o2'.dict = some D) (D ≠ e) (h2.Ns1 D (fun y => if y = Str.ofString "what" then some (.str wv t1) else none)) := by
    rcases hdict with ⟨_, q⟩ | ⟨D, a, b, c⟩
    · have := q (Str.ofString "what"); simp at this
    · exact ⟨D, a, b, c⟩
  have hDs : D = h1.objs.size := by
    rcases odd2 with q | q
    · rw [q] at hD; cases hD
    · rw [q] at hD; cases hD; rfl
  have k2' : ∀ b o, b ≠ e → h1.get? b = some o → h2.get? b = some o := fun b o hb hbo => k2 b o hb (fun o₀ dx q1 q2 => by rw [he1] at q1; cases q1; cases q2) hbo
  have le2 : Le g h2 := fun b o hb => k2' b o (fun q => by rw [q, hge] at hb; cases hb) (le1 b o hb)
  have nsUp : ∀ {h h' : Heap}, h.Ns L m0 → (∀ b o, b ≠ e → h.get? b = some o → h'.get? b = some o) → h'.Ns L m0 := fun ⟨o, es, ep, a, b⟩ k => ⟨o, es, ep, k _ _ hLe a, b⟩
  have ns2 := nsUp ns1 k2'
  have K2 := S.K.keeps le2
  have hLs : L < h1.objs.size := ns1.lt
  refine wpAny_execs_cons (plainObj_wpAny_Assign_Attribute (ldc init_kind init_at ns2 m_at (ldc init_kind init_self ns2 m_self ?_)))
  refine up_store (h := h2) (mA := fun y => if y = Str.ofString "what" then some (.str wv t1) else none) (ns := [Str.ofString "what"]) upS (k2' _ _ he59.symm (k1 _ _ he59.symm (keep _ _ h59))) (looks_findIn K2 (by rw [hW.K]; exact find_at _)) (looks_findIn K2 (by rw [hW.K]; exact find_set _)) he59
    ⟨o2', ho2, hoc, hnc, .inr ⟨D, hD, hDe, hDn⟩⟩ (fun h3 tk3 I3 k3 o3 => ?_) (.cons _ _ .nil) (by decide)
  obtain ⟨o3', ho3, oc3, od3, os3, odd3⟩ := o3 _ ho2
  obtain ⟨ox, hox, hoc3, hnc3, hdict3⟩ := I3
  rw [ho3] at hox; cases hox
  obtain ⟨D3, e3, hDe3, hDn3⟩ : ∃ D3, A3 (o3'.dict = some D3) (D3 ≠ e) (h3.Ns1 D3 (fun y => if y = Str.ofString "at" then some (.int n t2) else if y = Str.ofString "what" then some (.str wv t1) else none)) := by
    rcases hdict3 with ⟨_, q⟩ | ⟨D', a, b, c⟩
    · have := q (Str.ofString "at"); simp at this
    · exact ⟨D', a, b, c⟩
  have fresh : s.heap.get? D3 = none := by
    refine Heap.get?_none_of_le ?_
    rw [hL]
    rcases odd3 with q | q
    · rw [q, hD] at e3; cases e3; rw [hDs]; exact Nat.le_of_lt hLs
    · rw [q] at e3; cases e3; exact Nat.le_of_lt ns2.lt
  have eo : o3' = { cls := .ref 59, dict := some D3, data := .fields #[.ref h₀.objs.size, .none, .none, .none, .bool false, .none] } := by
    obtain ⟨c, dd, dt, sl⟩ := o3'
    obtain ⟨c2, dd2, dt2, sl2⟩ := o2'
    cases e3; cases oc3; cases od3; cases os3; cases oc2; cases od2; cases os2
    rfl
  have kAll : ∀ b o, b ≠ e → s.heap.get? b = some o → h3.get? b = some o := fun b o hb hbo => by
    have hbL : b < L := by rw [← hL]; exact Heap.lt_size hbo
    refine k3 b o hb (fun o₀ dx q1 q2 => ?_) (k2' b o hb (k1 b o hb (keep b o hbo)))
    rw [ho2] at q1; cases q1
    rw [hD] at q2; cases q2
    rw [hDs]; exact Nat.ne_of_lt (Nat.lt_trans hbL hLs)
  exact wpAny_execs_nil ⟨rfl, hq _ ⟨h3, _, rfl⟩ kAll ⟨_, D3, _, t2, by rw [ho3, eo], hDn3, by simp, hDe3, fresh⟩⟩

end Mine
namespace Mine
theorem fault_call {W : Wd} (hW : IsW W) {A : Around} {E : Value → Shared → Prop} {s : Shared} {g : Heap} (S : W.Stat g) (le : Le g s.heap) (hdep : A.depth + 2 < recursionLimit) {wv : Str} {t1 t2 : Tok} {n : Int} {Q : Value → Shared → Prop}
    (hq : ∀ s' e, Sm s s' → Le s.heap s'.heap → s.heap.get? e = none → FaultAt s.heap s'.heap e n → Q (.ref e) s') : wpAny W.M A (call (.ref 59) [.str wv t1, .int n t2]) Q E s := by
  obtain ⟨h, gn, d, t, os⟩ := s
  have hK : W.K.In h := S.K.keeps le
  have h59 : h.get? 59 = some objF := hK _ _ (by rw [hW.K]; exact K59 _)
  have h36 : h.get? 36 = some (objAt W.w.params 36) := hK _ _ (by rw [hW.K]; exact lk _ _ (K36 _))
  refine up_call upF h59 (looks_findIn hK (by rw [hW.K]; exact find_init _)) h36 (K36c _) (fun h' e hm hsz ee => ?_) (Nat.le_of_ble_eq_true rfl)
  obtain ⟨tp, he, htn, ht⟩ := hm.there
  have hge : g.get? e = none := by
    cases q : g.get? e with
    | none => rfl
    | some o => have := le _ _ q; have h2 := hm.new; change h.get? e = some o at this; rw [h2] at this; cases this
  refine wpAny_mono (init_run hW S (s := ⟨h', gn, d, t, os⟩) (fun b o q => hm.keeps _ _ (le b o q)) (by show A.depth + 1 < recursionLimit; lia) he hge fun s' sm k f => ?_) (fun _ _ x => x) fun _ _ x => x.elim
  refine hq s' e (Sm.trans ⟨h', t, rfl⟩ sm) (fun b o q => k b o (fun z => ?_) (hm.keeps _ _ q)) hm.new ?_
  · have := hm.new; rw [z] at q; change h.get? e = some o at q; rw [this] at q; cases q
  · obtain ⟨tp', D, mA, t', a1, a2, a3, a4, a5⟩ := f
    refine ⟨tp', D, mA, t', a1, a2, a3, a4, ?_⟩
    cases q : h.get? D with
    | none => rfl
    | some o => have := hm.keeps _ _ q; rw [a5] at this; cases this

section
variable {M : Model} {A : Around} {E : Value → Shared → Prop} {s : Shared} {env : Env}
/-- the raise of one that is made -/
theorem raise_made {x : Sem Value} {Q : Flow → Shared → Prop} (hh : A.handled = none)
    (h : wpAny M A x (fun v s₁ => Ex3 fun e t D => A4 (v = .ref e) (s₁.heap.get? 59 = some objF) (s₁.heap.get? e = some { cls := .ref 59, dict := some D, data := .fields #[.ref t, .none, .none, .none, .bool false, .none] }) (E (.ref e) s₁)) E s) :
    wpAny M A (raiseStmt env (some x) none) Q E s := by
  have hcB : (Value.ref 59 :: bmF).contains (.type "BaseException") = true := by rw [List.contains_cons, upF.base, Bool.or_true]
  unfold raiseStmt
  refine wpAny_bind (wpAny_mono h (fun v s₁ h₁ => ?_) fun _ _ x => x)
  obtain ⟨e, t, D, rfl, hC, he, hE⟩ := h₁
  obtain ⟨hp, g, d, tk, os⟩ := s₁
  repeat (first | with_reducible refine wpAny_loadPart_at he ?_ | with_reducible refine wpAny_loadPart_at hC ?_ | (with_reducible refine wpAny_isSubtype_exc hC ?_; rw [hcB]) | wp_step)
  exact wpAny_raiseNew_none hh hE

/-- frames waiting: only their slots may change -/
noncomputable def SlotsR (fs : List Addr) (e : Addr) (h h' : Heap) : Prop :=
  (∀ b o, b ≠ e → b ∉ fs → h.get? b = some o → h'.get? b = some o) ∧ ∀ b ∈ fs, ∀ o, h.get? b = some o → ∃ sl, h'.get? b = some { o with slots := sl }
theorem note_new {outer : List Env} {L e : Addr} {oe : Obj} {vs : Array Value} {head : Value} {hadNext : Bool} {Q : Unit → Shared → Prop}
    (hfr : A.frames = some (env :: outer)) (hl : s.heap.FunFrames noHeap (env :: outer)) (hf : env.frame = some L)
    (he : s.heap.get? e = some oe) (hd : oe.data = .fields vs) (hsz : 1 < vs.size)
    (h : ∀ h' T arr, s.heap.get? T = none → h'.get? e = some (oe.mapFields (·.setIfInBounds 1 (.ref T))) → h'.get? T = some { cls := .type "traceback", dict := none, data := .fields arr } → arr[3]? = some (rawInt L) →
      SlotsR ((env :: outer).filterMap (·.frame)) e s.heap h' → Q () { s with heap := h' }) :
    wpAny M A (do let a ← frameOf env; let pl ← entryPlaceOf L hadNext; let b ← EntryCells.newEntry head a .none (rawInt L) .none pl; setField (.ref e) 1 b) Q E s := by
  have hene : e ∉ (env :: outer).filterMap (·.frame) := fun hm => by
    obtain ⟨_, o, ho, hnf⟩ := hl.mem hm
    rw [he] at ho; injection ho with ho; subst ho; exact hnf vs hd
  refine wpAny_bind (wpAny_frameOf_fun hfr hl hf fun h₁ hs₁ => ?_)
  refine wpAny_bind (wpAny_entryPlaceOf fun pl hpl => ?_)
  unfold EntryCells.newEntry newFields
  refine wpAny_bind (wpAny_newObj_type ?_ (hpl.sizeOk5 _ _ _ _ _))
  have he₁ : h₁.get? e = some oe := (hs₁.2.1 e hene).trans he
  have he₂ := Heap.get?_push_of_some (h := h₁) { cls := .type "traceback", dict := none, data := .fields ([head, .ref L, .none, rawInt L, .none] ++ (if pl.isEmpty then List.replicate 6 Value.none else pl)).toArray } he₁
  have hTe : h₁.objs.size ≠ e := Nat.ne_of_gt (Heap.lt_size he₁)
  have hd₃ := Obj.data_mapFields hd (·.setIfInBounds 1 (Value.ref h₁.objs.size))
  have he₃ := Heap.get?_update_self (Obj.mapFields (·.setIfInBounds 1 (Value.ref h₁.objs.size))) he₂ (Obj.isFreed_of_fields hd₃)
  have hT₃ := (Heap.get?_update_other (h₁.push { cls := .type "traceback", dict := none, data := .fields ([head, .ref L, .none, rawInt L, .none] ++ (if pl.isEmpty then List.replicate 6 Value.none else pl)).toArray })
    (Obj.mapFields (·.setIfInBounds 1 (Value.ref h₁.objs.size))) (Ne.symm hTe)).trans (Heap.get?_push_size h₁ rfl)
  refine wpAny_setField he₂ hd hsz (h _ h₁.objs.size _ ?_ he₃ hT₃ (by first | (simp; done) | (rcases hpl with rfl | ⟨_, _, _, _, _, _, _, rfl⟩ <;> simp)) ⟨fun b o hbe hbf hb => ?_, fun b hb o ho => ?_⟩)
  · refine Heap.get?_none_of_le ?_
    rw [hs₁.1]; exact Nat.le_refl _
  · rw [Heap.get?_update_other _ _ (Ne.symm hbe)]
    exact Heap.get?_push_of_some _ ((hs₁.2.1 b hbf).trans hb)
  · obtain ⟨sl, e1⟩ := hs₁.2.2 b o ho
    refine ⟨sl, ?_⟩
    have hbe : b ≠ e := fun q => hene (by rw [← q]; exact hb)
    rw [Heap.get?_update_other _ _ (Ne.symm hbe)]
    exact Heap.get?_push_of_some _ e1
/-- a traceback's first entry -/
theorem note_first {outer : List Env} {L e : Addr} {oe : Obj} {vs : Array Value} {Q : Unit → Shared → Prop}
    (hfr : A.frames = some (env :: outer)) (hl : s.heap.FunFrames noHeap (env :: outer)) (hf : env.frame = some L)
    (he : s.heap.get? e = some oe) (hd : oe.data = .fields vs) (h1 : vs[1]? = some .none)
    (h : ∀ h' T arr, s.heap.get? T = none → h'.get? e = some (oe.mapFields (·.setIfInBounds 1 (.ref T))) → h'.get? T = some { cls := .type "traceback", dict := none, data := .fields arr } → arr[3]? = some (rawInt L) →
      SlotsR ((env :: outer).filterMap (·.frame)) e s.heap h' → Q () { s with heap := h' }) : wpAny M A (noteFrame (.ref e) env) Q E s := by
  unfold noteFrame
  simp only [hf]
  refine wpAny_bind (wpAny_field he hd h1 ?_)
  rw [if_neg (by decide)]
  exact note_new hfr hl hf he hd (Array.getElem?_eq_some_iff.mp h1).1 h
/-- a further entry -/
theorem note_next {outer : List Env} {L e T : Addr} {oe oT : Obj} {vs ts : Array Value} {Q : Unit → Shared → Prop}
    (hfr : A.frames = some (env :: outer)) (hl : s.heap.FunFrames noHeap (env :: outer)) (hf : env.frame = some L)
    (he : s.heap.get? e = some oe) (hd : oe.data = .fields vs) (h1 : vs[1]? = some (.ref T)) (hT : s.heap.get? T = some oT) (hdT : oT.data = .fields ts) (h3 : ts[3]? = some .none) (hTe : T ≠ e)
    (h : ∀ h' T2 arr, s.heap.get? T2 = none → h'.get? e = some (oe.mapFields (·.setIfInBounds 1 (.ref T2))) → h'.get? T2 = some { cls := .type "traceback", dict := none, data := .fields arr } → arr[3]? = some (rawInt L) →
      (∀ b o, b ≠ e → b ≠ T → b ∉ (env :: outer).filterMap (·.frame) → s.heap.get? b = some o → h'.get? b = some o) → (∀ b ∈ (env :: outer).filterMap (·.frame), ∀ o, s.heap.get? b = some o → ∃ sl, h'.get? b = some { o with slots := sl }) → Q () { s with heap := h' }) : wpAny M A (noteFrame (.ref e) env) Q E s := by
  unfold noteFrame
  simp only [hf]
  refine wpAny_bind (wpAny_field he hd h1 ?_)
  rw [if_pos (show (Value.ref T != Value.none) = true from by simp)]
  refine wpAny_bind (wpAny_field hT hdT h3 ?_)
  rw [if_neg (show ¬ ((Value.none == rawInt L) = true) from by simp [rawInt])]
  refine wpAny_bind (wpAny_setField hT hdT (Array.getElem?_eq_some_iff.mp h3).1 ?_)
  have other : ∀ b, b ≠ T → (s.heap.update T (Obj.mapFields (·.setIfInBounds 3 Value.none))).get? b = s.heap.get? b := fun b hb => Heap.get?_update_other _ _ (Ne.symm hb)
  have noRecord : ∀ b o, s.heap.get? b = some o → (∀ vs, o.data ≠ .fields vs) → b ≠ T := fun b o hb hnf q => by
    rw [q, hT] at hb; injection hb with hb; subst hb; exact hnf ts hdT
  refine note_new hfr (hl.of_keeps fun b o hb hnf => ⟨o, (other b (noRecord b o hb hnf)).trans hb, rfl⟩) hf ((other e (Ne.symm hTe)).trans he) hd (Array.getElem?_eq_some_iff.mp h1).1
    fun h' T2 arr a1 a2 a3 a4 a5 => h h' T2 arr ?_ a2 a3 a4 (fun b o b1 b2 b3 hb => a5.1 b o b1 b3 ((other b b2).trans hb)) fun b hb o ho => ?_
  · by_cases q : T2 = T
    · rw [q] at a1
      have : (s.heap.update T (Obj.mapFields (·.setIfInBounds 3 Value.none))).get? T ≠ none := by
        rw [Heap.get?_update_self _ hT (Obj.isFreed_of_fields (Obj.data_mapFields hdT _))]
        exact fun q => by cases q
      exact absurd a1 this
    · rw [← other T2 q]; exact a1
  · obtain ⟨_, o', ho', hnf⟩ := hl.mem hb
    rw [ho'] at ho; cases ho
    exact a5.2 b hb _ ((other b (noRecord b _ ho' hnf)).trans ho')
end

end Mine
namespace Mine
section
variable {W : Wd} {A : Around} {C : Act} {σ : St} {k : V → St → Prop} {E : Value → Shared → Prop} {kf : Fl → St → Prop}
/-- the turns of a loop that may raise -/
noncomputable def LoopE (W : Wd) (A : Around) (C : Act) (E : Value → Shared → Prop) (t : Expr) (body : List Stmt) (kf : Fl → St → Prop) : List PyData → St → Prop
  | [], σ => kf .next σ
  | x :: xs, σ => ∀ h₀ l, ActOk W (C.at h₀ l) → Le C.h₀ h₀ → (∀ a ∈ C.l, a ∈ l) → WA W A (C.at h₀ l) t (.dat x) σ fun σ1 => WX W A (C.at h₀ l) E body σ1 fun fl σ2 => match fl with
      | .next | .cont => LoopE W A C E t body kf xs σ2
      | .brk => kf .next σ2
      | .ret v => kf (.ret v) σ2
theorem WS.forE {t it : Expr} {body : List Stmt} {pos : Pos} (hC : ActOk W C) (hE : PassesOwn W.M A C.env E) (h : WI W A C t it σ fun xs σ1 => LoopE W A C E t body kf xs σ1)
    (hs : ∀ x, foldedSetIterable it C.env x = pure x := by intro _; rfl) : WS W A C E (.For t it body [] pos) σ kf := fun s sm H => by
  refine wpAny_For (wpAny_mono (h s H) (fun v s1 h1 => wpAny_mono h1 (fun itv s2 h2 => ?_) fun _ _ e => noE e) fun _ _ e => noE e) hs
  obtain ⟨I, fp, wr, xs, St, Kp, σ', rfl, hk, IT, st, sm2, N, lv, le, kp, hfp⟩ := h2
  -- the state behind i turns
  refine codeAny_mono (R := fun r s' => (Ex3 fun f g σ' => A6 (r = .ok f) (kf g σ') (Sm s s') (Hold C σ' s'.heap) (Le (G C σ s.heap) (G C σ' s'.heap)) (LayFl (G C σ' s'.heap) f g)) ∨ ∃ x, r = .error x ∧ cameBackBy W.M A C.env E x s') ?_
    (fun r s' q => by
      rcases q with ⟨f, g, σ', er, a, b, c, d, e⟩ | ⟨x, er, q⟩
      · subst er; exact ⟨g, σ', a, b, c, d, e⟩
      · subst er; exact q)
  have up : ∀ x s', E x s' → notedBy W.M A C.env (fun e s' => (Ex3 fun f g σ' => A6 ((Except.error e : Result) = .ok f) (kf g σ') (Sm s s') (Hold C σ' s'.heap) (Le (G C σ s.heap) (G C σ' s'.heap)) (LayFl (G C σ' s'.heap) f g)) ∨ ∃ x, (Except.error e : Result) = .error x ∧ cameBackBy W.M A C.env E x s') x s' := fun x s' hx =>
    wpAny_mono (hE x s' hx) (fun _ s'' q => .inr ⟨x, rfl, q⟩) fun _ s'' q => .inr ⟨_, rfl, q⟩
  refine codeAny_loop' rfl (fun n s' => Ex2 fun i σi => A10 (n = xs.length - i) (i ≤ xs.length) (LoopE W A C E t body kf (xs.drop i) σi) (St i s'.heap) (Sm s s') (In W C wr σi s'.heap) (Live C wr σi s'.heap) (Le (G C σ s.heap) (hideAll s'.heap (wr ++ hidl C σi.mu))) (Kp (hideAll s'.heap (wr ++ hidl C σi.mu))) (∀ b ∈ fp, ∃ o, (hideAll s'.heap (hid C σi.mu)).get? b = some o)) ?_ xs.length ⟨0, σ', by simp, Nat.zero_le _, by simpa using hk, st, sm2, N, lv, le, kp, hfp⟩
  rintro n s3 ⟨i, σi, rfl, hi, hl, sti, sm3, Ni, lvi, lei, kpi, hfpi⟩
  show wpAny W.M _ ((forTurn t (.ref I) body [] C.env).onRaise (fun x => do noteFrame x C.env; theTreesLotGoes x)) _ _ s3
  rw [Around.under_of_weight (by rfl)]
  refine wpAny_noted ?_
  simp only [forTurn]
  refine wpAny_bind (wpAny_standAt (wpAny_bind (wpAny_onRaise ?_)))
  have hwr : ∀ b ∈ wr, b < s3.heap.objs.size := fun b hb => let ⟨o, e, _⟩ := IT.live _ _ sti b hb; Heap.lt_size e
  have hlt : ∀ a ∈ wr ++ hidl C σi.mu, a < s3.heap.objs.size := fun a ha => (List.mem_append.mp ha).elim (hwr a) fun q => Ni.out.1.lt hC a q
  by_cases hlast : i = xs.length
  · subst hlast
    refine wpAny_mono (IT.done s3 sti) (fun r s4 hqq => ?_) fun _ _ e => e.elim
    obtain ⟨er, sm4, k4⟩ := hqq
    subst er
    have N4 := Ni.next hC lvi k4 (IT.live _ _ sti)
    refine wpAny_pure (.inr ⟨rfl, codeAny_block (wpAny_execs_nil ?_)⟩)
    obtain ⟨H5, le5⟩ := N4.1.out
    rw [List.drop_length] at hl
    exact .inl ⟨.next, .next, σi, rfl, hl, sm3.trans sm4, H5, lei.trans (N4.2.trans le5), trivial⟩
  · have hlt' : i < xs.length := by lia
    have hx : xs[i]? = some xs[i] := List.getElem?_eq_getElem hlt'
    refine wpAny_mono (IT.item i s3 _ xs[i] hlt (fun b hb => List.mem_append_left _ hb) hx sti kpi) (fun r s4 hqq => ?_) fun _ _ e => e.elim
    obtain ⟨v, er, h4⟩ := hqq
    subst er
    refine wpAny_bind (wpAny_mono h4 (fun _ s5 hqq => ?_) fun _ _ e => e.elim)
    obtain ⟨sm5, k5, st5, rd5⟩ := hqq
    obtain ⟨N5, le5⟩ := Ni.next hC lvi k5 (IT.live _ _ sti)
    have lv5 : Live C wr σi s5.heap := fun b hb => let ⟨o, e, _⟩ := IT.live _ _ st5 b hb; let ⟨o', e'⟩ := lvi b hb; ⟨o, hideAll_get _ e (hide_out e')⟩
    rw [List.drop_eq_getElem_cons hlt'] at hl
    have hCt := N5.act hC lv5
    have ht := hl _ _ hCt N5.low (fun a ha => List.mem_append_right _ ha) s5 v N5.hold (by rw [In.g]; exact rd5)
    refine wpAny_bind (wpAny_mono ht (fun _ s6 hqq => ?_) fun _ _ e => e.elim)
    obtain ⟨σ6, hb, sm6, H6, le6⟩ := hqq
    have hgo := hb s6 (sm.trans (sm3.trans (sm5.trans sm6))) H6
    refine wpAny_bind (wpAny_mono hgo (fun fl s7 hqq => ?_) up)
    obtain ⟨g, σ7, hg, sm7, H7, le7, l7⟩ := hqq
    have N7 := N5.turn hC H7
    have lv7 : Live C wr σ7 s7.heap := fun b hb => let ⟨o, e⟩ := lv5 b hb; ⟨o, H7.keep b o e⟩
    have leAll : Le (hideAll s3.heap (wr ++ hidl C σi.mu)) (hideAll s7.heap (wr ++ hidl C σ7.mu)) := by
      refine le5.trans ?_
      have := le6.trans le7
      rw [In.g] at this
      have e : hideAll s7.heap (wr ++ hidl C σ7.mu) = hideAll s7.heap ((wr ++ C.l) ++ hid C σ7.mu) := by
        unfold hidl; rw [List.append_assoc]
      rw [e]; exact this
    have sm37 : Sm s s7 := sm3.trans (sm5.trans (sm6.trans sm7))
    have again : ∀ hl' : LoopE W A C E t body kf (xs.drop (i + 1)) σ7, Ex2 fun i' σi' => A10 (xs.length - (i + 1) = xs.length - i') (i' ≤ xs.length) (LoopE W A C E t body kf (xs.drop i') σi') (St i' s7.heap) (Sm s s7) (In W C wr σi' s7.heap) (Live C wr σi' s7.heap) (Le (G C σ s.heap) (hideAll s7.heap (wr ++ hidl C σi'.mu))) (Kp (hideAll s7.heap (wr ++ hidl C σi'.mu))) (∀ b ∈ fp, ∃ o, (hideAll s7.heap (hid C σi'.mu)).get? b = some o) := fun hl' => by
      have hfp5 : ∀ b ∈ fp, ∀ o, s5.heap.get? b = some o → (hideAll s5.heap (hid C σi.mu)).get? b = some o := fun b hb o e => by
        obtain ⟨o', e'⟩ := hfpi b hb
        exact hideAll_get _ e (hide_out e')
      refine ⟨i + 1, σ7, rfl, hlt', hl', IT.frame _ _ _ st5 fun b hb o e => of_hideAll _ (H7.keep b o (hfp5 b hb o e)), sm37, N7, lv7, lei.trans leAll, IT.kpm _ _ leAll kpi, fun b hb => ?_⟩
      by_cases q : b ∈ wr
      · exact lv7 b q
      · obtain ⟨o', e'⟩ := hfpi b hb
        have e5 := k5 b o' q (of_hideAll _ e')
        exact ⟨o', H7.keep b o' (hfp5 b hb o' e5)⟩
    have fin : ∀ g, kf g σ7 → LayFl (hideAll s7.heap (wr ++ hidl C σ7.mu)) fl g → Ex3 fun f g σ' => A6 ((Except.ok fl : Result) = .ok f) (kf g σ') (Sm s s7) (Hold C σ' s7.heap) (Le (G C σ s.heap) (G C σ' s7.heap)) (LayFl (G C σ' s7.heap) f g) := fun g hk l => by
      obtain ⟨H8, le8⟩ := N7.out
      refine ⟨fl, g, σ7, rfl, hk, sm37, H8, lei.trans (leAll.trans le8), ?_⟩
      cases fl <;> cases g <;> first | exact l | exact LayV.keeps l le8
    cases fl <;> cases g <;> first | exact l7.elim | skip
    · exact wpAny_pure (.inl ⟨rfl, _, by lia, again hg⟩)
    · obtain ⟨H8, le8⟩ := N7.out
      exact wpAny_pure (.inl ⟨.next, .next, σ7, rfl, hg, sm37, H8, lei.trans (leAll.trans le8), trivial⟩)
    · exact wpAny_pure (.inl ⟨rfl, _, by lia, again hg⟩)
    · refine wpAny_pure (.inl (fin _ hg ?_))
      have e : hideAll s7.heap (wr ++ hidl C σ7.mu) = hideAll s7.heap ((wr ++ C.l) ++ hid C σ7.mu) := by
        unfold hidl; rw [List.append_assoc]
      show LayV (hideAll s7.heap (wr ++ hidl C σ7.mu)) _ _
      rw [e]; exact l7

theorem LoopW.toE {t : Expr} {body : List Stmt} : ∀ (xs : List PyData) (σ : St), LoopW W A C E t body kf xs σ → LoopE W A C E t body kf xs σ
  | [], _, h => h
  | x :: xs, σ, h => fun h₀ l hC _ _ s v H lv => wpAny_mono (h h₀ l hC s v H lv) (fun _ s1 q => by
      obtain ⟨σ1, h1, a, b, c⟩ := q
      refine ⟨σ1, fun s sm H => wpAny_mono (h1 s sm H) (fun f s2 q => ?_) fun _ _ e => e, a, b, c⟩
      obtain ⟨g, σ2, hk, a, b, c, d⟩ := q
      refine ⟨g, σ2, ?_, a, b, c, d⟩
      cases g with
      | next => exact LoopW.toE xs σ2 hk
      | cont => exact LoopW.toE xs σ2 hk
      | brk => exact hk
      | ret v => exact hk) fun _ _ e => e
theorem passes_noE {env : Env} : PassesOwn W.M A env NoE := by passes_own
theorem WS.for {t it : Expr} {body : List Stmt} {pos : Pos} (hC : ActOk W C) (h : WI W A C t it σ fun xs σ1 => LoopW W A C NoE t body kf xs σ1)
    (hs : ∀ x, foldedSetIterable it C.env x = pure x := by intro _; rfl) : WS W A C E (.For t it body [] pos) σ kf := fun s sm H =>
  wpAny_mono (WS.forE hC passes_noE (fun s1 H1 => wpAny_mono (h s1 H1) (fun v s2 q => wpAny_mono q (fun it s3 q => by
    obtain ⟨I, fp, wr, xs, St, Kp, σ', e1, e2, e3, e4, e5, e6, e7, e8, e9, e10⟩ := q
    exact ⟨I, fp, wr, xs, St, Kp, σ', e1, LoopW.toE xs σ' e2, e3, e4, e5, e6, e7, e8, e9, e10⟩) fun _ _ e => e) fun _ _ e => e) hs s sm H) (fun _ _ q => q) fun _ _ e => noE e

/-- frames' slots have changed, nothing else -/
theorem Hold.slots {fs : List Addr} {h1 h2 : Heap} (hC : ActOk W C) (H : Hold C σ h1) (hfs : ∀ b ∈ fs, b ∈ C.own ∧ b ∉ C.env.cells.map (·.2)) (k1 : ∀ b o, b ∉ fs → h1.get? b = some o → h2.get? b = some o)
    (k2 : ∀ b ∈ fs, ∀ o, h1.get? b = some o → ∃ sl, h2.get? b = some { o with slots := sl }) : Hold C σ h2 ∧ Le (G C σ h1) (G C σ h2) := by
  have hid' : ∀ b, b ∈ fs → b ∈ hid C σ.mu := fun b hb => List.mem_cons_of_mem _ (List.mem_append_left _ (hfs b hb).1)
  have le1 : Le (hideAll h1 (hid C σ.mu)) (hideAll h2 (hid C σ.mu)) := hide_same fun b o n e => k1 b o (fun q => n (hid' b q)) e
  have le2 : Le (G C σ h1) (G C σ h2) := hide_same fun b o n e => k1 b o (fun q => n (List.mem_append_right _ (hid' b q))) e
  have nd := H.nodup
  unfold hid at nd
  rw [List.nodup_cons, List.nodup_append] at nd
  have any : ∀ b o, h1.get? b = some o → ∃ o', h2.get? b = some o' ∧ o'.data = o.data := fun b o e => by
    by_cases q : b ∈ fs
    · obtain ⟨sl, e'⟩ := k2 b q o e; exact ⟨_, e', rfl⟩
    · exact ⟨o, k1 b o q e, rfl⟩
  refine ⟨⟨H.keep.trans le1, H.nodup, ?_, ?_, ?_, ?_, ?_⟩, le2⟩
  · obtain ⟨ps, a, b, c⟩ := H.tab
    have n89 : (89 : Addr) ∉ fs := fun q => nd.1 (List.mem_append_left _ (hfs _ q).1)
    refine ⟨ps, k1 _ _ n89 a, b, fun p v e => ?_⟩
    obtain ⟨cd, o, vs, t, q1, q2, q3, q4⟩ := c p v e
    obtain ⟨o', e1, e2⟩ := any cd o q2
    exact ⟨cd, o', vs, t, q1, e1, e2.trans q3, q4⟩
  · obtain ⟨m, ⟨o, es, ep, e, d, r⟩, b⟩ := H.ns
    obtain ⟨o', e1, e2⟩ := any _ o e
    exact ⟨m, ⟨o', es, ep, e1, e2.trans d, r⟩, fun x v a1 a2 => let ⟨v', c1, c2⟩ := b x v a1 a2; ⟨v', c1, c2.keeps le2⟩⟩
  · intro x v a1 a2
    obtain ⟨c, v', c1, ⟨o, c2, c3⟩, c4⟩ := H.cell x v a1 a2
    exact ⟨c, v', c1, ⟨o, k1 c o (fun q => (hfs c q).2 (List.mem_map_of_mem (f := fun p : Str × Addr => p.2) (mem_of_lookup c1))) c2, c3⟩, c4.keeps le2⟩
  · intro c hc hn
    obtain ⟨w, o, e, d⟩ := H.ownc c hc hn
    obtain ⟨o', e1, e2⟩ := any c o e
    exact ⟨w, o', e1, e2 ▸ d⟩
  · intro p hp
    obtain ⟨i, n, e, l⟩ := H.mus p hp
    refine ⟨i, n, k1 _ _ (fun q => ?_) e, l.keeps le2⟩
    exact nd.2.2.2 p.1 (hfs _ q).1 p.1 (List.mem_map_of_mem hp) rfl
/-- what a turn's activation says is said of the loop's -/
theorem Hold.unAt {h₀ h : Heap} {l : List Addr} (H : Hold (C.at h₀ l) σ h) (k0 : Le C.h₀ h₀) (kl : ∀ a ∈ C.l, a ∈ l) : Hold C σ h ∧ Le (G (C.at h₀ l) σ h) (G C σ h) := by
  have le : Le (G (C.at h₀ l) σ h) (G C σ h) := hide_sub fun a ha => by
    rcases List.mem_append.mp ha with ha | ha
    · exact List.mem_append_left _ (kl a ha)
    · exact List.mem_append_right _ ha
  refine ⟨⟨k0.trans H.keep, H.nodup, H.tab, ?_, ?_, H.ownc, ?_⟩, le⟩
  · obtain ⟨m, a, b⟩ := H.ns
    exact ⟨m, a, fun x v e1 e2 => let ⟨v', c1, c2⟩ := b x v e1 e2; ⟨v', c1, c2.keeps le⟩⟩
  · exact fun x v e1 e2 => let ⟨c, v', c1, c2, c3⟩ := H.cell x v e1 e2; ⟨c, v', c1, c2, c3.keeps le⟩
  · intro p hp
    obtain ⟨i, n, e, l'⟩ := H.mus p hp
    exact ⟨i, n, e, l'.keeps le⟩
end

end Mine
namespace Mine
/-- the frames that stand: this activation's and those that wait for it -/
structure FrA (A : Around) (C : Act) (outer : List Env) : Prop where
  frames : A.frames = some (C.env :: outer)
  here : C.env.frame = some C.env.locals
  up : ∀ env ∈ outer, env.scope.kind ≠ .module ∧ ∃ L, env.frame = some L ∧ L ∈ C.own
  nocell : ∀ b ∈ (C.env :: outer).filterMap (·.frame), b ∉ C.env.cells.map (·.2)
noncomputable abbrev faultObj (D tp : Addr) (tb : Value) : Obj := { cls := .ref 59, dict := some D, data := .fields #[.ref tp, tb, .none, .none, .bool false, .none] }
noncomputable abbrev tbObj (arr : Array Value) : Obj := { cls := .type "traceback", dict := none, data := .fields arr }
noncomputable def Bears (g : Heap) (D : Addr) (n : Int) : Prop := ∃ mA t, g.Ns1 D mA ∧ mA (Str.ofString "at") = some (.int n t)
theorem Bears.keeps {g g' : Heap} {D : Addr} {n : Int} (b : Bears g D n) (k : Le g g') : Bears g' D n := let ⟨mA, t, x, y⟩ := b; ⟨mA, t, x.keeps k, y⟩
/-- a fault on its way, noted: fl tells where -/
noncomputable def RaisedT (C : Act) (fl : Value) (K : Int → St → Prop) (e : Addr) (s' : Shared) : Prop :=
  Ex6 fun n σ1 D tp T arr => A8 (K n σ1) (Sm C.s₀ s') (s'.heap.get? e = some (faultObj D tp (.ref T))) (s'.heap.get? T = some (tbObj arr)) (arr[3]? = some fl) (T ≠ e) (Hold C σ1 (hideAll s'.heap [e, T])) (Bears (G C σ1 (hideAll s'.heap [e, T])) D n)
noncomputable def RaisedN (C : Act) (K : Int → St → Prop) (e : Addr) (s' : Shared) : Prop :=
  Ex4 fun n σ1 D tp => A5 (K n σ1) (Sm C.s₀ s') (s'.heap.get? e = some (faultObj D tp .none)) (Hold C σ1 (hideAll s'.heap [e])) (Bears (G C σ1 (hideAll s'.heap [e])) D n)
noncomputable def RaisedHere (C : Act) (fl : Value) (K : Int → St → Prop) (v : Value) (s' : Shared) : Prop := ∃ e, v = .ref e ∧ (RaisedN C K e s' ∨ RaisedT C fl K e s')
section
variable {W : Wd} {A : Around} {C : Act} {σ : St} {E : Value → Shared → Prop} {kf : Fl → St → Prop} {K : Int → St → Prop} {outer : List Env}
theorem Hold.live {h : Heap} (hC : ActOk W C) (H : Hold C σ h) : ∀ a ∈ hidl C σ.mu, ∃ o, h.get? a = some o := by
  intro a ha
  rcases List.mem_append.mp ha with ha | ha
  · obtain ⟨o, e⟩ := hC.lex a ha
    exact ⟨o, of_hideAll _ (H.keep _ _ e)⟩
  · rcases List.mem_cons.mp ha with rfl | ha
    · obtain ⟨ps, e, _⟩ := H.tab
      exact ⟨_, e⟩
    · rcases List.mem_append.mp ha with ha | ha
      · by_cases q : a = C.env.locals
        · obtain ⟨m, ⟨o, es, ep, e, _⟩, _⟩ := H.ns
          rw [q]; exact ⟨o, e⟩
        · obtain ⟨w, o, e, _⟩ := H.ownc a ha q
          exact ⟨o, e⟩
      · obtain ⟨p, hp, rfl⟩ := List.mem_map.mp ha
        obtain ⟨i, n, e, _⟩ := H.mus p hp
        exact ⟨_, e⟩
theorem FrA.fun {h : Heap} (hC : ActOk W C) (F : FrA A C outer) (H : Hold C σ h) : h.FunFrames noHeap (C.env :: outer) := by
  have one : ∀ L ∈ C.own, ∃ o, h.get? L = some o ∧ ∀ vs, o.data ≠ .fields vs := fun L hL => by
    by_cases q : L = C.env.locals
    · obtain ⟨m, ⟨o, es, ep, e, d, _⟩, _⟩ := H.ns
      exact ⟨o, q ▸ e, fun vs z => by rw [d] at z; cases z⟩
    · obtain ⟨w, o, e, d⟩ := H.ownc L hL q
      refine ⟨o, e, fun vs z => ?_⟩
      rw [z] at d
      rcases d with ⟨d, _⟩ | ⟨⟨_, _, d⟩, _⟩ <;> cases d
  refine ⟨by rw [hC.kind]; decide, ?_, ?_⟩
  · obtain ⟨o, e, d⟩ := one _ hC.loc
    exact ⟨_, o, F.here, noHeap_get _, e, d⟩
  · have := F.up
    clear F
    induction outer with
    | nil => trivial
    | cons env r ih =>
      obtain ⟨hk, L, hf, hm⟩ := this env (.head _)
      obtain ⟨o, e, d⟩ := one L hm
      exact ⟨hk, ⟨L, o, hf, noHeap_get _, e, d⟩, ih fun env' h' => this env' (.tail _ h')⟩
theorem FrA.fs (hC : ActOk W C) (F : FrA A C outer) : ∀ b ∈ (C.env :: outer).filterMap (·.frame), b ∈ C.own ∧ b ∉ C.env.cells.map (·.2) := fun b hb => by
  refine ⟨?_, F.nocell b hb⟩
  obtain ⟨env, he, hf⟩ := List.mem_filterMap.mp hb
  rcases List.mem_cons.mp he with rfl | he
  · rw [F.here] at hf; cases hf; exact hC.loc
  · obtain ⟨_, L, h1, h2⟩ := F.up env he
    rw [h1] at hf; cases hf; exact h2

theorem hide_up {h : Heap} {l : List Addr} {e : List Env} (x : (hideAll h l).FunFrames noHeap e) : h.FunFrames noHeap e := by
  induction e with
  | nil => trivial
  | cons env r ih =>
    obtain ⟨a, ⟨L, o, b, c, d, f⟩, g⟩ := x
    exact ⟨a, ⟨L, o, b, c, hide_le _ _ d, f⟩, ih g⟩
/-- an entry is made where it is raised -/
theorem note_here {e : Addr} {s : Shared} (hC : ActOk W C) (F : FrA A C outer) (R : RaisedN C K e s ∨ RaisedT C (rawInt C.env.locals) K e s) {Q : Unit → Shared → Prop} (hq : ∀ s', RaisedT C (rawInt C.env.locals) K e s' → Q () s') : wpAny W.M A (noteFrame (.ref e) C.env) Q E s := by
  rcases R with ⟨n, σ1, D, tp, hk, sm, he, H, hb⟩ | R
  · refine note_first F.frames (hide_up (F.fun hC H)) F.here he rfl rfl fun h' T arr hTn he' hT' h3 sl => ?_
    have hTe : T ≠ e := fun q => by rw [q, he] at hTn; cases hTn
    have k1 : ∀ b o, b ∉ (C.env :: outer).filterMap (·.frame) → (hideAll s.heap [e]).get? b = some o → (hideAll h' [e, T]).get? b = some o := fun b o hbf hb => by
      have n1 := hide_out hb
      have hb' := of_hideAll _ hb
      refine hideAll_get _ (sl.1 b o (fun q => n1 (q ▸ .head _)) hbf hb') fun m => ?_
      rcases List.mem_cons.mp m with q | m
      · exact n1 (q ▸ .head _)
      · rw [List.mem_singleton.mp m, hTn] at hb'; cases hb'
    have k2 : ∀ b ∈ (C.env :: outer).filterMap (·.frame), ∀ o, (hideAll s.heap [e]).get? b = some o → ∃ sl, (hideAll h' [e, T]).get? b = some { o with slots := sl } := fun b hbf o hb => by
      have n1 := hide_out hb
      have hb' := of_hideAll _ hb
      obtain ⟨sl', e1⟩ := sl.2 b hbf o hb'
      refine ⟨sl', hideAll_get _ e1 fun m => ?_⟩
      rcases List.mem_cons.mp m with q | m
      · exact n1 (q ▸ .head _)
      · rw [List.mem_singleton.mp m, hTn] at hb'; cases hb'
    obtain ⟨H', le⟩ := H.slots hC (F.fs hC) k1 k2
    exact hq _ ⟨n, σ1, D, tp, T, arr, hk, sm.trans ⟨h', s.toks, rfl⟩, he', hT', h3, hTe, H', hb.keeps le⟩
  · obtain ⟨n, σ1, D, tp, T, arr, hk, sm, he, hT, h3, hTe, H, hb⟩ := R
    exact wpAny_noteFrame_inFlight F.here he rfl rfl hT rfl h3 (hq _ ⟨n, σ1, D, tp, T, arr, hk, sm, he, hT, h3, hTe, H, hb⟩)
theorem arr_set {arr : Array Value} {fl fl' : Value} (h : arr[3]? = some fl) : (arr.setIfInBounds 3 fl')[3]? = some fl' := by
  have := (Array.getElem?_eq_some_iff.mp h).1
  simp [this]
/-- the flight is told -/
theorem flight {e : Addr} {s : Shared} {fl : Value} {fr : Option Addr} (hC : ActOk W C) (R : RaisedT C fl K e s) {Q : Unit → Shared → Prop} (hq : ∀ s', RaisedT C (fr.elim .none fun f => rawInt f) K e s' → Q () s') : wpAny W.M A (setFlight (.ref e) fr) Q E s := by
  obtain ⟨n, σ1, D, tp, T, arr, hk, sm, he, hT, h3, hTe, H, hb⟩ := R
  unfold setFlight
  refine wpAny_bind (wpAny_field (x := .ref T) he rfl rfl ?_)
  rw [if_pos (show (Value.ref T != Value.none) = true from by simp)]
  have eq : ∀ b o, (hideAll s.heap [e, T]).get? b = some o → (hideAll (s.heap.update T (Obj.mapFields (·.setIfInBounds 3 (fr.elim .none fun f => rawInt f)))) [e, T]).get? b = some o := fun b o hbo => by
    have n1 := hide_out hbo
    exact hideAll_get _ ((Heap.get?_update_other _ _ (fun q => n1 (by rw [← q]; exact .tail _ (.head _)))).trans (of_hideAll _ hbo)) n1
  obtain ⟨H', le⟩ := Hold.slots (fs := []) (W := W) (C := C) (σ := σ1) (h2 := hideAll (s.heap.update T (Obj.mapFields (·.setIfInBounds 3 (fr.elim .none fun f => rawInt f)))) [e, T]) hC H (by simp) (fun b o _ hbo => eq b o hbo) (by simp)
  refine wpAny_setField hT rfl (Array.getElem?_eq_some_iff.mp h3).1 (hq _ ⟨n, σ1, D, tp, T, arr.setIfInBounds 3 (fr.elim .none fun f => rawInt f), hk, sm.trans ⟨_, s.toks, rfl⟩, ?_, ?_, arr_set h3, hTe, H', hb.keeps le⟩)
  · exact (Heap.get?_update_other _ _ hTe).trans he
  · exact Heap.get?_update_self _ hT rfl
end

end Mine
namespace Mine
section
variable {W : Wd} {A : Around} {C : Act} {σ : St} {E : Value → Shared → Prop} {kf : Fl → St → Prop} {K : Int → St → Prop} {outer : List Env}
theorem RaisedHere.passes (hC : ActOk W C) (F : FrA A C outer) : PassesOwn W.M A C.env (RaisedHere C (rawInt C.env.locals) K) := fun v s' h => by
  obtain ⟨e, rfl, R⟩ := h
  refine note_here hC F R fun s2 R2 => ?_
  have R2' := R2
  obtain ⟨n, σ1, D, tp, T, arr, hk, sm, he, hT, h3, hTe, H, hb⟩ := R2'
  unfold cameBackBy
  refine wpAny_bind (wpAny_field (x := .ref T) he rfl rfl ?_)
  rw [if_neg (by simp)]
  refine flight hC R2 fun s3 R3 => ?_
  rw [F.here] at R3
  exact ⟨e, rfl, .inr R3⟩
theorem leaving_here {e : Addr} {s : Shared} (hC : ActOk W C) (F : FrA A C outer) (R : RaisedN C K e s ∨ RaisedT C (rawInt C.env.locals) K e s) {Q : Unit → Shared → Prop} (hq : ∀ s', RaisedT C .none K e s' → Q () s') : wpAny W.M A (leaving C.env (.ref e)) Q E s := by
  unfold leaving
  exact wpAny_bind (note_here hC F R fun s2 R2 => flight (fr := none) hC R2 hq)

theorem WS.raise {np cpos pos : Pos} {e1 e2 : Expr} {fl : Value} (hW : IsW W) (hC : ActOk W C) (hr : Rm 10 A)
    (h : WEs W A C cpos [e1, e2] σ fun xs σ1 => ∃ w n, xs = [.dat (.str w), .dat (.int n)] ∧ K n σ1)
    (hx : C.env.kindOf (Str.ofString "QueryFault") = some .globalImplicit := by rfl) (hes : starEach [e1, e2] C.env = (false, eval e1 C.env) :: starEach [e2] C.env := by rfl) (hes2 : starEach [e2] C.env = [(false, eval e2 C.env)] := by rfl) :
    WS W A C (RaisedHere C fl K) (.Raise (some (.Call (.Name (Str.ofString "QueryFault") np) [e1, e2] [] cpos)) none pos) σ kf := fun s sm H => by
  have hplain : (backTo cpos (starEach [e1, e2] C.env)).any (·.1) = false := by rw [hes, hes2]; rfl
  have go : wpAny W.M A (evalArgs (.ref 59) true (backTo cpos (starEach [e1, e2] C.env)) []) (fun a s1 => Ex5 fun w n t1 t2 σ1 => A4 (a = ⟨[.str w t1, .int n t2], []⟩) (K n σ1) (Sm s s1) (Hold C σ1 s1.heap)) NoE s := by
    have h0 : wpAny W.M A (spliced (backTo cpos (starEach [e1, e2] C.env))) (fun vs s1 => Ex5 fun w n t1 t2 σ1 => A4 (vs = [.str w t1, .int n t2]) (K n σ1) (Sm s s1) (Hold C σ1 s1.heap)) NoE s := by
      refine wpAny_mono (h s H) (fun vs s1 hqq => ?_) fun _ _ e => e
      obtain ⟨xs, σ1, ⟨w, n, ex, hk⟩, sm1, H1, le1, l1⟩ := hqq
      subst ex
      cases l1 with | cons a b => cases b with | cons b c =>
        cases c
        obtain ⟨t1, rfl⟩ := Rd.str_inv a
        obtain ⟨t2, rfl⟩ := Rd.int_inv b
        exact ⟨w, n, t1, t2, σ1, rfl, hk, sm1, H1⟩
    rw [hes] at h0 ⊢
    exact evalArgs_plain (wpAny_mono h0 (fun vs s1 ⟨w, n, t1, t2, σ1, ev, r1, r2, r3⟩ => ⟨w, n, t1, t2, σ1, by rw [ev], r1, r2, r3⟩) fun _ _ e => e)
  rw [arm_exec_Raise]
  have key : wpAny W.M A (eval (.Call (.Name (Str.ofString "QueryFault") np) [e1, e2] [] cpos) C.env) (fun v s₁ => Ex3 fun e t D => A4 (v = .ref e) (s₁.heap.get? 59 = some objF) (s₁.heap.get? e = some (faultObj D t .none)) (RaisedHere C fl K (.ref e) s₁)) NoE s := by
    refine wpAny_Call_ofName (glob_val hC (H.stat hC) hide_le (by rw [hW.K]; exact glob_fault _) ?_ hx (by decide))
    show wpAny W.M A (callWith cpos (.ref 59) [] (backTo cpos (starEach [e1, e2] C.env)) []) _ _ _
    unfold callWith
    refine wpAny_bind (wpAny_holding (wpAny_mono go (fun a s₂ h₂ => wpAny_bind (wpAny_standAt ?_)) fun _ _ x => x))
    obtain ⟨w, n, t1, t2, σ1, rfl, hk, sm1, H1⟩ := h₂
    have S1 := H1.stat hC
    have h59 : s₂.heap.get? 59 = some objF := hide_le _ _ (S1.K _ _ (by rw [hW.K]; exact K59 _))
    simp only [hplain]
    refine wpAny_bind ?_
    obtain ⟨hp, g, d, tk, os⟩ := s₂
    refine wpAny_keeperOf_exc h59 ?_
    refine wpAny_bind (fault_call hW S1 hide_le (by have := hr.depth; unfold recursionLimit; lia) fun s' e sm2 le2 hn hf => wpAny_bind (wpAny_holding (wpAny_point (wpAny_pure ?_))))
    obtain ⟨tp, D, mA, t, a1, a2, a3, a4, a5⟩ := hf
    obtain ⟨m, hm, _⟩ := H1.ns
    have leE : Le hp (hideAll s'.heap [e]) := fun b o q => hideAll_get _ (le2 b o q) fun z => by
      rw [List.mem_singleton.mp z] at q; change hp.get? e = none at hn; rw [hn] at q; cases q
    obtain ⟨H2, _⟩ := H1.step (s := ⟨hp, g, d, tk, os⟩) (s' := ⟨hideAll s'.heap [e], g, d, tk, os⟩) hC hm (.of_le ⟨_, tk, rfl⟩ hm leE)
    refine ⟨e, tp, D, rfl, le2 _ _ h59, a1, e, rfl, .inl ⟨n, σ1, D, tp, hk, sm.trans (sm1.trans sm2), a1, H2, mA, t, ?_, a3⟩⟩
    refine a2.at fun o q => hideAll_get _ (hideAll_get _ q fun z => a4 (List.mem_singleton.mp z)) fun z => ?_
    obtain ⟨o', e'⟩ := H1.live hC D z
    change hp.get? D = none at a5
    rw [a5] at e'; cases e'
  refine wpAny_bind (wpAny_standAt (raise_made hr.handled (wpAny_bind (wpAny_mono key (fun v s₃ h₃ => wpAny_bind (wpAny_standAt (wpAny_pure h₃))) fun _ _ e => e.elim))))
end

end Mine
namespace Mine
/-- the frames that wait, and what stands in them -/
structure FrOk (outer : List Env) (fr l : List Addr) (A : Around) (h : Heap) : Prop where
  frames : A.frames = some outer
  eq : fr = outer.filterMap (·.frame)
  nd : fr.Nodup
  up : ∀ env ∈ outer, env.scope.kind ≠ .module ∧ ∃ L, env.frame = some L
  dat : ∀ a ∈ fr, Ex3 fun o es ep => (h.get? a = some o) ∧ (o.data = .dict es ep)
  off : ∀ a ∈ l, a ∉ fr
noncomputable def BackF (W : Wd) (l fr : List Addr) (mu mu' : Mu) (h h' : Heap) : Prop :=
  Base W h' (fr ++ l) mu' ∧ Le (hideAll h (fr ++ 89 :: keys mu)) (hideAll h' (fr ++ 89 :: keys mu')) ∧ ∀ a ∈ fr, ∀ o, h.get? a = some o → ∃ o', h'.get? a = some o' ∧ o'.data = o.data
noncomputable def RetF (W : Wd) (l fr : List Addr) (mu : Mu) (s : Shared) (k : V → Mu → Prop) (v : Value) (s' : Shared) : Prop :=
  Ex2 fun x mu' => A4 (k x mu') (Sm s s') (BackF W l fr mu mu' s.heap s'.heap) (LayV (hideAll s'.heap ((fr ++ l) ++ 89 :: keys mu')) v x)
noncomputable def XF (W : Wd) (l fr : List Addr) (mu : Mu) (s : Shared) (K : Int → Mu → Prop) (v : Value) (s' : Shared) : Prop :=
  Ex7 fun e n mu' D tp T arr => A9 (v = .ref e) (K n mu') (Sm s s') (s'.heap.get? e = some (faultObj D tp (.ref T))) (s'.heap.get? T = some (tbObj arr)) (arr[3]? = some .none) (T ≠ e) (BackF W l fr mu mu' s.heap (hideAll s'.heap [e, T])) (Bears (hideAll (hideAll s'.heap [e, T]) ((fr ++ l) ++ 89 :: keys mu')) D n)
/-- a call within frames that may be told of in a traceback -/
noncomputable def CallsF (W : Wd) (d : Nat) (f : Value) (xs : List V) (mu : Mu) (k : V → Mu → Prop) (K : Int → Mu → Prop) : Prop :=
  ∀ A s vs l outer fr, Rm d A → FrOk outer fr l A s.heap → Base W s.heap (fr ++ l) mu → LayVs (hideAll s.heap ((fr ++ l) ++ 89 :: keys mu)) vs xs → wpAny W.M A (call f vs) (RetF W l fr mu s k) (XF W l fr mu s K) s
noncomputable def actF (name : Str) (f : Addr) (scope : Scope) (cdv : Value) (L : Addr) (h₀ : Heap) (l : List Addr) (s₀ : Shared) (fr : List Addr) : Act :=
  { actOf name f scope cdv L h₀ l s₀ with own := L :: ((cellsFrom (L + 1) scope.names []).map (·.2) ++ fr) }

theorem Hold.backF {W : Wd} {name : Str} {f : Addr} {scope : Scope} {cdv : Value} {L : Addr} {l fr : List Addr} {s : Shared} {mu : Mu} {σ : St} {h : Heap}
    (hC : ActOk W (actF name f scope cdv L (hideAll s.heap (fr ++ 89 :: keys mu)) l s fr)) (H : Hold (actF name f scope cdv L (hideAll s.heap (fr ++ 89 :: keys mu)) l s fr) σ h)
    (hL : L ∉ fr) (hc : ∀ a ∈ fr, a ∉ (cellsFrom (L + 1) scope.names []).map (·.2)) :
    BackF W l fr mu σ.mu s.heap h ∧ Le (G (actF name f scope cdv L (hideAll s.heap (fr ++ 89 :: keys mu)) l s fr) σ h) (hideAll h ((fr ++ l) ++ 89 :: keys σ.mu)) := by
  generalize hCe : actF name f scope cdv L (hideAll s.heap (fr ++ 89 :: keys mu)) l s fr = C at *
  have eown : C.own = L :: ((cellsFrom (L + 1) scope.names []).map (·.2) ++ fr) := by rw [← hCe]; rfl
  have eloc : C.env.locals = L := by rw [← hCe]; rfl
  have el : C.l = l := by rw [← hCe]; rfl
  have eh : C.h₀ = hideAll s.heap (fr ++ 89 :: keys mu) := by rw [← hCe]; rfl
  have es : C.s₀ = s := by rw [← hCe]; rfl
  have ec : C.env.cells = cellsFrom (L + 1) scope.names [] := by rw [← hCe]; rfl
  have inown : ∀ a ∈ fr, a ∈ C.own := fun a ha => by rw [eown]; exact .tail _ (List.mem_append_right _ ha)
  have sub : Le (G C σ h) (hideAll h ((fr ++ l) ++ 89 :: keys σ.mu)) := hide_sub fun a ha => by
    show a ∈ C.l ++ 89 :: (C.own ++ keys σ.mu)
    rw [el]
    simp only [List.mem_append, List.mem_cons] at ha ⊢
    rcases ha with (ha | ha) | ha | ha
    · exact .inr (.inr (.inl (inown a ha)))
    · exact .inl ha
    · exact .inr (.inl ha)
    · exact .inr (.inr (.inr ha))
  have sub1 : Le (hideAll h (hid C σ.mu)) (hideAll h (fr ++ 89 :: keys σ.mu)) := hide_sub fun a ha => by
    show a ∈ 89 :: (C.own ++ keys σ.mu)
    simp only [List.mem_append, List.mem_cons] at ha ⊢
    rcases ha with ha | ha | ha
    · exact .inr (.inl (inown a ha))
    · exact .inl ha
    · exact .inr (.inr ha)
  have sub2 : Le (hideAll h (hid C σ.mu)) (hideAll h (89 :: keys σ.mu)) := hide_sub fun a ha => by
    show a ∈ 89 :: (C.own ++ keys σ.mu)
    simp only [List.mem_append, List.mem_cons] at ha ⊢
    rcases ha with ha | ha <;> simp [ha]
  have nd := H.nodup
  unfold hid at nd
  rw [List.nodup_cons, List.nodup_append] at nd
  have dat : ∀ a ∈ fr, Ex2 fun o o₀ => A3 (h.get? a = some o) (s.heap.get? a = some o₀) (o₀.data = o.data) := fun a ha => by
    obtain ⟨w, o, e, d⟩ := H.ownc a (inown a ha) (by rw [eloc]; exact fun q => hL (q ▸ ha))
    rcases d with ⟨_, d⟩ | ⟨_, _, o₀, e₀, d₀⟩
    · rw [ec] at d; exact absurd d (hc a ha)
    · rw [es] at e₀; exact ⟨o, o₀, e, e₀, d₀⟩
  refine ⟨⟨⟨(H.stat hC).keeps sub, H.tab, List.nodup_cons.mpr ⟨fun m => nd.1 (List.mem_append_right _ m), nd.2.2.1⟩, fun a ha => ?_, fun p hp => ?_⟩, ?_, fun a ha o e => ?_⟩, sub⟩
  · rcases List.mem_append.mp ha with ha | ha
    · obtain ⟨o, _, e, _⟩ := dat a ha
      refine ⟨o, hideAll_get _ e fun m => ?_⟩
      rcases List.mem_cons.mp m with q | m
      · exact nd.1 (List.mem_append_left _ (q ▸ inown a ha))
      · exact nd.2.2.2 a (inown a ha) a m rfl
    · obtain ⟨o, e⟩ := hC.lex a (by rw [el]; exact ha)
      exact ⟨o, sub2 _ _ (H.keep a o e)⟩
  · obtain ⟨i, n, e, lx⟩ := H.mus p hp
    exact ⟨i, n, e, lx.keeps sub⟩
  · rw [← eh]; exact H.keep.trans sub1
  · obtain ⟨o', o₀, e1, e2, e3⟩ := dat a ha
    rw [e] at e2; cases e2
    exact ⟨o', e1, e3.symm⟩

theorem RaisedN.ref {C : Act} {K : Int → St → Prop} {fl : Value} {v : Value} {s : Shared} (h : RaisedHere C fl K v s) : ∃ e, v = .ref e ∧ (RaisedN C K e s ∨ RaisedT C fl K e s) := h
/-- a body run, without what stands being told of -/
noncomputable def WXw (W : Wd) (A : Around) (C : Act) (E : Value → Shared → Prop) (st : List Stmt) (σ : St) (kf : Fl → St → Prop) : Prop :=
  ∀ s, Sm C.s₀ s → Hold C σ s.heap → wpAny W.M A (execs st C.env) (fun f s' => Ex2 fun g σ' => A4 (kf g σ') (Sm s s') (Hold C σ' s'.heap) (LayFl (G C σ' s'.heap) f g)) E s
theorem CallsF.introW {W : Wd} {name : Str} {f : Addr} {ps : List Str} {params : Arguments} {body : List Stmt} {scope : Scope} {cdv : Value} {fd : FuncData} {d : Nat} {xs : List V} {mu : Mu} {k : V → Mu → Prop} {K : Int → Mu → Prop}
    (D : Def W name f ps params body scope cdv fd) (hlen : xs.length = ps.length)
    (B : ∀ A L h₀ l s₀ fr outer, ActOk W (actF name f scope cdv L h₀ l s₀ fr) → FrA A (actF name f scope cdv L h₀ l s₀ fr) outer → Rm d A → outer.filterMap (·.frame) = fr →
      WXw W A (actF name f scope cdv L h₀ l s₀ fr) (RaisedHere (actF name f scope cdv L h₀ l s₀ fr) (rawInt L) fun n σ => K n σ.mu) body ⟨ps.zip xs, mu⟩ (End k)) : CallsF W (d + 1) (.ref f) xs mu k K := by
  intro A s vs l outer fr hr FO Bs la
  obtain ⟨o, ho, hd⟩ := D.fn.obj
  obtain ⟨pm, doc, ct, rfl⟩ := D.shape
  have S := Bs.stat
  have KI := S.K.keeps (h' := s.heap) hide_le
  refine wpAny_call (codeAny_call_function (by have := hr.depth; unfold recursionLimit; lia) (KI _ _ ho) hd D.co D.gen rfl (codeRec_of KI D.code) ?_)
  rw [D.bind vs (la.len.trans hlen)]
  refine wpAny_pure (wpAny_newFunctionEnv_cells D.kind (fun x hx => ?_) fun env he s' X => ?_)
  · have : x.1 ∈ ps := (List.of_mem_zip hx).1
    exact D.kinds _ x.1 this
  subst he
  have hps : ((ps.zip vs).map (·.1)).Nodup := by
    rw [show (ps.zip vs).map (·.1) = ps from List.map_fst_zip (by rw [la.len, hlen]; exact Nat.le_refl _)]
    exact D.nd
  have keep := X.toInCall.keep
  refine ⟨S.T.nolimit.keeps (fun b o e => keep b o (hide_le _ _ e)), codeAny_func ?_⟩
  generalize hL : s.heap.objs.size = L at X
  have hsame := X.toInCall.same
  obtain ⟨h₁, tk, rfl⟩ := hsame
  generalize hCe : actF name f scope cdv L (hideAll s.heap (fr ++ 89 :: keys mu)) l s fr = C
  have e0 : newEnv scope L mainGlobals (cellsFrom (L + 1) scope.names []) (name ++ ".<locals>.") (some f) cdv none builtinsNs = C.env := by rw [← hCe]; rfl
  change wpAny W.M (A.deeper (newEnv scope L mainGlobals (cellsFrom (L + 1) scope.names []) (name ++ ".<locals>.") (some f) cdv none builtinsNs)) (execs body (newEnv scope L mainGlobals (cellsFrom (L + 1) scope.names []) (name ++ ".<locals>.") (some f) cdv none builtinsNs)) _ _ _
  have eown : C.own = L :: ((cellsFrom (L + 1) scope.names []).map (·.2) ++ fr) := by rw [← hCe]; rfl
  have eloc : C.env.locals = L := by rw [← hCe]; rfl
  have el : C.l = l := by rw [← hCe]; rfl
  have eh : C.h₀ = hideAll s.heap (fr ++ 89 :: keys mu) := by rw [← hCe]; rfl
  have es : C.s₀ = s := by rw [← hCe]; rfl
  have ec : C.env.cells = cellsFrom (L + 1) scope.names [] := by rw [← hCe]; rfl
  have ek : ∀ x, C.env.kindOf x = (newEnv scope L mainGlobals (cellsFrom (L + 1) scope.names []) (name ++ ".<locals>.") (some f) cdv none builtinsNs).kindOf x := fun x => by rw [e0]
  have frlt : ∀ a ∈ fr, a < L := fun a ha => by obtain ⟨o, es, ep, e, _⟩ := FO.dat a ha; rw [← hL]; exact Heap.lt_size e
  have cgt : ∀ a ∈ (cellsFrom (L + 1) scope.names []).map (·.2), L < a := fun a ha => by
    obtain ⟨p, hp, rfl⟩ := List.mem_map.mp ha
    exact X.above p.1 p.2 hp
  have hold : ∀ a, a ∈ l ∨ a ∈ fr ∨ a ∈ 89 :: keys mu → a < L := fun a ha => by
    rcases ha with ha | ha | ha
    · obtain ⟨o, e⟩ := Bs.lex a (List.mem_append_right _ ha); rw [← hL]; exact Heap.lt_size (of_hideAll _ e)
    · exact frlt a ha
    · rw [← hL]
      rcases List.mem_cons.mp ha with rfl | ha
      · obtain ⟨ps, e, _⟩ := Bs.tab; exact Heap.lt_size e
      · obtain ⟨p, hp, rfl⟩ := List.mem_map.mp ha
        obtain ⟨i, n, e, _⟩ := Bs.mus p hp; exact Heap.lt_size e
  have ownge : ∀ a ∈ C.own, a ∈ fr ∨ L ≤ a := fun a ha => by
    rw [eown] at ha
    rcases List.mem_cons.mp ha with rfl | ha
    · exact .inr (Nat.le_refl _)
    · rcases List.mem_append.mp ha with ha | ha
      · exact .inr (Nat.le_of_lt (cgt a ha))
      · exact .inl ha
  have fr89 : ∀ a ∈ fr, a ∉ 89 :: keys mu := fun a ha => by
    obtain ⟨o, e⟩ := Bs.lex a (List.mem_append_left _ ha)
    exact hide_out e
  have lt1 : ∀ b o, s.heap.get? b = some o → ¬ L ≤ b := fun b o e q => by rw [← hL] at q; exact Nat.lt_irrefl _ (Nat.lt_of_lt_of_le (Heap.lt_size e) q)
  have leH : Le (hideAll s.heap ((fr ++ l) ++ 89 :: keys mu)) (G C ⟨ps.zip xs, mu⟩ h₁) := hide_mono fun b o n e => ⟨keep b o e, fun m => by
    change b ∈ C.l ++ 89 :: (C.own ++ keys mu) at m
    rw [el] at m
    simp only [List.mem_append, List.mem_cons, not_or] at m n
    rcases m with m | m | m | m
    · exact n.1.2 m
    · exact n.2.1 m
    · rcases ownge b m with q | q
      · exact n.1.1 q
      · exact lt1 b o e q
    · exact n.2.2 m⟩
  have hC : ActOk W C := {
    loc := by rw [eloc, eown]; exact .head _
    kind := by rw [← hCe]; exact D.kind
    glob := by rw [← hCe]; rfl
    blt := by rw [← hCe]; rfl
    lex := fun a ha => by
      rw [el] at ha
      obtain ⟨o, e⟩ := Bs.lex a (List.mem_append_right _ ha)
      rw [eh]
      refine ⟨o, hideAll_get _ (of_hideAll _ e) fun m => ?_⟩
      rcases List.mem_append.mp m with m | m
      · exact FO.off a ha m
      · exact hide_out e m
    stat := S.keeps fun b o e => by
      have n := hide_out e
      rw [eh, el]
      refine hideAll_get _ (hideAll_get _ (of_hideAll _ e) fun m => ?_) fun m => n (List.mem_append_left _ (List.mem_append_right _ m))
      rcases List.mem_append.mp m with m | m
      · exact n (List.mem_append_left _ (List.mem_append_left _ m))
      · exact n (List.mem_append_right _ m)
    inj := fun x y c h1 h2 _ _ => by
      rw [ec] at h1 h2
      exact name_of_addr X.apart (mem_of_lookup h1) (mem_of_lookup h2) }
  have H : Hold C ⟨ps.zip xs, mu⟩ h₁ := by
    refine ⟨?_, ?_, ?_, ?_, ?_, ?_, ?_⟩
    · rw [eh]
      refine hide_mono fun b o n e => ⟨keep b o e, fun m => ?_⟩
      rcases List.mem_cons.mp m with m | m
      · exact n (List.mem_append_right _ (m ▸ .head _))
      · rcases List.mem_append.mp m with m | m
        · rcases ownge b m with q | q
          · exact n (List.mem_append_left _ q)
          · exact lt1 b o e q
        · exact n (List.mem_append_right _ (.tail _ m))
    · have bn := Bs.nodup
      unfold hid
      rw [List.nodup_cons] at bn ⊢
      rw [List.nodup_append]
      refine ⟨fun m => ?_, ?_, bn.2, fun a ha b hb q => ?_⟩
      · rcases List.mem_append.mp m with m | m
        · rcases ownge 89 m with q | q
          · exact fr89 89 q (.head _)
          · exact Nat.lt_irrefl _ (Nat.lt_of_lt_of_le (hold 89 (.inr (.inr (.head _)))) q)
        · exact bn.1 m
      · rw [eown, List.nodup_cons, List.nodup_append]
        refine ⟨fun m => ?_, ?_, FO.nd, fun a ha b hb q => ?_⟩
        · rcases List.mem_append.mp m with m | m
          · exact Nat.lt_irrefl _ (cgt L m)
          · exact Nat.lt_irrefl _ (frlt L m)
        · rw [List.Nodup, List.pairwise_map]; exact X.apart
        · exact Nat.lt_irrefl _ (Nat.lt_trans (frlt b hb) (q ▸ cgt a ha))
      · rcases ownge a ha with z | z
        · exact fr89 a z (.tail _ (q ▸ hb))
        · exact Nat.lt_irrefl _ (Nat.lt_of_lt_of_le (hold b (.inr (.inr (.tail _ hb)))) (q ▸ z))
    · exact Bs.tab.keeps (l := []) (fun b o _ e => keep b o e) (by simp) (by simp)
    · refine ⟨_, by rw [eloc]; exact X.toInCall.ns, fun x v e1 e2 => ?_⟩
      obtain ⟨v', c1, c2⟩ := lookup_zip la e1
      refine ⟨v', ?_, c2.keeps leH⟩
      rw [ek] at e2
      exact (bindL_eq _ x (ps.zip vs) (fun _ => none) hps e2).trans (by rw [c1])
    · intro x v e1 e2
      obtain ⟨v', c1, c2⟩ := lookup_zip la e1
      rw [ek] at e2
      rcases D.kinds (L + 1) x (List.of_mem_zip (mem_of_lookup e1)).1 with q | ⟨q1, q2⟩
      · exact absurd q e2
      · obtain ⟨c, hc⟩ := Option.isSome_iff_exists.mp q2
        refine ⟨c, v', by rw [ec]; exact hc, ?_, c2.keeps leH⟩
        have this : h₁.IsCell c (bindC (newEnv scope L mainGlobals (cellsFrom (L + 1) scope.names []) (name ++ ".<locals>.") (some f) cdv none builtinsNs).kindOf (ps.zip vs) (fun _ => none) x) := X.cell x c hc
        rw [bindC_eq _ x (ps.zip vs) (fun _ => none) hps e2, c1] at this
        exact this
    · intro c hc hne
      rw [eloc] at hne
      rw [eown] at hc
      rcases List.mem_cons.mp hc with q | hc
      · exact absurd q hne
      · rcases List.mem_append.mp hc with hc | hc
        · have hc0 := hc
          obtain ⟨p, hp, rfl⟩ := List.mem_map.mp hc
          have nd : ((cellsFrom (L + 1) scope.names []).map (·.1)).Nodup := by
            rw [← cellsFrom_names scope.names 0 (L + 1) [] [] rfl]; exact D.cells
          exact let ⟨o, e, d⟩ := X.cell p.1 p.2 (lookup_of_mem_nodup nd hp); ⟨_, o, e, .inl ⟨d, by rw [ec]; exact hc0⟩⟩
        · obtain ⟨o, es', ep, e, d⟩ := FO.dat c hc
          refine ⟨none, o, keep _ _ e, .inr ⟨⟨es', ep, d⟩, fun m => ?_, o, by rw [es]; exact e, rfl⟩⟩
          rw [ec] at m
          exact Nat.lt_irrefl _ (Nat.lt_trans (frlt c hc) (cgt c m))
    · intro p hp
      obtain ⟨i, n, e, lx⟩ := Bs.mus p hp
      exact ⟨i, n, keep _ _ e, lx.keeps leH⟩
  have hr' : Rm d (A.deeper C.env) := ⟨by have := hr.depth; show A.depth + 1 + d ≤ 900; lia, by have := hr.units; show A.units + 3 + 10 * d ≤ 9000; lia, hr.handled⟩
  have F : FrA (A.deeper C.env) C outer := {
    frames := Around.frames_deeper FO.frames
    here := by rw [← e0]; rfl
    up := fun env he => by
      obtain ⟨hk, L', hf⟩ := FO.up env he
      refine ⟨hk, L', hf, ?_⟩
      rw [eown]
      refine .tail _ (List.mem_append_right _ ?_)
      rw [FO.eq]; exact List.mem_filterMap.mpr ⟨env, he, hf⟩
    nocell := fun b hb m => by
      rw [ec] at m
      obtain ⟨env, he, hf⟩ := List.mem_filterMap.mp hb
      rcases List.mem_cons.mp he with rfl | he
      · rw [← e0] at hf
        have : L = b := Option.some.inj hf
        exact Nat.lt_irrefl _ (this ▸ cgt b m)
      · have : b ∈ fr := by rw [FO.eq]; exact List.mem_filterMap.mpr ⟨env, he, hf⟩
        exact Nat.lt_irrefl _ (Nat.lt_trans (frlt b this) (cgt b m)) }
  have hLfr : L ∉ fr := fun q => Nat.lt_irrefl _ (frlt L q)
  have hcfr : ∀ a ∈ fr, a ∉ (cellsFrom (L + 1) scope.names []).map (·.2) := fun a ha m => Nat.lt_irrefl _ (Nat.lt_trans (frlt a ha) (cgt a m))
  have BB := B (A.deeper C.env) L (hideAll s.heap (fr ++ 89 :: keys mu)) l s fr outer (by rw [hCe]; exact hC) (by rw [hCe]; exact F) hr' FO.eq.symm
  rw [hCe] at BB
  have hback : ∀ {σ : St} {h : Heap}, Hold C σ h → BackF W l fr mu σ.mu s.heap h ∧ Le (G C σ h) (hideAll h ((fr ++ l) ++ 89 :: keys σ.mu)) := fun {σ h} H => by
    subst hCe
    exact Hold.backF hC H hLfr hcfr
  rw [e0]
  refine wpAny_mono (BB { s with heap := h₁, toks := tk } (by rw [es]; exact ⟨h₁, tk, rfl⟩) H) (fun fl s2 ⟨g, σ', hx, sm2, H2, l2⟩ => ?_) fun v s2 hx => ?_
  · obtain ⟨bk, sub⟩ := hback H2
    have lx : ∃ x, k x σ'.mu ∧ LayV (G C σ' s2.heap) (match (generalizing := false) fl with | .ret v => v | _ => .none) x := by
      cases hx with
      | ret h => cases fl <;> first | exact ⟨_, h, l2⟩ | exact l2.elim
      | fall h => cases fl <;> first | exact ⟨_, h, Rd.none⟩ | exact l2.elim
    obtain ⟨x, hk, lx⟩ := lx
    exact ⟨x, σ'.mu, hk, Sm.trans ⟨h₁, tk, rfl⟩ sm2, bk, lx.keeps sub⟩
  · obtain ⟨e, rfl, R⟩ := hx
    have R' : RaisedN C (fun n σ => K n σ.mu) e s2 ∨ RaisedT C (rawInt C.env.locals) (fun n σ => K n σ.mu) e s2 := by rw [eloc]; exact R
    refine leaving_here hC F R' fun s3 R3 => ?_
    obtain ⟨n, σ1, D1, tp, T, arr, hk, sm, he, hT, h3, hTe, H3, hb⟩ := R3
    obtain ⟨bk, sub⟩ := hback H3
    rw [es] at sm
    exact ⟨e, n, σ1.mu, D1, tp, T, arr, rfl, hk, sm, he, hT, h3, hTe, bk, hb.keeps sub⟩
theorem CallsF.intro {W : Wd} {name : Str} {f : Addr} {ps : List Str} {params : Arguments} {body : List Stmt} {scope : Scope} {cdv : Value} {fd : FuncData} {d : Nat} {xs : List V} {mu : Mu} {k : V → Mu → Prop} {K : Int → Mu → Prop}
    (D : Def W name f ps params body scope cdv fd) (hlen : xs.length = ps.length)
    (B : ∀ A L h₀ l s₀ fr outer, ActOk W (actF name f scope cdv L h₀ l s₀ fr) → FrA A (actF name f scope cdv L h₀ l s₀ fr) outer → Rm d A → outer.filterMap (·.frame) = fr →
      WX W A (actF name f scope cdv L h₀ l s₀ fr) (RaisedHere (actF name f scope cdv L h₀ l s₀ fr) (rawInt L) fun n σ => K n σ.mu) body ⟨ps.zip xs, mu⟩ (End k)) : CallsF W (d + 1) (.ref f) xs mu k K :=
  CallsF.introW D hlen fun A L h₀ l s₀ fr outer hC F hr efr s sm H =>
    wpAny_mono (B A L h₀ l s₀ fr outer hC F hr efr s sm H) (fun f s' ⟨g, σ', a, b, c, _, e⟩ => ⟨g, σ', a, b, c, e⟩) fun _ _ e => e

end Mine
namespace Mine
theorem Base.same {W : Wd} {h : Heap} {l l' : List Addr} {mu : Mu} (B : Base W h l mu) (e : ∀ a, a ∈ l ↔ a ∈ l') : Base W h l' mu := by
  have le : Le (hideAll h (l ++ 89 :: keys mu)) (hideAll h (l' ++ 89 :: keys mu)) := hide_sub fun a ha => by
    rcases List.mem_append.mp ha with ha | ha
    · exact List.mem_append_left _ ((e a).mpr ha)
    · exact List.mem_append_right _ ha
  exact ⟨B.stat.keeps le, B.tab, B.nodup, fun a ha => B.lex a ((e a).mpr ha), fun p hp => let ⟨i, n, e1, l⟩ := B.mus p hp; ⟨i, n, e1, l.keeps le⟩⟩
section
variable {W : Wd} {A : Around} {C : Act} {σ : St} {k : V → St → Prop} {E : Value → Shared → Prop} {kf : Fl → St → Prop} {K : Int → St → Prop} {outer : List Env} {cs fr : List Addr}
theorem Hold.ofBack {h h' : Heap} {rest mu mu' : Mu} (hC : ActOk W C) (own : C.own = C.env.locals :: (cs ++ fr)) (hnc : ∀ b ∈ C.env.locals :: fr, b ∉ C.env.cells.map (·.2)) (H : Hold C σ h) (e : σ.mu = rest ++ mu)
    (B : BackF W (C.l ++ (cs ++ keys rest)) (C.env.locals :: fr) mu mu' h h') :
    Hold C ⟨σ.loc, rest ++ mu'⟩ h' ∧ Le (G C σ h) (G C ⟨σ.loc, rest ++ mu'⟩ h') ∧ Le (hideAll h' (((C.env.locals :: fr) ++ (C.l ++ (cs ++ keys rest))) ++ 89 :: keys mu')) (G C ⟨σ.loc, rest ++ mu'⟩ h') := by
  obtain ⟨Bs, le, dt⟩ := B
  have nd := H.nodup
  unfold hid at nd
  rw [e] at nd
  have kr : keys (rest ++ mu) = keys rest ++ keys mu := List.map_append
  have kr' : keys (rest ++ mu') = keys rest ++ keys mu' := List.map_append
  rw [kr] at nd
  have mo : ∀ a, a ∈ C.own ↔ a ∈ C.env.locals :: fr ∨ a ∈ cs := fun a => by
    rw [own]; simp only [List.mem_cons, List.mem_append]
    constructor
    · rintro (q | q | q)
      · exact .inl (.inl q)
      · exact .inr q
      · exact .inl (.inr q)
    · rintro ((q | q) | q)
      · exact .inl q
      · exact .inr (.inr q)
      · exact .inr (.inl q)
  have keep : ∀ b o, b ∉ C.env.locals :: fr → b ∉ 89 :: keys mu → h.get? b = some o → h'.get? b = some o ∧ b ∉ 89 :: keys mu' := fun b o n1 n2 e1 => by
    have e2 := le b o (hideAll_get _ e1 fun m => (List.mem_append.mp m).elim n1 n2)
    exact ⟨of_hideAll _ e2, fun m => hide_out e2 (List.mem_append_right _ m)⟩
  have n89 : (89 : Addr) ∉ C.own := fun m => (List.nodup_cons.mp nd).1 (List.mem_append_left _ m)
  have out : ∀ b, b ∉ hid C σ.mu → b ∉ C.env.locals :: fr ∧ b ∉ 89 :: keys mu := fun b n => ⟨fun m => n (List.mem_cons_of_mem _ (List.mem_append_left _ ((mo b).mpr (.inl m)))), fun m => n (by
    unfold hid; rw [e, kr]
    simp only [List.mem_append, List.mem_cons] at m ⊢
    rcases m with m | m <;> simp [m])⟩
  have into : ∀ b, b ∈ hid C (rest ++ mu') → b ∈ hid C σ.mu ∨ b ∈ 89 :: keys mu' := fun b m => by
    unfold hid at m ⊢; rw [kr'] at m; rw [e, kr]
    simp only [List.mem_append, List.mem_cons] at m ⊢
    rcases m with m | m | m | m <;> simp [m]
  have le1 : Le (hideAll h (hid C σ.mu)) (hideAll h' (hid C (rest ++ mu'))) := hide_mono fun b o n e1 => by
    obtain ⟨n1, n2⟩ := out b n
    obtain ⟨a, c⟩ := keep b o n1 n2 e1
    exact ⟨a, fun m => (into b m).elim n c⟩
  have le2 : Le (G C σ h) (G C ⟨σ.loc, rest ++ mu'⟩ h') := hide_mono fun b o n e1 => by
    have n2 : b ∉ hid C σ.mu := fun m => n (List.mem_append_right _ m)
    obtain ⟨n3, n4⟩ := out b n2
    obtain ⟨a, c⟩ := keep b o n3 n4 e1
    refine ⟨a, fun m => ?_⟩
    rcases List.mem_append.mp m with m | m
    · exact n (List.mem_append_left _ m)
    · exact (into b m).elim n2 c
  have le3 : Le (hideAll h' (((C.env.locals :: fr) ++ (C.l ++ (cs ++ keys rest))) ++ 89 :: keys mu')) (G C ⟨σ.loc, rest ++ mu'⟩ h') := hide_sub fun a ha => by
    change a ∈ C.l ++ 89 :: (C.own ++ keys (rest ++ mu')) at ha
    rw [kr'] at ha
    rcases List.mem_append.mp ha with ha | ha
    · exact List.mem_append_left _ (List.mem_append_right _ (List.mem_append_left _ ha))
    · rcases List.mem_cons.mp ha with q | ha
      · exact List.mem_append_right _ (q ▸ .head _)
      · rcases List.mem_append.mp ha with ha | ha
        · rcases (mo a).mp ha with ha | ha
          · exact List.mem_append_left _ (List.mem_append_left _ ha)
          · exact List.mem_append_left _ (List.mem_append_right _ (List.mem_append_right _ (List.mem_append_left _ ha)))
        · rcases List.mem_append.mp ha with ha | ha
          · exact List.mem_append_left _ (List.mem_append_right _ (List.mem_append_right _ (List.mem_append_right _ ha)))
          · exact List.mem_append_right _ (.tail _ ha)
  have lexm : ∀ a, a ∈ C.own ∨ a ∈ keys rest → a ∈ (C.env.locals :: fr) ++ (C.l ++ (cs ++ keys rest)) := fun a ha => by
    rcases ha with ha | ha
    · rcases (mo a).mp ha with ha | ha
      · exact List.mem_append_left _ ha
      · exact List.mem_append_right _ (List.mem_append_right _ (List.mem_append_left _ ha))
    · exact List.mem_append_right _ (List.mem_append_right _ (List.mem_append_right _ ha))
  have apart : ∀ a, a ∈ C.own ∨ a ∈ keys rest → a ∉ 89 :: keys mu ∧ a ∉ 89 :: keys mu' := fun a ha => by
    refine ⟨fun m => ?_, fun m => ?_⟩
    · rw [List.nodup_cons, List.nodup_append] at nd
      rcases List.mem_cons.mp m with m | m
      · exact nd.1 (m ▸ ha.elim (List.mem_append_left _) fun q => List.mem_append_right _ (List.mem_append_left _ q))
      · rcases ha with ha | ha
        · exact nd.2.2.2 a ha a (List.mem_append_right _ m) rfl
        · exact (List.nodup_append.mp nd.2.2.1).2.2 _ ha _ m rfl
    · obtain ⟨o, e1⟩ := Bs.lex a (lexm a ha)
      exact hide_out e1 m
  refine ⟨⟨H.keep.trans le1, ?_, Bs.tab, ?_, ?_, ?_, ?_⟩, le2, le3⟩
  · unfold hid
    show (89 :: (C.own ++ keys (rest ++ mu'))).Nodup
    rw [kr']
    have bn := Bs.nodup
    rw [List.nodup_cons] at bn
    rw [List.nodup_cons, List.nodup_append, List.nodup_append] at nd ⊢
    refine ⟨fun m => ?_, nd.2.1, ⟨nd.2.2.1.1, bn.2, fun a ha b hb q => (apart a (.inr ha)).2 (.tail _ (q ▸ hb))⟩, fun a ha b hb q => ?_⟩
    · rcases List.mem_append.mp m with m | m
      · exact nd.1 (List.mem_append_left _ m)
      · rcases List.mem_append.mp m with m | m
        · exact nd.1 (List.mem_append_right _ (List.mem_append_left _ m))
        · exact bn.1 m
    · rcases List.mem_append.mp hb with hb | hb
      · exact nd.2.2.2 a ha b (List.mem_append_left _ hb) q
      · exact (apart a (.inl ha)).2 (.tail _ (q ▸ hb))
  · obtain ⟨m, ⟨o, es, ep, e1, d, r⟩, c⟩ := H.ns
    obtain ⟨o', e2, d2⟩ := dt _ (.head _) o e1
    exact ⟨m, ⟨o', es, ep, e2, d2.trans d, r⟩, fun x v e1 e2 => let ⟨v', c1, c2⟩ := c x v e1 e2; ⟨v', c1, c2.keeps le2⟩⟩
  · intro y v e1 e2
    obtain ⟨c, v', c1, ⟨o, c2, c3⟩, c4⟩ := H.cell y v e1 e2
    refine ⟨c, v', c1, ⟨o, (keep c o (fun m => hnc c m (List.mem_map_of_mem (f := fun p : Str × Addr => p.2) (mem_of_lookup c1))) (fun m => ?_) c2).1, c3⟩, c4.keeps le2⟩
    rcases List.mem_cons.mp m with q | m
    · obtain ⟨ps, t, _⟩ := H.tab
      rw [q, t] at c2; cases c2; cases c3
    · obtain ⟨p, hp, rfl⟩ := List.mem_map.mp m
      obtain ⟨i, n, t, _⟩ := H.mus p (e ▸ List.mem_append_right _ hp)
      rw [t] at c2; cases c2; cases c3
  · intro c hc hn
    obtain ⟨w, o, e1, d⟩ := H.ownc c hc hn
    by_cases q : c ∈ C.env.locals :: fr
    · obtain ⟨o', e2, d2⟩ := dt c q o e1
      exact ⟨w, o', e2, d2 ▸ d⟩
    · exact ⟨w, o, (keep c o q (apart c (.inl hc)).1 e1).1, d⟩
  · intro p hp
    rcases List.mem_append.mp hp with hp | hp
    · obtain ⟨i, n, e1, l⟩ := H.mus p (e ▸ List.mem_append_left _ hp)
      refine ⟨i, n, (keep _ _ (fun m => ?_) (apart _ (.inr (List.mem_map_of_mem hp))).1 e1).1, l.keeps le2⟩
      rw [List.nodup_cons, List.nodup_append] at nd
      exact nd.2.2.2 p.1 ((mo _).mpr (.inl m)) p.1 (List.mem_append_left _ (List.mem_map_of_mem hp)) rfl
    · obtain ⟨i, n, e1, l⟩ := Bs.mus p hp
      exact ⟨i, n, e1, l.keeps le3⟩

theorem callF_post {d : Nat} {f : Value} {xs : List V} {rest mu : Mu} {k1 : V → Mu → Prop} {K1 : Int → Mu → Prop} {s : Shared} {vs : List Value} (hC : ActOk W C) (F : FrA A C outer) (hr : Rm d A) (own : C.own = C.env.locals :: (cs ++ fr)) (efr : outer.filterMap (·.frame) = fr)
    (sm : (∃ n mu', K1 n mu') → Sm C.s₀ s) (H : Hold C σ s.heap) (l : LayVs (G C σ s.heap) vs xs) (e : σ.mu = rest ++ mu)
    (hc : CallsF W d f xs mu k1 K1) (hk : ∀ x mu', k1 x mu' → k x ⟨σ.loc, rest ++ mu'⟩) (hK : ∀ n mu', K1 n mu' → K n ⟨σ.loc, rest ++ mu'⟩) :
    wpAny W.M A (call f vs) (Post C σ s k) (fun v s' => ∃ e, v = .ref e ∧ RaisedT C .none K e s') s := by
  obtain ⟨B0, le0⟩ := H.toBase hC e
  have efr' : (C.env :: outer).filterMap (·.frame) = C.env.locals :: fr := by rw [List.filterMap_cons, F.here, efr]
  have hnc : ∀ b ∈ C.env.locals :: fr, b ∉ C.env.cells.map (·.2) := fun b hb => F.nocell b (by rw [efr']; exact hb)
  have nd := H.nodup
  unfold hid at nd
  rw [e, own] at nd
  have kr : keys (rest ++ mu) = keys rest ++ keys mu := List.map_append
  rw [kr] at nd
  have mem : ∀ a, a ∈ C.l ++ (C.own ++ keys rest) ↔ a ∈ (C.env.locals :: fr) ++ (C.l ++ (cs ++ keys rest)) := fun a => by
    rw [own]; simp only [List.mem_append, List.mem_cons]
    constructor
    · rintro (q | (q | q | q) | q) <;> simp [q]
    · rintro ((q | q) | q | q | q) <;> simp [q]
  have B := B0.same mem
  have leb : Le (hideAll s.heap ((C.l ++ (C.own ++ keys rest)) ++ 89 :: keys mu)) (hideAll s.heap (((C.env.locals :: fr) ++ (C.l ++ (cs ++ keys rest))) ++ 89 :: keys mu)) := hide_sub fun a ha => by
    rcases List.mem_append.mp ha with ha | ha
    · exact List.mem_append_left _ ((mem a).mpr ha)
    · exact List.mem_append_right _ ha
  rw [List.nodup_cons, List.nodup_append, List.nodup_cons, List.nodup_append] at nd
  have FO : FrOk (C.env :: outer) (C.env.locals :: fr) (C.l ++ (cs ++ keys rest)) A s.heap := {
    frames := F.frames
    eq := efr'.symm
    nd := List.nodup_cons.mpr ⟨fun m => nd.2.1.1 (List.mem_append_right _ m), nd.2.1.2.2.1⟩
    up := fun env he => by
      rcases List.mem_cons.mp he with rfl | he
      · exact ⟨by rw [hC.kind]; decide, _, F.here⟩
      · obtain ⟨a, L, b, _⟩ := F.up env he; exact ⟨a, L, b⟩
    dat := fun a ha => by
      by_cases q : a = C.env.locals
      · obtain ⟨m, ⟨o, es, ep, e1, d, _⟩, _⟩ := H.ns
        exact ⟨o, es, ep, q ▸ e1, d⟩
      · obtain ⟨w, o, e1, d⟩ := H.ownc a (by rw [own]; rcases List.mem_cons.mp ha with z | z; exact absurd z q; exact .tail _ (List.mem_append_right _ z)) q
        rcases d with ⟨_, d⟩ | ⟨⟨es, ep, d⟩, _⟩
        · exact absurd d (hnc a ha)
        · exact ⟨o, es, ep, e1, d⟩
    off := fun a ha hf => by
      have hao : a ∈ C.own := by rw [own]; rcases List.mem_cons.mp hf with z | z; exact z ▸ .head _; exact .tail _ (List.mem_append_right _ z)
      rcases List.mem_append.mp ha with ha | ha
      · obtain ⟨o, e1⟩ := hC.lex a ha
        exact hide_out (H.keep a o e1) (List.mem_cons_of_mem _ (List.mem_append_left _ hao))
      · rcases List.mem_append.mp ha with ha | ha
        · rcases List.mem_cons.mp hf with z | z
          · exact nd.2.1.1 (z ▸ List.mem_append_left _ ha)
          · exact nd.2.1.2.2.2 a ha a z rfl
        · exact nd.2.2.2 a (by rw [← own]; exact hao) a (List.mem_append_left _ ha) rfl }
  refine wpAny_mono (hc A s vs _ _ _ hr FO B (l.keeps (le0.trans leb))) (fun v s' ⟨x, mu', a, sm', bk, lv⟩ => ?_) fun v s' hx => ?_
  · obtain ⟨H', le2, le3⟩ := H.ofBack hC own hnc e bk
    exact ⟨x, _, hk _ _ a, sm', H', le2, lv.keeps le3⟩
  · obtain ⟨ea, n, mu', D, tp, T, arr, rfl, hk', sm', he, hT, h3, hTe, bk, hb⟩ := hx
    obtain ⟨H', le2, le3⟩ := H.ofBack hC own hnc e bk
    exact ⟨ea, rfl, n, _, D, tp, T, arr, hK _ _ hk', (sm ⟨n, mu', hk'⟩).trans sm', he, hT, h3, hTe, H', hb.keeps le3⟩
end

end Mine
namespace Mine
open Builtin Builtin.ObjectAttr
theorem find_ga (p : Params) : findIn (hd.heap_1 p) (.ref 59) (Str.ofString "__getattribute__") = some (some (.builtin "BaseException.__getattribute__")) := by kernel_rfl
theorem find_gattr (p : Params) : findIn (hd.heap_1 p) (.ref 59) (Str.ofString "__getattr__") = some none := by kernel_rfl
theorem exm_fault (p : Params) : exmOne (hd.heap_1 p) (.ref 59) (.ref 59) = some true := by kernel_rfl
section
variable {prog : Program} {w : World} {A : Around} {E : Value → Shared → Prop} {h : Heap} {g : Array GenState} {d : Drawn} {t : Nat} {os : OsState} {a D tp : Addr} {tb : Value} {mA : Str → Option Value} {n : Int} {tn : Tok}
theorem ga_check {M : Model} {nameV : Value} {Q : Unit → Shared → Prop} (hC : h.get? 59 = some objF)
    (hx : h.get? a = some (faultObj D tp tb)) (hq : Q () ⟨h, g, d, t, os⟩) : wpAny M A (checkBuiltinCall "BaseException.__getattribute__" ⟨[.ref a, nameV], []⟩) Q E ⟨h, g, d, t, os⟩ := by
  have hk : builtinKind "BaseException.__getattribute__" = some .slot := by decide +kernel
  have hsplit : splitId "BaseException.__getattribute__" = some ("BaseException", "__getattribute__") := by decide +kernel
  have hcB : (Value.ref 59 :: bmF).contains (.type "BaseException") = true := by rw [List.contains_cons, upF.base, Bool.or_true]
  have ha := F.args_bexc_ga (.ref a) nameV
  simp only [checkBuiltinCall, hk, hsplit]
  refine wpAny_bind ?_
  · unfold isInstance
    repeat (first | with_reducible refine wpAny_loadPart_at hx ?_ | with_reducible refine wpAny_loadPart_at hC ?_ | (with_reducible refine wpAny_isSubtype_exc hC ?_; rw [hcB]) | wp_step)
    exact hq
theorem look_at {o : Obj} {es : Array DictEntry} {ep : Nat} {name : Str} {v : Value} (hd : o.data = .dict es ep) (hf : nsFind es name = some v) : nsLook name o = pure (some v) := by
  rw [nsLook_eq]
  unfold nsLookByArray
  rw [hd]
  simp only [nsFind, findBy, Option.map_eq_some_iff] at hf
  obtain ⟨e, h1, h2⟩ := hf
  simp only [h1, h2]
theorem at_entry {tk : Tok} {Q : Fin → Shared → Prop} (hC : h.get? 59 = some objF) (hl : Looks (model prog w) h (typeLookup (.ref 59) (Str.ofString "at")) none) (hx : h.get? a = some (faultObj D tp tb)) (hn : h.Ns1 D mA) (hm : mA (Str.ofString "at") = some (.int n tn))
    (hq : Q (.done (.ret (.int n tn))) ⟨h, g, d, t, os⟩) :
    wpAny (model prog w) A (Builtin.«object.__getattribute__» ⟨[.ref a, .str (Str.ofString "at") tk], []⟩) Q E ⟨h, g, d, t, os⟩ := by
  have hns := hn.ns
  unfold Builtin.«object.__getattribute__»
  repeat (any_goals (first | assumption | with_reducible refine wpAny_loadPart_at hx ?_ | with_reducible refine wpAny_loadPart_at hC ?_ | with_reducible refine Looks.at hl ?_ | wp_step))
  obtain ⟨o, es, ep, ho, hd, hk, hu, hf⟩ := hn
  refine wpAny_loadPart_at ho ?_
  rw [look_at hd ((hf _).trans hm)]
  refine wpAny_pure ?_
  repeat (any_goals (first | assumption | wp_step))
theorem at_get {expr : Bool} {Q : Value → Shared → Prop} (hC : h.get? 59 = some objF) (hl : Looks (model prog w) h (typeLookup (.ref 59) (Str.ofString "at")) none) (hg : Looks (model prog w) h (typeLookup (.ref 59) (Str.ofString "__getattribute__")) (some (.builtin "BaseException.__getattribute__")))
    (hh : Looks (model prog w) h (typeLookup (.ref 59) (Str.ofString "__getattr__")) none) (hx : h.get? a = some (faultObj D tp tb)) (hn : h.Ns1 D mA) (hm : mA (Str.ofString "at") = some (.int n tn))
    (hq : Q (.int n tn) ⟨h, g, d, t + 1, os⟩) : wpAny (model prog w) A (getAttr (.ref a) (Str.ofString "at") expr) Q E ⟨h, g, d, t, os⟩ := by
  have f3 := PySem.F.attr_ValueError.ga.bind (.ref a)
  have hx0 : (expr && onTheHeap (Value.builtin "BaseException.__getattribute__")) = false := by cases expr <;> rfl
  have hx2 : (Value.builtin "BaseException.__getattribute__" == Value.builtin "object.__getattribute__") = false := by decide +kernel
  have hx1 : (onTheHeap (Value.ref 59) && Value.builtin "BaseException.__getattribute__" == Value.builtin "object.__getattribute__") = false := by rw [hx2]; rfl
  unfold getAttr
  repeat (any_goals (first | assumption | with_reducible refine wpAny_loadPart_at hx ?_ | with_reducible refine Looks.at hg ?_ | with_reducible refine Looks.at hh ?_ | wp_step))
  refine codeAny_call_builtin PySem.F.attr_ValueError.ga.plain F.entry_bexc_ga (ga_check hC hx (at_entry hC hl hx hn hm ?_))
  repeat (any_goals (first | assumption | wp_step))
end

end Mine
namespace Mine
section
variable {W : Wd} {A : Around} {C : Act} {σ : St} {k : V → St → Prop} {E : Value → Shared → Prop} {kf : Fl → St → Prop} {K : Int → St → Prop} {outer : List Env} {cs fr : List Addr}
/-- the entry of one that catches -/
theorem note_up {e : Addr} {s : Shared} (hC : ActOk W C) (F : FrA A C outer) (R : RaisedT C .none K e s) {Q : Unit → Shared → Prop} (hq : ∀ s', RaisedT C (rawInt C.env.locals) K e s' → Q () s') : wpAny W.M A (noteFrame (.ref e) C.env) Q E s := by
  obtain ⟨n, σ1, D, tp, T, arr, hk, sm, he, hT, h3, hTe, H, hb⟩ := R
  refine note_next F.frames (hide_up (F.fun hC H)) F.here he rfl rfl hT rfl h3 hTe fun h' T2 arr2 hTn he' hT' h3' kp sl => ?_
  have hT2e : T2 ≠ e := fun q => by rw [q, he] at hTn; cases hTn
  have k1 : ∀ b o, b ∉ (C.env :: outer).filterMap (·.frame) → (hideAll s.heap [e, T]).get? b = some o → (hideAll h' [e, T2]).get? b = some o := fun b o hbf hb => by
    have n1 := hide_out hb
    have hb' := of_hideAll _ hb
    refine hideAll_get _ (kp b o (fun q => n1 (q ▸ .head _)) (fun q => n1 (q ▸ .tail _ (.head _))) hbf hb') fun m => ?_
    rcases List.mem_cons.mp m with q | m
    · exact n1 (q ▸ .head _)
    · rw [List.mem_singleton.mp m, hTn] at hb'; cases hb'
  have k2 : ∀ b ∈ (C.env :: outer).filterMap (·.frame), ∀ o, (hideAll s.heap [e, T]).get? b = some o → ∃ sl, (hideAll h' [e, T2]).get? b = some { o with slots := sl } := fun b hbf o hb => by
    have n1 := hide_out hb
    have hb' := of_hideAll _ hb
    obtain ⟨sl', e1⟩ := sl b hbf o hb'
    refine ⟨sl', hideAll_get _ e1 fun m => ?_⟩
    rcases List.mem_cons.mp m with q | m
    · exact n1 (q ▸ .head _)
    · rw [List.mem_singleton.mp m, hTn] at hb'; cases hb'
  obtain ⟨H', le⟩ := H.slots hC (F.fs hC) k1 k2
  exact hq _ ⟨n, σ1, D, tp, T2, arr2, hk, sm.trans ⟨h', s.toks, rfl⟩, he', hT', h3', hT2e, H', hb.keeps le⟩
/-- a call that raises -/
theorem callF_raises {name : Str} {f : Addr} {fd : FuncData} {e : Expr} {es : List Expr} {np pos : Pos} (d : Nat) {rest mu : Mu} {K1 : Int → Mu → Prop} {s : Shared} (hC : ActOk W C) (F : FrA A C outer) (hr : Rm d A) (own : C.own = C.env.locals :: (cs ++ fr)) (efr : outer.filterMap (·.frame) = fr) (Fn' : Fn W name f fd)
    (sm : Sm C.s₀ s) (H : Hold C σ s.heap)
    (h : WEs W A C pos (e :: es) σ fun xs σ1 => Ex3 fun rest mu K1 => A3 (σ1.mu = rest ++ mu) (CallsF W d (.ref f) xs mu (fun _ _ => False) K1) (∀ n mu', K1 n mu' → K n ⟨σ1.loc, rest ++ mu'⟩))
    (hx : C.env.kindOf name = some .globalImplicit := by rfl) (hd : (name == ("__debug__" : Str)) = false := by decide)
    (hes : starEach (e :: es) C.env = (false, eval e C.env) :: starEach es C.env := by rfl) {Q : Value → Shared → Prop} :
    wpAny W.M A (eval (.Call (.Name name np) (e :: es) [] pos) C.env) Q (fun v s' => ∃ e, v = .ref e ∧ RaisedT C .none K e s') s := by
  obtain ⟨o, ho, hd'⟩ := Fn'.obj
  have S := H.stat hC
  refine Call_ (wpAny_mono (glob_val (Q := fun v s1 => v = .ref f ∧ s1 = s) hC S hide_le Fn'.ns ⟨rfl, rfl⟩ hx hd) (fun v s1 hv => ?_) fun _ _ e => e.elim)
  obtain ⟨rfl, rfl⟩ := hv
  have go : wpAny W.M A (spliced (backTo pos (starEach (e :: es) C.env))) (fun vs s1 => (s1.heap.get? f = some o ∧ o.data = .func fd) ∧ wpAny W.M A (call (.ref f) vs) Q (fun v s' => ∃ e, v = .ref e ∧ RaisedT C .none K e s') s1) (fun v s' => ∃ e, v = .ref e ∧ RaisedT C .none K e s') s1 :=
    wpAny_mono (h s1 H) (fun vs s2 ⟨xs, σ1, ⟨rest, mu, K1, em, hc, hk⟩, sm1, H1, le1, l1⟩ => ⟨⟨hide_le _ _ ((H1.stat hC).K _ _ ho), hd'⟩,
      wpAny_mono (callF_post (k := fun _ _ => False) hC F hr own efr (fun _ => sm.trans sm1) H1 l1 em hc (fun _ _ q => q) hk) (fun u s3 ⟨_, _, p, _, _, _, _⟩ => p.elim) fun _ _ e => e⟩) fun _ _ e => e.elim
  exact callWith_def hd' (wpAny_mono go (fun vs s1 h1 => ⟨h1.1.1, h1.2⟩) fun _ _ e => e) hes
end

end Mine
namespace Mine
section
variable {W : Wd} {A : Around} {C : Act} {σ : St} {k : V → St → Prop} {E : Value → Shared → Prop} {kf : Fl → St → Prop} {K : Int → St → Prop} {outer : List Env} {cs fr : List Addr}
theorem Sm.both {a b c : Shared} (x : Sm a b) (y : Sm a c) : Sm b c := by obtain ⟨h, t, rfl⟩ := x; obtain ⟨h', t', rfl⟩ := y; exact ⟨h', t', rfl⟩
/-- the names are let go -/
theorem Hold.forget {h h' : Heap} {m' : Str → Option Value} (hC : ActOk W C) (H : Hold C σ h) (hn' : h'.Ns C.env.locals m') (hs : Heap.SameBut C.env.locals h h') : Hold C ⟨[], σ.mu⟩ h' := by
  obtain ⟨m, hn, hm⟩ := H.ns
  have hL : C.env.locals ∈ hid C σ.mu := List.mem_cons_of_mem _ (List.mem_append_left _ hC.loc)
  have hLl : C.env.locals ∈ hidl C σ.mu := List.mem_append_right _ hL
  have keep : ∀ b o, b ≠ C.env.locals → h.get? b = some o → h'.get? b = some o := fun b o n e => (hs.2 b n).trans e
  have le1 : Le (hideAll h (hid C σ.mu)) (hideAll h' (hid C σ.mu)) := hide_same fun b o n e => keep b o (fun q => n (q ▸ hL)) e
  have le2 : Le (G C σ h) (G C ⟨[], σ.mu⟩ h') := hide_same fun b o n e => keep b o (fun q => n (q ▸ hLl)) e
  refine ⟨H.keep.trans le1, H.nodup, ?_, ⟨m', hn', fun x v e1 => by simp at e1⟩, fun x v e1 => by simp at e1, ?_, ?_⟩
  · refine H.tab.keeps (l := [C.env.locals]) (fun b o n e => keep b o (by simpa using n) e) (by simpa using Ne.symm (Act.ne89 H.nodup hC.loc)) fun a ha => ?_
    rw [List.mem_singleton.mp ha]; exact ns_no_fields hn
  · intro c hc hne
    obtain ⟨w, o, e, d⟩ := H.ownc c hc hne
    exact ⟨w, o, keep c o hne e, d⟩
  · intro p hp
    obtain ⟨i, n, e, l⟩ := H.mus p hp
    refine ⟨i, n, keep _ _ (fun q => ?_) e, l.keeps le2⟩
    obtain ⟨o1, es1, ep1, f1, f2, _⟩ := hn
    rw [q, f1] at e; cases e; cases f2
theorem try_fault {call : Expr} {qp epos hpos ap apos rpos pos : Pos} {n : Str} {rest : List Stmt} (hW : IsW W) (hC : ActOk W C) (F : FrA A C outer)
    (hraise : ∀ s, Sm C.s₀ s → Hold C σ s.heap → wpAny W.M A (eval call C.env) (fun _ _ => False) (fun v s' => ∃ e, v = .ref e ∧ RaisedT C .none K e s') s)
    (hn : C.env.kindOf n = some .local) (hxq : C.env.kindOf (Str.ofString "QueryFault") = some .globalImplicit) (hi : interactive C.env = false) (hs : swapsWith call none epos.line C.env = pure false) (hdbg : (n == ("__debug__" : Str)) = false)
    (hk : ∀ m σ1, K m σ1 → kf (.ret (.dat (.int m))) ⟨[], σ1.mu⟩) :
    WXw W A C E (.Try [.Expr call epos] [.ExceptHandler (some (.Name (Str.ofString "QueryFault") qp)) (some n) [.Return (some (.Attribute (.Name n ap) (Str.ofString "at") apos)) rpos] hpos] [] [] pos :: rest) σ kf := fun s sm H => by
  refine wpAny_execs_cons ?_
  rw [arm_exec_Try]
  refine wpAny_bind (wpAny_standAt ?_)
  unfold tryStmt
  simp only [List.isEmpty_nil, if_true]
  refine wpAny_bind (wpAny_attempt (wpAny_execs_cons (wpAny_Expr (wpAny_mono (hraise s sm H) (fun _ _ q => q.elim) fun v s1 hqq => ?_) hi hs)))
  obtain ⟨e, ev, R⟩ := hqq
  subst ev
  dsimp only
  refine wpAny_bind (note_up hC F R fun s2 R2 => ?_)
  simp only [List.isEmpty_cons, Bool.false_eq_true, if_false]
  refine wpAny_bind (flight (fr := none) hC R2 fun s3 R3 => ?_)
  simp only [Bool.false_and, Bool.false_eq_true, if_false]
  change RaisedT C .none K e s3 at R3
  have R3' := R3
  obtain ⟨m, σ1, D, tp, T, arr, hkm, sm3, he, hT, h3, hTe, H3, hb⟩ := R3'
  have S3 : W.Stat s3.heap := (H3.stat hC).keeps (hide_le.trans hide_le)
  have inst : InstAt s3.heap e (faultObj D tp (.ref T)) 59 (s3.heap.get? D) := by
    obtain ⟨mA, t, ⟨o, es, ep, ho, _⟩, _⟩ := hb.keeps (hide_le.trans hide_le)
    exact ⟨he, rfl, rfl, by rw [ho]; exact ho⟩
  refine PySem.wpAny_handleBy_cons (codeAny_handlers_test (wpAny_mono (glob_val (Q := fun v s' => v = .ref 59 ∧ s' = s3) hC S3 (Le.refl _) (by rw [hW.K]; exact glob_fault _) ⟨rfl, rfl⟩ hxq (by decide)) (fun c s4 hc => ?_) fun _ _ x => x.elim)) (by intro q; cases q)
  obtain ⟨rfl, rfl⟩ := hc
  refine (exm_one S3.K (Looks.keeps inst.type (Le.refl _)) (by rw [hW.K]; exact exm_fault _)).here ?_
  dsimp only
  rw [if_pos rfl]
  dsimp only
  refine codeAny_handlers_suite_as (flight (fr := none) hC R3 fun s5 R5 => ?_)
  clear inst S3 hb H3 h3 hT he sm3 hkm hTe R R2 R3
  obtain ⟨m, σ1, D, tp, T, arr, hkm, sm5, he, hT, h3, hTe, H5, hb⟩ := R5
  obtain ⟨H6, le6⟩ := (In.of_hidden (W := W) H5).out
  have eG : G C σ1 (hideAll s5.heap [e, T]) = hideAll s5.heap ([e, T] ++ hidl C σ1.mu) := (hideAll_append _ _ _).symm
  rw [eG] at hb
  have hb6 := hb.keeps le6
  have he6 : (G C σ1 s5.heap).get? e = some (faultObj D tp (.ref T)) := hideAll_get _ he fun q => by
    obtain ⟨o, e'⟩ := H5.live hC e q
    exact hide_out e' (.head _)
  have sto := H6.store (A := A.mark (some (.ref e))) (s := s5) (x := n) (v := .ref e) (xv := .ref e) (Q := fun _ s7 => Sm s5 s7 ∧ Hold C (σ1.put n (.ref e)) s7.heap ∧ Le (G C σ1 s5.heap) (G C (σ1.put n (.ref e)) s7.heap)) hC (.loc hn) rfl fun s7 a b c => ⟨a, b, c⟩
  refine wpAny_mono sto (fun _ s7 hqq => ?_) fun _ _ x => x.elim
  obtain ⟨sm7, H7, le7⟩ := hqq
  obtain ⟨m7, hn7, hm7⟩ := H7.ns
  obtain ⟨v7, lk7, lv7⟩ := hm7 n (.ref e) (by show (setL n _ _).lookup n = _; rw [setL_lookup, if_pos rfl]) hn
  obtain rfl : v7 = .ref e := lv7
  have S7 := H7.stat hC
  have K7 : W.K.In s7.heap := S7.K.keeps hide_le
  have h59 : s7.heap.get? 59 = some objF := K7 _ _ (by rw [hW.K]; exact K59 _)
  have he7 : s7.heap.get? e = some (faultObj D tp (.ref T)) := hide_le _ _ (le7 _ _ he6)
  obtain ⟨mA, tn, hD, hat⟩ := hb6.keeps (le7.trans hide_le)
  have sm57 : Sm C.s₀ s7 := sm5.trans sm7
  obtain ⟨hp7, g7, d7, tk7, os7⟩ := s7
  refine wpAny_execs_cons (wpAny_Return_some (PyProof.Rows.Attribute_name (wpAny_Name (wpAny_loadName_local hC.kind hn hn7 lk7 ?_) hdbg)))
  refine at_get h59 (looks_findIn K7 (by rw [hW.K]; exact find_at _)) (looks_findIn K7 (by rw [hW.K]; exact find_ga _)) (looks_findIn K7 (by rw [hW.K]; exact find_gattr _)) he7 hD hat ?_
  dsimp only
  refine PySem.wpAny_nameGoes (m := m7) hn hn7 (by rw [hC.kind]; rfl) fun h' m' hn' hs' => ?_
  exact ⟨.ret (.dat (.int m)), ⟨[], σ1.mu⟩, hk m σ1 hkm, Sm.both sm (sm57.trans ⟨_, _, rfl⟩), Hold.forget (σ := σ1.put n (.ref e)) hC H7 hn' hs', Rd.int⟩
end

end Mine
namespace Mine
section
variable {W : Wd} {A : Around} {C : Act} {σ : St} {k : V → St → Prop} {E : Value → Shared → Prop} {kf : Fl → St → Prop} {K : Int → St → Prop} {outer : List Env} {cs fr : List Addr}
theorem RaisedHere.unAt {h₀ : Heap} {l : List Addr} {fl v : Value} {s : Shared} (h : RaisedHere (C.at h₀ l) fl K v s) (k0 : Le C.h₀ h₀) (kl : ∀ a ∈ C.l, a ∈ l) : RaisedHere C fl K v s := by
  obtain ⟨e, rfl, R⟩ := h
  refine ⟨e, rfl, ?_⟩
  rcases R with ⟨n, σ1, D, tp, hk, sm, he, H, hb⟩ | ⟨n, σ1, D, tp, T, arr, hk, sm, he, hT, h3, hTe, H, hb⟩
  · obtain ⟨H', le⟩ := H.unAt k0 kl
    exact .inl ⟨n, σ1, D, tp, hk, sm, he, H', hb.keeps le⟩
  · obtain ⟨H', le⟩ := H.unAt k0 kl
    exact .inr ⟨n, σ1, D, tp, T, arr, hk, sm, he, hT, h3, hTe, H', hb.keeps le⟩
theorem WX.monoE {E' : Value → Shared → Prop} {st : List Stmt} (h : WX W A C E st σ kf) (hE : ∀ v s, E v s → E' v s) : WX W A C E' st σ kf := fun s sm H => wpAny_mono (h s sm H) (fun _ _ q => q) hE
theorem LoopE.gen {t : Expr} {body : List Stmt} (J : List PyData → St → Prop) (fin : ∀ σ, J [] σ → kf .next σ)
    (step : ∀ x xs σ, J (x :: xs) σ → ∀ h₀ l, ActOk W (C.at h₀ l) → Le C.h₀ h₀ → (∀ a ∈ C.l, a ∈ l) → WA W A (C.at h₀ l) t (.dat x) σ fun σ1 => WX W A (C.at h₀ l) E body σ1 (TurnL J xs kf)) :
    ∀ xs σ, J xs σ → LoopE W A C E t body kf xs σ
  | [], σ, h => fin σ h
  | x :: xs, σ, h => fun h₀ l hC k0 kl s v H lv => wpAny_mono (step x xs σ h h₀ l hC k0 kl s v H lv) (fun _ s1 ⟨σ1, h1, r1, r2, r3⟩ => ⟨σ1, h1.mono fun f σ2 h2 => by
      cases f with
      | next => exact LoopE.gen J fin step xs σ2 h2
      | cont => exact LoopE.gen J fin step xs σ2 h2
      | brk => exact h2
      | ret v => exact h2, r1, r2, r3⟩) fun _ _ e => e
/-- the turns of such a loop, told in the turn's own activation -/
theorem LoopE.genR {t : Expr} {body : List Stmt} {fl : Value} (J : List PyData → St → Prop) (fin : ∀ σ, J [] σ → kf .next σ)
    (step : ∀ x xs σ, J (x :: xs) σ → ∀ h₀ l, ActOk W (C.at h₀ l) → WA W A (C.at h₀ l) t (.dat x) σ fun σ1 => WX W A (C.at h₀ l) (RaisedHere (C.at h₀ l) fl K) body σ1 (TurnL J xs kf)) :
    ∀ xs σ, J xs σ → LoopE W A C (RaisedHere C fl K) t body kf xs σ :=
  LoopE.gen J fin fun x xs σ h h₀ l hC k0 kl s v H lv => wpAny_mono (step x xs σ h h₀ l hC s v H lv) (fun _ s1 ⟨σ1, h1, r1, r2, r3⟩ => ⟨σ1, h1.monoE fun v s q => q.unAt k0 kl, r1, r2, r3⟩) fun _ _ e => e
/-- a function called within frames, that does not raise -/
theorem WE.callFnF {name : Str} {f : Addr} {fd : FuncData} {e : Expr} {es : List Expr} {np pos : Pos} (d : Nat) (hC : ActOk W C) (F : FrA A C outer) (hr : Rm d A) (own : C.own = C.env.locals :: (cs ++ fr)) (efr : outer.filterMap (·.frame) = fr) (Fn' : Fn W name f fd)
    (h : WEs W A C pos (e :: es) σ fun xs σ1 => Ex4 fun rest mu k1 K1 => A4 (σ1.mu = rest ++ mu) (CallsF W d (.ref f) xs mu k1 K1) ((∀ n mu', ¬ K1 n mu')) (∀ x mu', k1 x mu' → k x ⟨σ1.loc, rest ++ mu'⟩))
    (hx : C.env.kindOf name = some .globalImplicit := by rfl) (hd : (name == ("__debug__" : Str)) = false := by decide)
    (hes : starEach (e :: es) C.env = (false, eval e C.env) :: starEach es C.env := by rfl) : WE W A C (.Call (.Name name np) (e :: es) [] pos) σ k := fun s H => by
  obtain ⟨o, ho, hd'⟩ := Fn'.obj
  have S := H.stat hC
  refine Call_ (glob_val hC S hide_le Fn'.ns ?_ hx hd)
  have go : wpAny W.M A (spliced (backTo pos (starEach (e :: es) C.env))) (fun vs s1 => (s1.heap.get? f = some o ∧ o.data = .func fd) ∧ wpAny W.M A (call (.ref f) vs) (Post C σ s k) NoE s1) NoE s :=
    wpAny_mono (h s H) (fun vs s1 ⟨xs, σ1, ⟨rest, mu, k1, K1, e, hc, hno, hk⟩, sm1, H1, le1, l1⟩ => ⟨⟨hide_le _ _ ((H1.stat hC).K _ _ ho), hd'⟩,
      wpAny_mono (callF_post (K := fun _ _ => False) hC F hr own efr (fun ⟨n, mu', q⟩ => (hno n mu' q).elim) H1 l1 e hc hk (fun n mu' q => hno n mu' q)) (fun u s2 p => p.lift sm1 le1) fun _ _ ⟨_, _, n, σ2, _, _, _, _, q, _, _, _, _, _, _, _⟩ => q.elim⟩) fun _ _ e => e
  exact callWith_def hd' (wpAny_mono go (fun vs s1 h1 => ⟨h1.1.1, h1.2⟩) fun _ _ e => e) hes
end
theorem CallsF.named {W : Wd} {d : Nat} {f : Value} {xs : List V} {mu : Mu} {k : V → Mu → Prop} {K : Int → Mu → Prop} (h : ∀ k' : V → Mu → Prop, (∀ x mu', k x mu' → k' x mu') → CallsF W d f xs mu k' K) : CallsF W d f xs mu k K := h k fun _ _ q => q

end Mine
namespace Mine
section
variable {M : Model} {A : Around} {E : Value → Shared → Prop} {s : Shared}
theorem newEnv_fun {scope : Scope} {globals : Addr} {cl : List (Str × Addr)} {qual x : Str} {f : Addr} {code v : Value} {builtins : Addr} {Q : Env → Shared → Prop}
    (hQ : ∀ h4, (∀ b o, s.heap.get? b = some o → h4.get? b = some o) → h4.Ns s.heap.objs.size (fun _ => none) → (∀ p ∈ cellsFrom (s.heap.objs.size + 1) scope.names [], h4.IsCell p.2 none ∧ s.heap.objs.size < p.2) →
      ((cellsFrom (s.heap.objs.size + 1) scope.names []).Pairwise fun x y => x.2 ≠ y.2) →
      wpAny M A (storeName { scope, locals := s.heap.objs.size, globals, cells := cellsFrom (s.heap.objs.size + 1) scope.names cl, qual, func := some f, code, frame := some s.heap.objs.size, builtins } x v)
        (fun _ s' => Q { scope, locals := s.heap.objs.size, globals, cells := cellsFrom (s.heap.objs.size + 1) scope.names cl, qual, func := some f, code, frame := some s.heap.objs.size, builtins } s') E { s with heap := h4 }) :
    wpAny M A (newFunctionEnv scope globals cl [(x, v)] qual (some f) code none builtins) Q E s := by
  simp only [newFunctionEnv, Option.isSome_none, Bool.false_eq_true, if_false]
  refine wpAny_bind (wpAny_alloc ?_)
  refine wpAny_bind (wpAny_layCells _ (fun name kind cells => by cases hkc : kind == NameKind.cell <;> simp [hkc]) _ _ _ _ ?_)
  have ok := cellsFrom_ok scope.names (s.heap.push { cls := .type "frame", data := .dict #[] }) (s.heap.objs.size + 1) [] ⟨fun _ _ hm => (nomatch hm), List.Pairwise.nil⟩ (by rw [Heap.size_push]; exact Nat.le_refl _)
  rw [Heap.size_push] at ok
  rw [show ({ s with heap := s.heap.push { cls := .type "frame", data := .dict #[] } } : Shared).heap.objs.size = s.heap.objs.size + 1 from Heap.size_push ..]
  have := hQ (pushCells (s.heap.push { cls := .type "frame", data := .dict #[] }) scope.names) (fun b o e => pushCells_keeps _ _ b o (Heap.get?_push_of_some _ e)) ((Heap.Ns.new s.heap (.type "frame")).keeps (pushCells_keeps _ _)) (fun p hp => ok.empty p.1 p.2 hp) ok.apart
  rw [List.forIn_cons]
  refine wpAny_bind (wpAny_bind (wpAny_bind (wpAny_mono this (fun _ s' h' => ?_) fun _ _ e => e)))
  refine wpAny_pure ?_
  simp only [List.forIn_nil]
  exact wpAny_pure (wpAny_pure h')
end

/-- another environment with the same names -/
structure SameEnv (e e' : Env) : Prop where
  locals : e'.locals = e.locals
  cells : e'.cells = e.cells
  kind : e'.scope.kind = e.scope.kind
  glob : e'.globals = e.globals
  blt : e'.builtins = e.builtins
  loc : ∀ x, e'.kindOf x = some .local ↔ e.kindOf x = some .local
noncomputable def Act.env' (C : Act) (e : Env) : Act := { C with env := e }
section
variable {W : Wd} {A : Around} {C : Act} {σ : St} {e : Env}
theorem ActOk.env' (hC : ActOk W C) (h : SameEnv C.env e) : ActOk W (C.env' e) where
  loc := by show e.locals ∈ C.own; rw [h.locals]; exact hC.loc
  kind := by show e.scope.kind = _; rw [h.kind]; exact hC.kind
  glob := by show e.globals = _; rw [h.glob]; exact hC.glob
  blt := by show e.builtins = _; rw [h.blt]; exact hC.blt
  lex := hC.lex
  stat := hC.stat
  inj := fun x y c h1 h2 h3 h4 => hC.inj x y c (by rw [← h.cells]; exact h1) (by rw [← h.cells]; exact h2) h3 (by rw [← h.locals]; exact h4)
theorem Hold.env' {hp : Heap} (H : Hold C σ hp) (h : SameEnv C.env e) : Hold (C.env' e) σ hp where
  keep := H.keep
  nodup := H.nodup
  tab := H.tab
  ns := by
    obtain ⟨m, a, b⟩ := H.ns
    refine ⟨m, ?_, fun x v e1 e2 => b x v e1 ((h.loc x).mp e2)⟩
    show hp.Ns e.locals m
    rw [h.locals]; exact a
  cell := fun x v e1 e2 => by
    obtain ⟨c, v', a, b, b2⟩ := H.cell x v e1 fun q => e2 ((h.loc x).mpr q)
    refine ⟨c, v', ?_, b, b2⟩
    show e.cells.lookup x = some c
    rw [h.cells]; exact a
  ownc := fun c hc hn => let ⟨w, o, a, b⟩ := H.ownc c hc (by rw [← h.locals]; exact hn); ⟨w, o, a, b.imp (fun q => ⟨q.1, by show c ∈ e.cells.map (·.2); rw [h.cells]; exact q.2⟩) fun q => ⟨q.1, by show c ∉ e.cells.map (·.2); rw [h.cells]; exact q.2.1, q.2.2⟩⟩
  mus := H.mus
end

theorem relabel_local {scope : Scope} {env : Env} {x : Str} (h : (relabel scope env).names.lookup x = some .local) : scope.names.lookup x = some .local := by
  have go : ∀ names : List (Str × NameKind), (names.map fun (n, k) => if (k == NameKind.free && env.scope.kind == .function && env.kindOf n == some .cell) then (n, NameKind.cell) else (n, k)).lookup x = some .local → names.lookup x = some .local := by
    intro names
    induction names with
    | nil => intro h; simp at h
    | cons p r ih =>
      obtain ⟨n, k⟩ := p
      intro h
      simp only [List.map_cons] at h
      by_cases hc : (k == NameKind.free && env.scope.kind == .function && env.kindOf n == some .cell) = true
      · rw [if_pos hc] at h
        simp only [List.lookup] at h ⊢
        cases hx : x == n with
        | true => rw [hx] at h; cases h
        | false => rw [hx] at h; exact ih h
      · rw [if_neg hc] at h
        simp only [List.lookup] at h ⊢
        cases hx : x == n with
        | true => rw [hx] at h; exact h
        | false => rw [hx] at h; exact ih h
  exact go _ h

noncomputable def envL (scope : Scope) (cl : List (Str × Addr)) (qual : Str) (f : Addr) (c' L' : Addr) : Env :=
  { scope, locals := L', globals := mainGlobals, cells := cellsFrom (L' + 1) scope.names cl, qual := qual ++ ".<locals>.", func := some f, code := .ref c', frame := some L', builtins := builtinsNs }
noncomputable def lamAct (C : Act) (scope : Scope) (cl : List (Str × Addr)) (qual : Str) (f c' L' : Addr) (h₀ : Heap) (l : List Addr) : Act := (innerAct C scope cl L' h₀ l).env' (envL scope cl qual f c' L')

section
variable {W : Wd} {A : Around} {C : Act} {σ : St} {k : V → St → Prop}
theorem lam_call {d : Nat} {params : Arguments} {scope : Scope} {body : Expr} {name qual x : Str} {pm ctv v : Value} {c' f : Addr} {cl : List (Str × Addr)} {locI : List (Str × V)} {xv : V} {s : Shared}
    (hC : ActOk W C) (hr : Rm (d + 1) A) (H : Hold C σ s.heap)
    (hf : s.heap.get? f = some (kla_obj name qual params body scope cl pm c' ctv)) (hcd : s.heap.CodeRec (.ref c') qual)
    (hbind : bindArgs (kla_fn name qual params body scope cl pm (.ref c') ctv) ⟨[v], []⟩ = pure [(x, v)])
    (hk : scope.kind = .function) (hco : scope.isCoroutine = false) (hgen : scope.isGenerator = false) (sn : Seen C scope σ cl locI) (hx : scope.names.lookup x = some .local)
    (lv : LayV (G C σ s.heap) v xv)
    (hB : ∀ L' h₀ l, ActOk W (lamAct C scope cl qual f c' L' h₀ l) → Rm d (A.deeper (envL scope cl qual f c' L')) →
      WE W (A.deeper (envL scope cl qual f c' L')) (lamAct C scope cl qual f c' L' h₀ l) body ⟨setL x xv locI, σ.mu⟩ fun y σ' => k y ⟨σ.loc, σ'.mu⟩) :
    wpAny W.M A (call (.ref f) [v]) (Post C σ s k) NoE s := by
  refine wpAny_call (kla_callFunE (by have := hr.depth; unfold recursionLimit; lia) hf rfl hco hgen rfl hcd ?_)
  rw [hbind]
  refine wpAny_pure (newEnv_fun fun h4 keep4 ns4 cells4 ap4 => ?_)
  generalize hL : s.heap.objs.size = L' at *
  have fresh : ∀ a, L' ≤ a → s.heap.get? a = none := fun a ha => by
    cases e : s.heap.get? a with
    | none => rfl
    | some o' => exact absurd (Heap.lt_size e) (by rw [hL]; exact Nat.not_lt.mpr ha)
  obtain ⟨hCi, Hi, leI⟩ := H.inner (h4 := h4) (Cl := L') (locI := locI) hC sn hk keep4 ns4 (fresh _ (Nat.le_refl _))
    (fun p hp => ⟨(cells4 p hp).1, fresh _ (Nat.le_of_lt (cells4 p hp).2), (cells4 p hp).2⟩) ap4
  have same : SameEnv (innerAct C scope cl L' (hideAll s.heap (89 :: keys σ.mu)) (C.l ++ (C.own ++ keys []))).env (envL scope cl qual f c' L') := by
    refine ⟨rfl, rfl, rfl, hC.glob.symm, hC.blt.symm, fun y => ⟨fun h => ?_, fun h => ?_⟩⟩
    · exact lookup_relabel_local h
    · exact relabel_local h
  have hCl := hCi.env' same
  have Hl := Hi.env' same
  change ActOk W (lamAct C scope cl qual f c' L' (hideAll s.heap (89 :: keys σ.mu)) (C.l ++ (C.own ++ keys []))) at hCl
  change Hold (lamAct C scope cl qual f c' L' (hideAll s.heap (89 :: keys σ.mu)) (C.l ++ (C.own ++ keys []))) ⟨locI, σ.mu⟩ h4 at Hl
  have hbody := hB L' _ _ hCl ⟨by have := hr.depth; show A.depth + 1 + d ≤ 900; lia, by have := hr.units; show A.units + 3 + 10 * d ≤ 9000; lia, hr.handled⟩
  generalize hCe : lamAct C scope cl qual f c' L' (hideAll s.heap (89 :: keys σ.mu)) (C.l ++ (C.own ++ keys [])) = Cl at *
  have henv : Cl.env = envL scope cl qual f c' L' := by rw [← hCe]; rfl
  have hh0 : Cl.h₀ = hideAll s.heap (89 :: keys σ.mu) := by rw [← hCe]; rfl
  have hl0 : Cl.l = C.l ++ (C.own ++ keys []) := by rw [← hCe]; rfl
  have gle : Le (G C σ s.heap) (G Cl ⟨locI, σ.mu⟩ h4) := by rw [← hCe]; exact leI
  refine wpAny_mono (E := NoE) ?_ (fun _ _ q => q) fun _ _ e => e.elim
  have hst : wpAny W.M A.in1 (storeName Cl.env x v) (fun _ s' => Sm s s' ∧ Hold Cl ⟨setL x xv locI, σ.mu⟩ s'.heap ∧ Le (G C σ s.heap) (G Cl ⟨setL x xv locI, σ.mu⟩ s'.heap) ∧ Le (hideAll s.heap (89 :: keys σ.mu)) s'.heap) NoE { s with heap := h4 } := by
    refine Hl.store (σ := ⟨locI, σ.mu⟩) (s := { s with heap := h4 }) hCl (.loc (by rw [henv]; exact hx)) (lv.keeps gle) fun s' sm H' le' => ⟨Sm.trans ⟨h4, s.toks, rfl⟩ sm, H', gle.trans le', ?_⟩
    have := H'.keep
    rw [hh0] at this
    exact this.trans hide_le
  rw [henv] at hst
  refine wpAny_mono hst (fun _ s5 hqq => ?_) fun _ _ e => e
  obtain ⟨sm5, H5, le5, lw5⟩ := hqq
  have hlim : s5.heap.NoLimit := by
    have S := H5.stat hCl
    exact S.T.nolimit.keeps hide_le
  refine ⟨hlim, kla_codeExpr ?_⟩
  change wpAny W.M (A.deeper (envL scope cl qual f c' L')) (eval body (envL scope cl qual f c' L')) _ _ s5
  have hb5 := hbody s5 H5
  rw [henv] at hb5
  refine wpAny_mono hb5 (fun u s6 hqq => ?_) fun _ _ e => e.elim
  obtain ⟨y, σ6, hk6, sm6, H6, le6, l6⟩ := hqq
  show Post C σ s k u s6
  -- back to the caller
  have nd6 := H6.nodup
  unfold hid at nd6
  rw [List.nodup_cons, List.nodup_append] at nd6
  have sub : Le (G Cl σ6 s6.heap) (hideAll s6.heap ((C.l ++ (C.own ++ keys [])) ++ 89 :: keys σ6.mu)) := hide_sub fun a ha => by
    show a ∈ Cl.l ++ 89 :: (Cl.own ++ keys σ6.mu)
    rw [hl0]
    simp only [List.mem_append, List.mem_cons] at ha ⊢
    rcases ha with ha | ha | ha
    · exact .inl ha
    · exact .inr (.inl ha)
    · exact .inr (.inr (.inr ha))
  have sub1 : Le (hideAll s6.heap (hid Cl σ6.mu)) (hideAll s6.heap (89 :: keys σ6.mu)) := hide_sub fun a ha => by
    show a ∈ 89 :: (Cl.own ++ keys σ6.mu)
    simp only [List.mem_append, List.mem_cons] at ha ⊢
    rcases ha with ha | ha <;> simp [ha]
  have le1 : Le (hideAll s.heap (89 :: keys σ.mu)) (hideAll s6.heap (89 :: keys σ6.mu)) := by
    have := H6.keep
    rw [hh0] at this
    exact this.trans sub1
  have B : Base W s6.heap (C.l ++ (C.own ++ keys [])) σ6.mu := by
    refine ⟨(H6.stat hCl).keeps sub, H6.tab, List.nodup_cons.mpr ⟨fun m => nd6.1 (List.mem_append_right _ m), nd6.2.2.1⟩, fun a ha => ?_, fun p hp => ?_⟩
    · rw [← hl0] at ha
      obtain ⟨o, e⟩ := hCl.lex a ha
      exact ⟨o, sub1 _ _ (H6.keep a o e)⟩
    · obtain ⟨i, n, e, lx⟩ := H6.mus p hp
      exact ⟨i, n, e, lx.keeps sub⟩
  obtain ⟨H7, le7, l7⟩ := H.ofRet (s' := s6) (rest := []) (mu := σ.mu) (v := u) (x := y) hC rfl B le1 (l6.keeps sub)
  exact ⟨y, _, hk6, sm5.trans sm6, H7, le7, l7⟩
end

end Mine
namespace Mine
noncomputable def CodeLike (o : Obj) (q : Str) : Prop := ∃ vs t, o.data = .fields vs ∧ vs[1]? = some (.str q t)
noncomputable def CodeK (C : Act) (σ : St) (h : Heap) (c' : Addr) (q : Str) : Prop := (∃ o, C.h₀.get? c' = some o ∧ CodeLike o q) ∨ ∃ o, (G C σ h).get? c' = some o ∧ CodeLike o q
section
variable {W : Wd} {A : Around} {C : Act} {σ : St} {k : V → St → Prop}
theorem CodeK.keeps {σ' : St} {h h' : Heap} {c' : Addr} {q : Str} (x : CodeK C σ h c' q) (k : Le (G C σ h) (G C σ' h')) : CodeK C σ' h' c' q :=
  x.imp id fun ⟨o, e, r⟩ => ⟨o, k _ _ e, r⟩
theorem CodeK.rec' {h : Heap} {c' : Addr} {q : Str} (x : CodeK C σ h c' q) (H : Hold C σ h) : h.CodeRec (.ref c') q := by
  rcases x with ⟨o, e, vs, t, d, v⟩ | ⟨o, e, vs, t, d, v⟩
  · exact ⟨c', o, vs, t, rfl, of_hideAll _ (H.keep _ _ e), d, v⟩
  · exact ⟨c', o, vs, t, rfl, hide_le _ _ e, d, v⟩
theorem triples_ind {P : List Value → Prop} (h0 : P []) (h3 : ∀ x t y u z rest, P rest → P (.int x t :: .int y u :: z :: rest)) : ∀ l : List Value, TriplesOk l → P l
  | [], _ => h0
  | .int x t :: .int y u :: z :: rest, h => h3 x t y u z rest (triples_ind h0 h3 rest h)
theorem triple_one {l : List Value} (h : TriplesOk l) : ∀ q t, l[1]? ≠ some (.str q t) :=
  triples_ind (P := fun l => ∀ q t, l[1]? ≠ some (.str q t)) (fun q t e => by simp at e) (fun x t y u z rest _ q t e => by simp at e) l h
theorem CodeK.of_rec {h : Heap} {c' : Addr} {q : Str} (hC : ActOk W C) (H : Hold C σ h) (x : h.CodeRec (.ref c') q) : CodeK C σ h c' q := by
  obtain ⟨c2, o, vs, t, e0, e, d, v⟩ := x
  cases e0
  cases e1 : C.h₀.get? c' with
  | some o' =>
    have e2 := of_hideAll _ (H.keep _ _ e1)
    rw [e] at e2; cases e2
    exact .inl ⟨o, e1, vs, t, d, v⟩
  | none =>
    refine .inr ⟨o, hideAll_get _ e fun m => ?_, vs, t, d, v⟩
    rcases List.mem_append.mp m with m | m
    · obtain ⟨o', e'⟩ := hC.lex _ m
      rw [e1] at e'; cases e'
    · rcases List.mem_cons.mp m with rfl | m
      · obtain ⟨ps, e', tr, _⟩ := H.tab
        rw [e] at e'; cases e'
        cases d
        exact triple_one tr _ _ (by simpa using v)
      · rcases List.mem_append.mp m with m | m
        · by_cases ql : c' = C.env.locals
          · obtain ⟨m', ⟨o', es, ep, e', d', _⟩, _⟩ := H.ns
            rw [← ql, e] at e'; cases e'; rw [d] at d'; cases d'
          · obtain ⟨w, o', e', d'⟩ := H.ownc _ m ql
            rw [e] at e'; cases e'; rw [d] at d'; rcases d' with ⟨d', _⟩ | ⟨⟨_, _, d'⟩, _⟩ <;> cases d'
        · obtain ⟨p, hp, rfl⟩ := List.mem_map.mp m
          obtain ⟨i, n, e', _⟩ := H.mus p hp
          rw [e] at e'; cases e'; cases d

theorem Hold.table {h h' : Heap} (hC : ActOk W C) (H : Hold C σ h) (hx : Heap.ExtBut 89 h h') (t : TabOk h') : Hold C σ h' ∧ Le (G C σ h) (G C σ h') := by
  have h89 : (89 : Addr) ∈ hid C σ.mu := .head _
  have keep : ∀ b o, b ≠ 89 → h.get? b = some o → h'.get? b = some o := fun b o n e => hx b o n e
  have le1 : Le (hideAll h (hid C σ.mu)) (hideAll h' (hid C σ.mu)) := hide_same fun b o n e => keep b o (fun q => n (q ▸ h89)) e
  have le2 : Le (G C σ h) (G C σ h') := hide_same fun b o n e => keep b o (fun q => n (q ▸ List.mem_append_right _ h89)) e
  have nd := H.nodup
  have n89 : ∀ b, b ∈ C.own ∨ b ∈ keys σ.mu → b ≠ 89 := fun b hb q => by
    subst q
    exact (List.nodup_cons.mp nd).1 (List.mem_append.mpr hb)
  refine ⟨⟨H.keep.trans le1, nd, t, ?_, ?_, ?_, ?_⟩, le2⟩
  · obtain ⟨m, ⟨o, es, ep, e, r⟩, b⟩ := H.ns
    exact ⟨m, ⟨o, es, ep, keep _ _ (n89 _ (.inl hC.loc)) e, r⟩, fun x v e1 e2 => let ⟨v', c1, c2⟩ := b x v e1 e2; ⟨v', c1, c2.keeps le2⟩⟩
  · intro x v e1 e2
    obtain ⟨c, v', c1, ⟨o, c2, c3⟩, c4⟩ := H.cell x v e1 e2
    refine ⟨c, v', c1, ⟨o, keep c o (fun q => ?_) c2, c3⟩, c4.keeps le2⟩
    obtain ⟨ps, e, _⟩ := H.tab
    rw [q, e] at c2; cases c2; cases c3
  · intro c hc hn
    obtain ⟨w, o, e, d⟩ := H.ownc c hc hn
    exact ⟨w, o, keep c o (n89 _ (.inl hc)) e, d⟩
  · intro p hp
    obtain ⟨i, n, e, l⟩ := H.mus p hp
    exact ⟨i, n, keep _ _ (n89 _ (.inr (List.mem_map_of_mem hp))) e, l.keeps le2⟩

theorem triples_snoc {a b : Int} {t u : Tok} {c : Value} {l : List Value} (h : TriplesOk l) : TriplesOk (l ++ [.int a t, .int b u, c]) :=
  triples_ind (P := fun l => TriplesOk (l ++ [.int a t, .int b u, c])) trivial (fun _ _ _ _ _ _ ih => ih) l h
theorem among_snoc {pos : Pos} {a b : Int} {t u : Tok} {c cv : Value} {l : List Value} (h : TriplesOk l) : codeAmong pos (l ++ [.int a t, .int b u, c]) = some cv → codeAmong pos l = some cv ∨ cv = c := by
  refine triples_ind (P := fun l => codeAmong pos (l ++ [.int a t, .int b u, c]) = some cv → codeAmong pos l = some cv ∨ cv = c) (fun e => ?_) (fun x _ y _ z rest ih e => ?_) l h
  · simp only [List.nil_append, codeAmong] at e
    split at e
    · exact .inr (by cases e; rfl)
    · cases e
  · simp only [List.cons_append, codeAmong] at e ⊢
    split at e
    · rename_i q; rw [if_pos q]; exact .inl e
    · rename_i q; rw [if_neg q]; exact ih e

noncomputable def QUAL : Str := Str.ofString "sort_rows.<locals>.<lambda>"
/-- a lambda made -/
theorem lam_make {params : Arguments} {body : Expr} {scope : Scope} {pos : Pos} {clos : List (Str × Addr)} {s : Shared} {Q : Value → Shared → Prop}
    (hC : ActOk W C) (H : Hold C σ s.heap) (hcode : C.env.code = .ref 91) (hq : C.env.qual ++ "<lambda>" = QUAL) (hcl : closureFor scope C.env = pure clos) (hdef : defaultsOf params C.env = ([], []))
    (h : ∀ f c' pm ctv s', Sm s s' → Hold C σ s'.heap → Le (G C σ s.heap) (G C σ s'.heap) → (G C σ s'.heap).get? f = some (kla_obj "<lambda>" QUAL params body scope clos pm c' ctv) → CodeK C σ s'.heap c' QUAL → Q (.ref f) s') :
    wpAny W.M A (eval (.Lambda params body scope pos) C.env) Q NoE s := by
  have S := H.stat hC
  have Tg := S.T.g.keeps (hide_le (h := s.heap) (l := hidl C σ.mu))
  obtain ⟨ps, htab, htr, hcodes⟩ := H.tab
  obtain ⟨bm, ob, b1, b2, b3, b4, b5, b6⟩ := S.T.bmain
  have b3' := hide_le _ _ b3
  have hgP : mainGlobals ≠ 89 := fun q => by
    obtain ⟨o, es, ep, e, hd, _⟩ := Tg
    rw [q, htab] at e; cases e; cases hd
  have hbP : bm ≠ 89 := fun q => by rw [q, htab] at b3'; cases b3'; cases b4
  have hbG : bm ≠ mainGlobals := fun q => by
    obtain ⟨o, es, ep, e, hd, _⟩ := Tg
    rw [q, e] at b3'; cases b3'; rw [hd] at b6; cases b6
  refine kla_eval hdef ?_
  rw [hq]
  have fin : ∀ h' c' ctv tk, Hold C σ h' → Le (G C σ s.heap) (G C σ h') → h'.CodeRec (.ref c') QUAL → Q (.ref h'.objs.size) { s with heap := h'.push (kla_obj "<lambda>" QUAL params body scope clos ((W.mg "__name__").getD .none) c' ctv), toks := tk } := fun h' c' ctv tk H' le' hrec => by
    obtain ⟨m, hm, _⟩ := H'.ns
    obtain ⟨H2, le2⟩ := H'.step (s := { s with heap := h' }) (s' := { s with heap := h'.push (kla_obj "<lambda>" QUAL params body scope clos ((W.mg "__name__").getD .none) c' ctv), toks := tk }) hC hm (.of_le ⟨_, tk, rfl⟩ hm fun b o e => Heap.get?_push_of_some _ e)
    refine h _ c' _ ctv _ ⟨_, tk, rfl⟩ H2 (le'.trans le2) (hideAll_get _ (Heap.get?_push_size _ rfl) fun q => Nat.lt_irrefl _ (H'.lt hC _ q)) ((CodeK.of_rec hC H' hrec).keeps le2)
  cases hf : codeAmong pos ps.toList with
  | some cv =>
    have hcr := hcodes pos cv hf
    obtain ⟨c', o, vs, t, ec, eo, ed, ev⟩ := hcr
    subst ec
    refine kla_makeFunctionHit (mg := W.mg) hcl hC.glob Tg hcode (S.C.keeps hide_le) htab htr hf ⟨bm, ob, b1, b2, hbG, hbP, b3', b4, b5, b6⟩ fun ctv h' tk hk hsz => ?_
    obtain ⟨m, hm, _⟩ := H.ns
    obtain ⟨H1, le1⟩ := H.step (s' := { s with heap := h' }) hC hm (.of_le ⟨h', s.toks, rfl⟩ hm hk)
    exact fin h' c' ctv tk H1 le1 ⟨c', o, vs, t, rfl, hk _ _ eo, ed, ev⟩
  | none =>
    refine kla_makeFunction (mg := W.mg) hcl hC.glob Tg hcode (S.C.keeps hide_le) htab htr hf hgP ⟨bm, ob, b1, b2, hbG, hbP, b3', b4, b5, b6⟩ fun c' ctv h' tk hx hge hlt hrec htb => ?_
    have hcodes' : ∀ p cv, codeAmong p ps.toList = some cv → h'.CodeRec cv QUAL := fun p cv e => by
      obtain ⟨c2, o, vs, t, ec, eo, ed, ev⟩ := hcodes p cv e
      subst ec
      refine ⟨c2, o, vs, t, rfl, hx _ _ (fun q => ?_) eo, ed, ev⟩
      rw [q, htab] at eo; cases eo
      cases ed
      exact triple_one htr _ _ (by simpa using ev)
    have ht' : TabOk h' := ⟨_, htb, by simpa [rawInt] using triples_snoc htr, fun p cv e => by
      have e' : codeAmong p (ps.toList ++ [.int pos.line 0, .int pos.col 0, .ref c']) = some cv := by simpa [rawInt] using e
      rcases among_snoc htr e' with q | q
      · exact hcodes' p cv q
      · rw [q]; exact hrec⟩
    obtain ⟨H1, le1⟩ := H.table hC hx ht'
    exact fin h' c' ctv tk H1 le1 hrec
end

end Mine
namespace Mine
section
variable (n : Nat) (lt : Nat → Nat → Bool)
noncomputable def KOk {α : Type} (Q : α → Prop) : KasT α → Prop
  | .ret a => Q a
  | .ask i j k => i < n ∧ j < n ∧ KOk Q (k (lt i j))
end
section
variable {n : Nat} {lt : Nat → Nat → Bool}
theorem KOk.bind {α β : Type} {f : α → KasT β} {Q : β → Prop} : ∀ {t : KasT α}, KOk n lt (fun a => KOk n lt Q (f a)) t → KOk n lt Q (t.bind f)
  | .ret _, h => h
  | .ask _ _ _, h => ⟨h.1, h.2.1, KOk.bind h.2.2⟩
theorem KOk.mono {α : Type} {Q Q' : α → Prop} (hq : ∀ a, Q a → Q' a) : ∀ {t : KasT α}, KOk n lt Q t → KOk n lt Q' t
  | .ret _, h => hq _ h
  | .ask _ _ _, h => ⟨h.1, h.2.1, KOk.mono hq h.2.2⟩

theorem KOk.yes {α : Type} {Q : α → Prop} {a b : KasT α} (h : KOk n lt Q a) : KOk n lt Q (if true = true then a else b) := h
theorem KOk.no {α : Type} {Q : α → Prop} {a b : KasT α} (h : KOk n lt Q b) : KOk n lt Q (if false = true then a else b) := h
theorem rev_list (a b c : List Nat) : kas_rev (a ++ b ++ c).toArray a.length (a.length + b.length) = (a ++ b.reverse ++ c).toArray := by
  apply Array.ext_getElem?
  intro k
  unfold kas_rev
  rw [getElem?_mirror_all (by simp)]
  simp only [List.getElem?_toArray]
  by_cases h : a.length ≤ k ∧ k < a.length + b.length
  · rw [if_pos h, List.append_assoc, List.append_assoc, List.getElem?_append_right (by lia), List.getElem?_append_left (by lia), List.getElem?_append_right (by lia), List.getElem?_append_left (by rw [List.length_reverse]; lia), List.getElem?_reverse (by lia)]
    congr 1; lia
  · rw [if_neg h]
    by_cases h1 : k < a.length
    · rw [List.append_assoc, List.append_assoc, List.getElem?_append_left h1, List.getElem?_append_left h1]
    · rw [List.getElem?_append_right (by rw [List.length_append]; lia), List.getElem?_append_right (by rw [List.length_append, List.length_reverse]; lia)]
      simp
theorem bubble_list (a b : List Nat) (x : Nat) (c : List Nat) : bubble (a ++ b ++ x :: c).toArray (a.length + b.length) b.length = (a ++ x :: b ++ c).toArray := by
  apply Array.ext_getElem?
  intro k
  rw [getElem?_bubble (by simp) _ (by lia)]
  simp only [List.getElem?_toArray]
  rw [show a.length + b.length - b.length = a.length by lia]
  by_cases h : k = a.length
  · subst h
    rw [if_pos rfl, List.getElem?_append_right (by rw [List.length_append]; exact Nat.le_refl _), List.append_assoc, List.getElem?_append_right (Nat.le_refl _)]
    simp
  · rw [if_neg h]
    by_cases h1 : a.length < k ∧ k ≤ a.length + b.length
    · rw [if_pos h1, List.append_assoc, List.append_assoc, List.getElem?_append_right (by lia), List.getElem?_append_left (by lia), List.getElem?_append_right (by lia)]
      obtain ⟨d, rfl⟩ : ∃ d, k = a.length + (d + 1) := ⟨k - a.length - 1, by lia⟩
      rw [show a.length + (d + 1) - a.length = d + 1 by lia, show a.length + (d + 1) - 1 - a.length = d by lia]
      simp only [List.cons_append, List.getElem?_cons_succ]
      rw [List.getElem?_append_left (by lia)]
    · rw [if_neg h1]
      by_cases h2 : k < a.length
      · rw [List.append_assoc, List.append_assoc, List.getElem?_append_left h2, List.getElem?_append_left h2]
      · obtain ⟨d, rfl⟩ : ∃ d, k = a.length + b.length + (d + 1) := ⟨k - a.length - b.length - 1, by lia⟩
        rw [List.getElem?_append_right (by rw [List.length_append]; lia), List.getElem?_append_right (by simp; lia)]
        simp only [List.length_append, List.length_cons]
        rw [show a.length + b.length + (d + 1) - (a.length + b.length) = d + 1 by lia, show a.length + b.length + (d + 1) - (a.length + (b.length + 1)) = d by lia]
        simp

noncomputable def sl (lt : Nat → Nat → Bool) (i j : Nat) : Prop := lt i j = true ∨ (lt j i = false ∧ i < j)
structure LtOk (lt : Nat → Nat → Bool) : Prop where
  asym : ∀ {i j}, lt i j = true → lt j i = false
  neg : ∀ {i j k}, lt i j = false → lt j k = false → lt i k = false
theorem LtOk.tr1 (L : LtOk lt) {i j k : Nat} (h1 : lt i j = true) (h2 : lt k j = false) : lt i k = true := by
  cases e : lt i k with
  | true => rfl
  | false => rw [L.neg e h2] at h1; cases h1
theorem LtOk.tr2 (L : LtOk lt) {i j k : Nat} (h1 : lt j i = false) (h2 : lt j k = true) : lt i k = true := by
  cases e : lt i k with
  | true => rfl
  | false => rw [L.neg h1 e] at h2; cases h2
theorem LtOk.tr (L : LtOk lt) {i j k : Nat} (h1 : lt i j = true) (h2 : lt j k = true) : lt i k = true := L.tr1 h1 (L.asym h2)
theorem sl_nlt (L : LtOk lt) {i j : Nat} (h : sl lt i j) : lt j i = false := h.elim (fun h => L.asym h) fun h => h.1

/-- the first m places sorted, the others untouched -/
noncomputable def SS (n : Nat) (lt : Nat → Nat → Bool) (p : Array Nat) (m : Nat) : Prop := m ≤ n ∧ ∃ l : List Nat, A4 (p = (l ++ List.range' m (n - m)).toArray) (l.length = m) (l.Perm (List.range m)) (l.Pairwise (sl lt))
theorem SS.nil : SS n lt (List.toArray (List.range n)) 0 := ⟨Nat.zero_le _, [], by rw [List.range_eq_range']; simp, rfl, .refl _, .nil⟩
theorem range'_cut {m n : Nat} (h : m < n) : List.range' m (n - m) = m :: List.range' (m + 1) (n - (m + 1)) := by
  rw [show n - m = (n - (m + 1)) + 1 by lia, List.range'_succ]
theorem getD_list (l : List Nat) (i : Nat) : (l.toArray).getD i 0 = l.getD i 0 := by simp [Array.getD, List.getD]; split <;> simp_all
theorem SS.push {p : Array Nat} {m : Nat} (S : SS n lt p m) (hm : m < n) (h : ∀ x, x < m → (∃ i, i < m ∧ p.getD i 0 = x) → sl lt x m) : SS n lt p (m + 1) := by
  obtain ⟨h1, l, e, hl, hp, hs⟩ := S
  refine ⟨hm, l ++ [m], by rw [e, range'_cut hm]; simp, by simp [hl], ?_, ?_⟩
  · rw [List.range_succ]
    exact hp.append_right [m]
  · rw [List.pairwise_append]
    refine ⟨hs, by simp, fun x hx y hy => ?_⟩
    rw [List.mem_singleton] at hy
    subst hy
    refine h x (by simpa using hp.mem_iff.mp hx) ?_
    obtain ⟨i, hi, e'⟩ := List.mem_iff_getElem.mp hx
    refine ⟨i, hl ▸ hi, ?_⟩
    rw [e, getD_list]
    simp only [List.getD]
    rw [List.getElem?_append_left hi, List.getElem?_eq_getElem hi, e']
    rfl
theorem SS.at {p : Array Nat} {m : Nat} (S : SS n lt p m) (hm : m < n) : p.getD m 0 = m := by
  obtain ⟨h1, l, e, hl, hp, hs⟩ := S
  rw [e, getD_list, range'_cut hm]
  simp [List.getD, List.getElem?_append_right (Nat.le_of_eq hl), hl]
theorem SS.ltm {p : Array Nat} {m i : Nat} (S : SS n lt p m) (hi : i < m) : p.getD i 0 < m := by
  obtain ⟨h1, l, e, hl, hp, hs⟩ := S
  rw [e, getD_list]
  have hi' : i < l.length := by lia
  have : l[i] ∈ List.range m := hp.mem_iff.mp (List.getElem_mem hi')
  simpa [List.getD, List.getElem?_append_left hi', List.getElem?_eq_getElem hi'] using this
theorem SS.le {p : Array Nat} {m i j : Nat} (S : SS n lt p m) (hi : i < j) (hj : j < m) : sl lt (p.getD i 0) (p.getD j 0) := by
  obtain ⟨h1, l, e, hl, hp, hs⟩ := S
  have hi' : i < l.length := by lia
  have hj' : j < l.length := by lia
  rw [e, getD_list, getD_list]
  simpa [List.getD, List.getElem?_append_left hi', List.getElem?_append_left hj', List.getElem?_eq_getElem hi', List.getElem?_eq_getElem hj'] using List.pairwise_iff_getElem.mp hs i j hi' hj' hi
theorem SS.step (L : LtOk lt) {p : Array Nat} {m : Nat} (S : SS n lt p m) (h0 : 0 < m) (hm : m < n) (h : lt (p.getD m 0) (p.getD (m - 1) 0) = false) : SS n lt p (m + 1) := by
  refine S.push hm fun x hx hqq => ?_
  obtain ⟨i, hi, e⟩ := hqq
  rw [S.at hm] at h
  refine .inr ⟨?_, hx⟩
  by_cases q : i = m - 1
  · rw [← e, q]; exact h
  · have := sl_nlt L (S.le (i := i) (j := m - 1) (by lia) (by lia))
    rw [← e]
    exact L.neg h this
theorem asc_ok (L : LtOk lt) {p : Array Nat} {Q : Nat → Prop} (hQ : ∀ m, SS n lt p m → 0 < m → (m = n ∨ (m < n ∧ lt m (p.getD (m - 1) 0) = true)) → Q m) : ∀ (f m : Nat), SS n lt p m → 0 < m → f + m = n → KOk n lt Q (kas_asc p f m)
  | 0, m, S, h0, e => hQ m S h0 (.inl (by lia))
  | f + 1, m, S, h0, e => by
    unfold kas_asc
    have hm : m < n := by lia
    refine ⟨?_, ?_, ?_⟩
    · rw [S.at hm]; exact hm
    · exact Nat.lt_trans (S.ltm (by lia)) hm
    · cases c : lt (p.getD m 0) (p.getD (m - 1) 0) with
      | true =>
        refine KOk.yes ?_
        refine hQ m S h0 (.inr ⟨hm, ?_⟩)
        rw [S.at hm] at c; exact c
      | false =>
        refine KOk.no ?_
        exact asc_ok L hQ f (m + 1) (S.step L h0 hm c) (by lia) (by lia)

/-- a stretch that goes down -/
structure DD (n : Nat) (lt : Nat → Nat → Bool) (p : Array Nat) (m q : Nat) : Prop where
  hq : q + 1 ≤ m
  hm : m ≤ n
  ex : ∃ a : List Nat, A5 (p = (a ++ List.range' (m - (q + 1)) (n - (m - (q + 1)))).toArray) (a.length = m - (q + 1)) (a.Perm (List.range (m - (q + 1)))) (a.Pairwise (fun x y => sl lt y x)) ((∀ x ∈ a, ∀ i, m - (q + 1) ≤ i → i < m → lt i x = true))
  eq : ∀ i j, m - (q + 1) ≤ i → i < m → m - (q + 1) ≤ j → j < m → lt i j = false
theorem range'_split {b m n : Nat} (h1 : b ≤ m) (h2 : m ≤ n) : List.range' b (n - b) = List.range' b (m - b) ++ List.range' m (n - m) := by
  rw [show n - b = (m - b) + (n - m) by lia]
  have := (List.range'_append (s := b) (m := m - b) (n := n - m) (step := 1)).symm
  rw [this]
  congr 2; lia
theorem range_cut {b m : Nat} (h : b ≤ m) : List.range m = List.range b ++ List.range' b (m - b) := by
  rw [List.range_eq_range', List.range_eq_range']
  have := (List.range'_append (s := 0) (m := b) (n := m - b) (step := 1)).symm
  rw [show b + (m - b) = m by lia] at this
  rw [this]
  simp
/-- the equals turned round -/
theorem DD.turn {p : Array Nat} {m q : Nat} (L : LtOk lt) (D : DD n lt p m q) : ∃ a : List Nat, A5 (kas_rev p (m - (q + 1)) m = (a ++ List.range' m (n - m)).toArray) (a.length = m) (a.Perm (List.range m)) (a.Pairwise (fun x y => sl lt y x)) ((∀ x ∈ a, lt (m - 1) x = false → m - (q + 1) ≤ x)) := by
  obtain ⟨hq, hm, ⟨a, e, hl, hp, hs, hx⟩, he⟩ := D
  generalize hb : m - (q + 1) = b at *
  have hbm : b ≤ m := by lia
  refine ⟨a ++ (List.range' b (m - b)).reverse, ?_, by simp [hl]; lia, ?_, ?_, ?_⟩
  · rw [e, range'_split hbm hm, ← List.append_assoc]
    have := rev_list a (List.range' b (m - b)) (List.range' m (n - m))
    rw [List.length_range', hl, show b + (m - b) = m by lia] at this
    exact this
  · rw [range_cut hbm]
    exact hp.append (List.reverse_perm _)
  · rw [List.pairwise_append]
    refine ⟨hs, ?_, fun x hxa y hy => ?_⟩
    · rw [List.pairwise_reverse]
      refine List.Pairwise.imp_of_mem (R := (· < ·)) (fun {x y} h1 h2 h3 => .inr ⟨?_, h3⟩) (List.pairwise_lt_range' _)
      rw [List.mem_range'_1] at h1 h2
      exact he _ _ (by lia) (by lia) (by lia) (by lia)
    · rw [List.mem_reverse, List.mem_range'_1] at hy
      exact .inl (hx x hxa y (by lia) (by lia))
  · intro x hxa hlt
    rcases List.mem_append.mp hxa with h | h
    · rw [hx x h (m - 1) (by lia) (by lia)] at hlt; cases hlt
    · rw [List.mem_reverse, List.mem_range'_1] at h
      lia
theorem DD.lift {p : Array Nat} {m q : Nat} (L : LtOk lt) (D : DD n lt p m q) (h0 : q = 0) : kas_rev p (m - (q + 1)) m = p := by
  subst h0
  have := D.hq
  unfold kas_rev
  rw [show (m - (m - (0 + 1))) / 2 = 0 by lia]
  rfl
theorem DD.one {p : Array Nat} {m : Nat} {a : List Nat} (L : LtOk lt) (hm : m < n) (e : p = (a ++ List.range' m (n - m)).toArray) (hl : a.length = m) (hp : a.Perm (List.range m)) (hs : a.Pairwise (fun x y => sl lt y x)) (h : ∀ x ∈ a, lt m x = true) : DD n lt p (m + 1) 0 where
  hq := by lia
  hm := hm
  ex := ⟨a, by rw [e]; rfl, hl, hp, hs, fun x hx i h1 h2 => by rw [show i = m by lia]; exact h x hx⟩
  eq := fun i j h1 h2 h3 h4 => by
    rw [show i = m by lia, show j = m by lia]
    cases c : lt m m with
    | false => rfl
    | true => have := L.asym c; rw [c] at this; cases this
theorem DD.at {p : Array Nat} {m q i : Nat} (D : DD n lt p m q) (h1 : m - (q + 1) ≤ i) (h2 : i < n) : p.getD i 0 = i := by
  obtain ⟨hq, hm, ⟨a, e, hl, hp, hs, hx⟩, he⟩ := D
  rw [e, getD_list]
  simp only [List.getD]
  rw [List.getElem?_append_right (by lia), List.getElem?_range' (by lia)]
  simp; lia
theorem desc_ok (L : LtOk lt) {Q : Array Nat × Nat × Nat → Prop} (hQ : ∀ p m q, DD n lt p m q → Q (p, m, q)) : ∀ (f : Nat) (p : Array Nat) (m q : Nat), DD n lt p m q → f + m = n → KOk n lt Q (kas_desc f p m q)
  | 0, p, m, q, D, e => hQ p m q D
  | f + 1, p, m, q, D, e => by
    unfold kas_desc
    have hm : m < n := by lia
    have hq := D.hq
    have e1 : p.getD m 0 = m := D.at (by lia) hm
    have e2 : p.getD (m - 1) 0 = m - 1 := D.at (by lia) (by lia)
    rw [e1, e2]
    refine ⟨hm, by lia, ?_⟩
    cases c : lt m (m - 1) with
    | true =>
      refine KOk.yes ?_
      have key : DD n lt (kas_rev p (m - (q + 1)) m) (m + 1) 0 := by
        obtain ⟨a, ea, hl, hp, hs, hx⟩ := D.turn L
        refine .one L hm ea hl hp hs fun x hxa => ?_
        cases d : lt (m - 1) x with
        | true => exact L.tr c d
        | false =>
          have h1 := hx x hxa d
          have h2 : x < m := by simpa using hp.mem_iff.mp hxa
          exact L.tr1 c (D.eq _ _ h1 h2 (by lia) (by lia))
      by_cases q0 : q > 0
      · rw [if_pos q0]
        exact desc_ok L hQ f _ (m + 1) 0 key (by lia)
      · rw [if_neg q0]
        rw [D.lift L (by lia)] at key
        exact desc_ok L hQ f _ (m + 1) 0 key (by lia)
    | false =>
      refine KOk.no ?_
      refine ⟨by lia, hm, ?_⟩
      cases d : lt (m - 1) m with
      | true => refine KOk.yes ?_; exact hQ p m q D
      | false =>
        refine KOk.no ?_
        refine desc_ok L hQ f p (m + 1) (q + 1) ⟨by lia, hm, ?_, ?_⟩ (by lia)
        · obtain ⟨a, ea, hl, hp, hs, hx⟩ := D.ex
          rw [show m + 1 - (q + 1 + 1) = m - (q + 1) by lia]
          refine ⟨a, ea, hl, hp, hs, fun x hxa i h1 h2 => ?_⟩
          by_cases c1 : i = m
          · subst c1
            exact L.tr2 d (hx x hxa (i - 1) (by lia) (by lia))
          · exact hx x hxa i h1 (by lia)
        · have mm : lt m m = false := L.neg c d
          intro i j h1 h2 h3 h4
          rw [show m + 1 - (q + 1 + 1) = m - (q + 1) by lia] at h1 h3
          by_cases c1 : i = m
          · by_cases c2 : j = m
            · rw [c1, c2]; exact mm
            · rw [c1]; exact L.neg c (D.eq _ _ (by lia) (by lia) h3 (by lia))
          · by_cases c2 : j = m
            · rw [c2]; exact L.neg (D.eq _ _ h1 (by lia) (by lia) (by lia)) d
            · exact D.eq _ _ h1 (by lia) h3 (by lia)

theorem tail3_ok (L : LtOk lt) {Q : Nat × Array Nat → Prop} (hQ : ∀ m p, SS n lt p m → 0 < m → Q (m, p)) {p : Array Nat} {m : Nat} {a : List Nat} (h0 : 0 < m) (hm : m ≤ n) (ea : p = (a ++ List.range' m (n - m)).toArray) (hl : a.length = m) (hp : a.Perm (List.range m)) (hs : a.Pairwise (fun x y => sl lt y x)) :
    KOk n lt Q (kas_tail3 m n p) := by
  unfold kas_tail3
  have S : SS n lt (kas_rev p 0 m) m := by
    refine ⟨hm, a.reverse, ?_, by simp [hl], (List.reverse_perm _).trans hp, List.pairwise_reverse.mpr hs⟩
    rw [ea]
    have := rev_list [] a (List.range' m (n - m))
    simpa [hl] using this
  exact KOk.bind (asc_ok L (fun m' S' h0' _ => hQ m' _ S' h0') (n - m) m S h0 (by lia))
theorem descPart_ok (L : LtOk lt) {Q : Nat × Array Nat → Prop} (hQ : ∀ m p, SS n lt p m → 0 < m → Q (m, p)) {p : Array Nat} {m : Nat} (D : DD n lt p (m + 1) 0) : KOk n lt Q (kas_descPart m n p) := by
  unfold kas_descPart
  refine KOk.bind (desc_ok L (fun p' m' q' D' => ?_) _ p (m + 1) 0 D (by have := D.hm; lia))
  dsimp only
  have hq := D'.hq
  by_cases q0 : q' > 0
  · rw [if_pos q0]
    obtain ⟨a, ea, hl, hp, hs, hx⟩ := D'.turn L
    exact tail3_ok L hQ (by lia) D'.hm ea hl hp hs
  · rw [if_neg q0]
    obtain ⟨a, ea, hl, hp, hs, hx⟩ := D'.turn L
    rw [D'.lift L (by lia)] at ea
    exact tail3_ok L hQ (by lia) D'.hm ea hl hp hs
theorem count_ok (L : LtOk lt) {Q : Nat × Array Nat → Prop} (hn : 0 < n) (hQ : ∀ m p, SS n lt p m → 0 < m → Q (m, p)) : KOk n lt Q (kas_count n (List.toArray (List.range n))) := by
  have at' : ∀ i, i < n → (List.toArray (List.range n)).getD i 0 = i := fun i hi => by rw [getD_list]; simp [List.getD, hi]
  unfold kas_count
  refine KOk.bind (asc_ok L (fun m S h0 h => ?_) (n - 1) 1 ((SS.nil).push hn fun x hx => by lia) (by lia) (by lia))
  by_cases e : m = n
  · rw [if_pos (by simp [e])]
    exact hQ _ _ S h0
  · rw [if_neg (by simp [e])]
    obtain ⟨hm, hlt⟩ : m < n ∧ lt m ((List.toArray (List.range n)).getD (m - 1) 0) = true := h.elim (fun q => absurd q e) id
    rw [at' (m - 1) (by lia)] at hlt
    by_cases m1 : m > 1
    · rw [if_pos m1, at' 0 hn, at' (m - 1) (by lia)]
      refine ⟨hn, by lia, ?_⟩
      cases c : lt 0 (m - 1) with
      | true => refine KOk.yes ?_; exact hQ _ _ S h0
      | false =>
        refine KOk.no ?_
        have all : ∀ i j, i < m → j < m → lt i j = false := by
          have up : ∀ i j, i ≤ j → j < m → lt j i = false := fun i j h1 h2 => by
            by_cases q : i = j
            · subst q
              cases c2 : lt i i with
              | false => rfl
              | true => have := L.asym c2; rw [c2] at this; cases this
            · have := sl_nlt L (S.le (i := i) (j := j) (by lia) h2)
              rwa [at' i (by lia), at' j (by lia)] at this
          intro i j h1 h2
          exact L.neg (L.neg (up 0 i (Nat.zero_le _) h1) c) (up j (m - 1) (by lia) (by lia))
        refine descPart_ok L hQ (.one (a := (List.range m).reverse) L hm ?_ (by simp) (List.reverse_perm _) ?_ fun x hx => ?_)
        · have := rev_list [] (List.range m) (List.range' m (n - m))
          rw [List.range_eq_range' (n := n), show List.range' 0 n = List.range' 0 (n - 0) from rfl, range'_split (Nat.zero_le m) (Nat.le_of_lt hm)]
          simpa [List.range_eq_range'] using this
        · rw [List.pairwise_reverse]
          refine List.Pairwise.imp_of_mem (R := (· < ·)) (fun {x y} h1 h2 h3 => .inr ⟨?_, h3⟩) List.pairwise_lt_range
          exact all _ _ (by simpa using h2) (by simpa using h1)
        · exact L.tr1 hlt (all _ _ (by simpa using hx) (by lia))
    · rw [if_neg m1]
      have : m = 1 := by lia
      subst this
      refine descPart_ok L hQ (.one (a := [0]) L hm ?_ rfl (.refl _) (by simp) fun x hx => ?_)
      · rw [List.range_eq_range', show List.range' 0 n = List.range' 0 (n - 0) from rfl, range'_split (Nat.zero_le 1) (Nat.le_of_lt hm)]
        rfl
      · rw [List.mem_singleton] at hx
        subst hx; exact hlt

theorem place_ok (L : LtOk lt) {p : Array Nat} {k : Nat} {Q : Nat → Prop} (S : SS n lt p k) (hk : k < n) (hQ : ∀ l, l ≤ k → (∀ i, i < l → lt k (p.getD i 0) = false) → (∀ i, l ≤ i → i < k → lt k (p.getD i 0) = true) → Q l) :
    ∀ (f l r : Nat), l ≤ r → r ≤ k → r - l ≤ f → (∀ i, i < l → lt k (p.getD i 0) = false) → (∀ i, r ≤ i → i < k → lt k (p.getD i 0) = true) → KOk n lt Q (kas_place p k f l r)
  | 0, l, r, h1, h2, h3, a, b => hQ l (by lia) a fun i x y => b i (by lia) y
  | f + 1, l, r, h1, h2, h3, a, b => by
    unfold kas_place
    by_cases c : l ≥ r
    · rw [if_pos c]
      exact hQ l (by lia) a fun i x y => b i (by lia) y
    · rw [if_neg c, S.at hk]
      have hm : (l + r) / 2 < k := by lia
      refine ⟨hk, Nat.lt_trans (S.ltm hm) hk, ?_⟩
      cases d : lt k (p.getD ((l + r) / 2) 0) with
      | true =>
        refine KOk.yes ?_
        refine place_ok L S hk hQ f l ((l + r) / 2) (by lia) (by lia) (by lia) a fun i x y => ?_
        by_cases q : i = (l + r) / 2
        · rw [q]; exact d
        · exact L.tr1 d (sl_nlt L (S.le (i := (l + r) / 2) (j := i) (by lia) y))
      | false =>
        refine KOk.no ?_
        refine place_ok L S hk hQ f ((l + r) / 2 + 1) r (by lia) h2 (by lia) (fun i x => ?_) b
        by_cases q : i = (l + r) / 2
        · rw [q]; exact d
        · exact L.neg d (sl_nlt L (S.le (i := i) (j := (l + r) / 2) (by lia) hm))
theorem bin_ok (L : LtOk lt) {Q : Array Nat → Prop} (hQ : ∀ p, SS n lt p n → Q p) : ∀ (f : Nat) (p : Array Nat) (k : Nat), SS n lt p k → f + k = n → KOk n lt Q (kas_bin f p k)
  | 0, p, k, S, e => hQ p (by rw [show n = k by lia] at S ⊢; exact S)
  | f + 1, p, k, S, e => by
    unfold kas_bin
    have hk : k < n := by lia
    refine KOk.bind (place_ok L S hk (fun l hl h1 h2 => ?_) k 0 k (Nat.zero_le _) (Nat.le_refl _) (by lia) (fun i hi => by lia) fun i h1 h2 => by lia)
    refine bin_ok L hQ f _ (k + 1) ?_ (by lia)
    obtain ⟨h0, a, ea, hla, hp, hs⟩ := S
    have hlk : l ≤ a.length := by lia
    have g : ∀ i (hi : i < a.length), p.getD i 0 = a[i] := fun i hi => by
      rw [ea, getD_list]
      simp [List.getD, List.getElem?_append_left hi, List.getElem?_eq_getElem hi]
    have hcut : a = a.take l ++ a.drop l := (List.take_append_drop l a).symm
    have hlt : (a.take l).length = l := by rw [List.length_take]; lia
    have hld : (a.drop l).length = k - l := by rw [List.length_drop]; lia
    refine ⟨hk, a.take l ++ k :: a.drop l, ?_, by rw [List.length_append, List.length_cons, hlt, hld]; lia, ?_, ?_⟩
    · have := bubble_list (a.take l) (a.drop l) k (List.range' (k + 1) (n - (k + 1)))
      rw [hlt, hld, show l + (k - l) = k by lia, ← hcut, ← range'_cut hk, ← ea] at this
      rw [this]
    · rw [List.range_succ]
      refine (List.perm_middle).trans ?_
      rw [← hcut]
      exact (List.Perm.cons k hp).trans (List.perm_append_singleton k (List.range k)).symm
    · rw [hcut] at hs
      rw [List.pairwise_append] at hs ⊢
      refine ⟨hs.1, List.pairwise_cons.mpr ⟨fun x hx => ?_, hs.2.1⟩, fun x hx y hy => ?_⟩
      · obtain ⟨i, hi, e'⟩ := List.mem_iff_getElem.mp hx
        rw [List.getElem_drop] at e'
        have := h2 (l + i) (by lia) (by lia)
        rw [g _ (by lia), e'] at this
        exact .inl this
      · rcases List.mem_cons.mp hy with rfl | hy
        · obtain ⟨i, hi, e'⟩ := List.mem_iff_getElem.mp hx
          rw [List.getElem_take] at e'
          have := h1 i (by lia)
          rw [g _ (by lia), e'] at this
          refine .inr ⟨this, ?_⟩
          have : x ∈ a := List.mem_of_mem_take hx
          simpa using hp.mem_iff.mp this
        · exact hs.2.2 x hx y hy
/-- the sort is stable -/
theorem sort_ok (L : LtOk lt) {Q : Array Nat → Prop} (hn : 0 < n) (hQ : ∀ p, p.toList.Perm (List.range n) → p.toList.Pairwise (sl lt) → Q p) : KOk n lt Q (kas_sort n) := by
  have hQ' : ∀ p, SS n lt p n → Q p := fun p ⟨_, l, e, _, hp, hs⟩ => hQ p (by rw [e]; simpa using hp) (by rw [e]; simpa using hs)
  unfold kas_sort
  refine KOk.bind (count_ok L hn fun m p S h0 => ?_)
  dsimp only
  by_cases c : m < n
  · rw [if_pos c, show max m 1 = m by lia]
    exact bin_ok L hQ' _ p m S (by lia)
  · rw [if_neg c]
    have := S.1
    exact hQ' p (by rw [show n = m by lia] at S ⊢; exact S)
end

end Mine
namespace Mine

/-- one object set aside: it stands as it is till it is taken back -/
noncomputable def Act.shut (C : Act) (h : Heap) (a : Addr) : Act := { C with h₀ := h, l := a :: C.l }
section
variable {W : Wd} {A : Around} {C : Act} {σ : St} {k : V → St → Prop}
theorem get_hide {h : Heap} {l : List Addr} {a : Addr} {o : Obj} (e : h.get? a = some o) (n : a ∉ l) : (hideAll h l).get? a = some o := hideAll_get _ e n

theorem shut_in {h1 h2 : Heap} {a : Addr} {o : Obj} (hC : ActOk W C) (H : Hold C σ h1) (le : Le h1 h2) (hn : h1.get? a = none) (ho : h2.get? a = some o) (ha : a ∉ hidl C σ.mu) :
    ActOk W (C.shut (hideAll h2 (hid C σ.mu)) a) ∧ Hold (C.shut (hideAll h2 (hid C σ.mu)) a) σ h2 ∧ Le (G C σ h1) (G (C.shut (hideAll h2 (hid C σ.mu)) a) σ h2) ∧ Le C.h₀ (hideAll h2 (hid C σ.mu)) := by
  have ha' : a ∉ hid C σ.mu := fun m => ha (List.mem_append_right _ m)
  have leh : Le (hideAll h1 (hid C σ.mu)) (hideAll h2 (hid C σ.mu)) := hide_ext le
  have leg : Le (G C σ h1) (G (C.shut (hideAll h2 (hid C σ.mu)) a) σ h2) := hide_mono fun b o' n e => ⟨le b o' e, fun m => by
    rcases List.mem_cons.mp m with q | m
    · rw [q, hn] at e; cases e
    · exact n m⟩
  have leb : Le (G C σ h1) (hideAll (hideAll h2 (hid C σ.mu)) (a :: C.l)) := by
    rw [← hideAll_append]
    refine hide_mono fun b o' n e => ⟨le b o' e, fun m => ?_⟩
    rcases List.mem_append.mp m with m | m
    · exact n (List.mem_append_right _ m)
    · rcases List.mem_cons.mp m with q | m
      · rw [q, hn] at e; cases e
      · exact n (List.mem_append_left _ m)
  refine ⟨?_, ?_, leg, H.keep.trans leh⟩
  · exact { loc := hC.loc, kind := hC.kind, glob := hC.glob, blt := hC.blt, stat := (H.stat hC).keeps leb, inj := hC.inj, lex := fun b hb => by
              rcases List.mem_cons.mp hb with rfl | hb
              · exact ⟨o, get_hide ho ha'⟩
              · obtain ⟨o', e⟩ := hC.lex b hb
                exact ⟨o', leh _ _ (H.keep _ _ e)⟩ }
  · have kp : ∀ b o', h1.get? b = some o' → h2.get? b = some o' := le
    refine ⟨Le.refl _, H.nodup, ?_, ?_, ?_, ?_, ?_⟩
    · exact H.tab.keeps (l := []) (fun b o' _ e => kp b o' e) (by simp) (by simp)
    · obtain ⟨m, n, b⟩ := H.ns
      exact ⟨m, n.keeps le, fun x v e1 e2 => let ⟨v', c1, c2⟩ := b x v e1 e2; ⟨v', c1, c2.keeps leg⟩⟩
    · intro x v e1 e2
      obtain ⟨c, v', c1, ⟨o', c2, c3⟩, c4⟩ := H.cell x v e1 e2
      exact ⟨c, v', c1, ⟨o', kp _ _ c2, c3⟩, c4.keeps leg⟩
    · intro c hc hnn
      obtain ⟨w, o', e, d⟩ := H.ownc c hc hnn
      exact ⟨w, o', kp _ _ e, d⟩
    · intro p hp
      obtain ⟨i, n, e, l⟩ := H.mus p hp
      exact ⟨i, n, kp _ _ e, l.keeps leg⟩
theorem shut_out {hs h h' : Heap} {a : Addr} (hC : ActOk W C) (h0 : Le C.h₀ hs) (ha0 : C.h₀.get? a = none) (ha89 : ∀ ps, h.get? a ≠ some (tabObj ps)) (hnd : ∀ o es ep, h.get? a = some o → o.data ≠ .dict es ep) (hnc : ∀ w, ¬ h.IsCell a w) (han : a ∉ hid C σ.mu)
    (hnf : ∀ o vs, h.get? a = some o → o.data ≠ .fields vs)
    (H : Hold (C.shut hs a) σ h) (sb : Heap.SameBut a h h') : Hold C σ h' ∧ Le (G (C.shut hs a) σ h) (G C σ h') := by
  have kp : ∀ b o, b ≠ a → h.get? b = some o → h'.get? b = some o := fun b o n e => (sb.2 b n).trans e
  have leg : Le (G (C.shut hs a) σ h) (G C σ h') := hide_mono fun b o n e => ⟨kp b o (fun q => n (q ▸ .head _)) e, fun m => n (.tail _ m)⟩
  have leh : Le C.h₀ (hideAll h' (hid C σ.mu)) := fun b o e => by
    have hb : b ≠ a := fun q => by rw [q, ha0] at e; cases e
    have e2 := H.keep b o (h0 b o e)
    exact get_hide (kp b o hb (of_hideAll _ e2)) (hide_out e2)
  refine ⟨⟨leh, H.nodup, ?_, ?_, ?_, ?_, ?_⟩, leg⟩
  · refine H.tab.keeps (l := [a]) (fun b o n e => kp b o (by simpa using n) e) (fun m => ?_) fun b hb o vs e d => ?_
    · obtain ⟨ps, e, _⟩ := H.tab
      rw [List.mem_singleton.mp m] at e
      exact ha89 ps e
    · rw [List.mem_singleton.mp hb] at e
      exact hnf o vs e d
  · obtain ⟨m, n, b⟩ := H.ns
    refine ⟨m, n.sameBut sb (fun q => ?_), fun x v e1 e2 => let ⟨v', c1, c2⟩ := b x v e1 e2; ⟨v', c1, c2.keeps leg⟩⟩
    obtain ⟨o, es, ep, e, d, _⟩ := n
    rw [q] at e
    exact hnd o es ep e d
  · intro x v e1 e2
    obtain ⟨c, v', c1, ⟨o', c2, c3⟩, c4⟩ := H.cell x v e1 e2
    exact ⟨c, v', c1, ⟨o', kp c _ (fun q => hnc _ ⟨o', q ▸ c2, c3⟩) c2, c3⟩, c4.keeps leg⟩
  · intro c hc hnn
    obtain ⟨w, o', e, d⟩ := H.ownc c hc hnn
    exact ⟨w, o', kp c _ (fun q => han (q ▸ List.mem_cons_of_mem _ (List.mem_append_left _ hc))) e, d⟩
  · intro p hp
    obtain ⟨i, n, e, l⟩ := H.mus p hp
    exact ⟨i, n, kp _ _ (fun q => han (q ▸ List.mem_cons_of_mem _ (List.mem_append_right _ (List.mem_map_of_mem hp)))) e, l.keeps leg⟩

theorem CodeK.shift {C' : Act} {σ' : St} {h h' : Heap} {c' : Addr} {q : Str} (x : CodeK C σ h c' q) (k0 : Le C.h₀ C'.h₀) (k : Le (G C σ h) (G C' σ' h')) : CodeK C' σ' h' c' q :=
  x.imp (fun ⟨o, e, r⟩ => ⟨o, k0 _ _ e, r⟩) fun ⟨o, e, r⟩ => ⟨o, k _ _ e, r⟩
theorem Seen.shut {scope : Scope} {h : Heap} {a : Addr} {mu' : Mu} : ∀ {cl : List (Str × Addr)} {loc : List (Str × V)}, Seen C scope σ cl loc → Seen (C.shut h a) scope ⟨σ.loc, mu'⟩ cl loc
  | _, _, .nil => .nil
  | _, _, .cons hc hl hk hi hn r => .cons hc hl hk hi hn r.shut

/-- keys of one kind -/
inductive KeysOne : List PyData → Prop where
  | kInt (ns : List Int) : KeysOne (ns.map .int)
  | kStr (ns : List Str) : KeysOne (ns.map .str)
noncomputable def kLt : PyData → PyData → Bool
  | .int a, .int b => decide (a < b)
  | .str a, .str b => decide (a.cps.toList < b.cps.toList)
  | _, _ => false
noncomputable def keyAt (b : Bool) (ks : List PyData) (i : Nat) : PyData := (katRev b ks).getD i (ks.headD .none)
noncomputable def keyLt (b : Bool) (ks : List PyData) (i j : Nat) : Bool := kLt (keyAt b ks i) (keyAt b ks j)
theorem kRev_map {α β : Type} (b : Bool) (f : α → β) (l : List α) : katRev b (l.map f) = (katRev b l).map f := by cases b <;> simp [katRev]
theorem lt_neg {a b c : List Nat} (h1 : ¬ a < b) (h2 : ¬ b < c) : ¬ a < c := fun h => by
  have := List.not_lt.mp h1
  have h2' := List.not_lt.mp h2
  exact List.not_lt.mpr (List.le_trans h2' this) h
theorem KeysOne.at (b : Bool) {ks : List PyData} (h : KeysOne ks) : (∃ f : Nat → Int, ∀ i, keyAt b ks i = .int (f i)) ∨ (∃ f : Nat → Str, ∀ i, keyAt b ks i = .str (f i)) ∨ ∀ i, keyAt b ks i = .none := by
  cases h with
  | kInt ns =>
    cases ns with
    | nil => exact .inr (.inr fun i => by cases b <;> rfl)
    | cons n r =>
      refine .inl ⟨fun i => (katRev b (n :: r)).getD i n, fun i => ?_⟩
      unfold keyAt
      rw [kRev_map]
      simp only [List.getD, List.getElem?_map, List.map_cons, List.headD]
      cases (katRev b (n :: r))[i]? <;> rfl
  | kStr ns =>
    cases ns with
    | nil => exact .inr (.inr fun i => by cases b <;> rfl)
    | cons n r =>
      refine .inr (.inl ⟨fun i => (katRev b (n :: r)).getD i n, fun i => ?_⟩)
      unfold keyAt
      rw [kRev_map]
      simp only [List.getD, List.getElem?_map, List.map_cons, List.headD]
      cases (katRev b (n :: r))[i]? <;> rfl
theorem KeysOne.ltOk {b : Bool} {ks : List PyData} (h : KeysOne ks) : LtOk (keyLt b ks) := by
  rcases h.at b with ⟨f, hf⟩ | ⟨f, hf⟩ | hf
  · constructor
    · intro i j h
      unfold keyLt at h ⊢
      rw [hf, hf] at *
      simp [kLt] at h ⊢; lia
    · intro i j k h1 h2
      unfold keyLt at h1 h2 ⊢
      rw [hf, hf] at *
      simp [kLt] at h1 h2 ⊢; lia
  · constructor
    · intro i j h
      unfold keyLt at h ⊢
      rw [hf, hf] at *
      simp only [kLt, decide_eq_true_eq, decide_eq_false_iff_not] at h ⊢
      exact fun q => List.lt_irrefl _ (List.lt_trans h q)
    · intro i j k h1 h2
      unfold keyLt at h1 h2 ⊢
      rw [hf, hf] at *
      simp only [kLt, decide_eq_false_iff_not] at h1 h2 ⊢
      exact lt_neg h1 h2
  · constructor
    · intro i j h
      unfold keyLt at h
      rw [hf, hf] at h
      cases h
    · intro i j k h1 h2
      unfold keyLt
      rw [hf, hf]
      rfl

theorem wp_of_ok {n : Nat} {lt : Nat → Nat → Bool} {s : Shared} {cmp : Nat → Nat → (Bool → Shared → Prop) → Shared → Prop} (hc : ∀ i j (Q : Bool → Shared → Prop), i < n → j < n → Q (lt i j) s → cmp i j Q s) {α : Type} {Q : α → Prop} :
    ∀ {t : KasT α}, KOk n lt Q t → t.kasWp cmp (fun a s' => Q a ∧ s' = s) s
  | .ret a, h => ⟨h, rfl⟩
  | .ask i j k, h => hc i j _ h.1 h.2.1 (wp_of_ok hc h.2.2)

theorem Rds.rev {h : Heap} {vs : List Value} {ds : List PyData} (b : Bool) (r : Rds h vs ds) : Rds h (katRev b vs) (katRev b ds) := by
  cases b with
  | false => exact r
  | true =>
    show Rds h vs.reverse ds.reverse
    induction vs generalizing ds with
    | nil => cases ds with
      | nil => exact .nil
      | cons _ _ => have := r.len; simp at this
    | cons v vs ih => cases ds with
      | nil => have := r.len; simp at this
      | cons d ds =>
        rw [List.reverse_cons, List.reverse_cons]
        exact (ih r.inv.2).append (.cons r.inv.1 .nil)
theorem Rds.pick {h : Heap} {vs : List Value} {ds : List PyData} (r : Rds h vs ds) : ∀ p : List Nat, Rds h (p.map fun i => vs.getD i .none) (p.map fun i => ds.getD i .none)
  | [] => .nil
  | i :: p => .cons (by
      have hl := r.len
      simp only [List.getD]
      cases e : ds[i]? with
      | some d => obtain ⟨v, ev, rv⟩ := r.get i e; rw [ev]; exact rv
      | none =>
        have : vs[i]? = none := by rw [List.getElem?_eq_none_iff] at e ⊢; lia
        rw [this]; exact Rd.none) (r.pick p)
/-- what the sort gives -/
noncomputable def outOf (b : Bool) (ds : List PyData) (p : List Nat) : List PyData := katRev b (p.map fun i => (katRev b ds).getD i .none)

theorem keys_kind {M : Model} {h0 : Heap} {s : Shared} {vs : List Value} {ks : List PyData} {Q : SortKind → Shared → Prop} (hk : KeysOne ks) (r : Rds h0 vs ks) (h2 : 2 ≤ vs.length) (q : Q oneType' s) : wpAny M A (keyKind' vs.toArray) Q NoE s := by
  cases hk with
  | kInt ns =>
    refine kas_kind (T := .type "int") h2 (fun v hv => ?_) rfl rfl q
    have : ∃ n t, v = .int n t := by
      clear h2
      induction vs generalizing ns with
      | nil => cases hv
      | cons w vs ih => cases ns with
        | nil => have := r.len; simp at this
        | cons n ns =>
          rcases List.mem_cons.mp hv with rfl | hv
          · obtain ⟨t, e⟩ := r.inv.1.int_inv; exact ⟨n, t, e⟩
          · exact ih ns r.inv.2 hv
    obtain ⟨n, t, rfl⟩ := this
    exact Looks.of_pure rfl
  | kStr ns =>
    refine kas_kind (T := .type "str") h2 (fun v hv => ?_) rfl rfl q
    have : ∃ n t, v = .str n t := by
      clear h2
      induction vs generalizing ns with
      | nil => cases hv
      | cons w vs ih => cases ns with
        | nil => have := r.len; simp at this
        | cons n ns =>
          rcases List.mem_cons.mp hv with rfl | hv
          · obtain ⟨t, e⟩ := r.inv.1.str_inv; exact ⟨n, t, e⟩
          · exact ih ns r.inv.2 hv
    obtain ⟨n, t, rfl⟩ := this
    exact Looks.of_pure rfl
theorem KeysOne.two {ks : List PyData} (hk : KeysOne ks) {i j : Nat} {x y : PyData} (hx : ks[i]? = some x) (hy : ks[j]? = some y) : (∃ a b, x = .int a ∧ y = .int b) ∨ ∃ a b, x = .str a ∧ y = .str b := by
  cases hk with
  | kInt ns =>
    rw [List.getElem?_map] at hx hy
    cases e1 : ns[i]? with
    | none => rw [e1] at hx; cases hx
    | some a =>
      cases e2 : ns[j]? with
      | none => rw [e2] at hy; cases hy
      | some b =>
        rw [e1] at hx; rw [e2] at hy
        cases hx; cases hy
        exact .inl ⟨a, b, rfl, rfl⟩
  | kStr ns =>
    rw [List.getElem?_map] at hx hy
    cases e1 : ns[i]? with
    | none => rw [e1] at hx; cases hx
    | some a =>
      cases e2 : ns[j]? with
      | none => rw [e2] at hy; cases hy
      | some b =>
        rw [e1] at hx; rw [e2] at hy
        cases hx; cases hy
        exact .inr ⟨a, b, rfl, rfl⟩
theorem KeysOne.rev {ks : List PyData} (b : Bool) (hk : KeysOne ks) : KeysOne (katRev b ks) := by
  cases hk with
  | kInt ns => rw [kRev_map]; exact .kInt _
  | kStr ns => rw [kRev_map]; exact .kStr _
theorem keys_ask {prog : Program} {w : World} {h0 : Heap} {s : Shared} {vs : List Value} {ks : List PyData} {b : Bool} {i j : Nat} {Q : Bool → Shared → Prop} (hk : KeysOne ks) (r : Rds h0 vs ks) (hi : i < vs.length) (hj : j < vs.length) (q : Q (keyLt b ks i j) s) :
    kas_ask prog w A oneType' (katRev b vs) i j Q s := by
  have r' := r.rev b
  have hl := r'.len
  have hvl := kat_len b vs
  have hi' : i < (katRev b ks).length := by lia
  have hj' : j < (katRev b ks).length := by lia
  obtain ⟨v, ev, rv⟩ := r'.get i (List.getElem?_eq_getElem hi')
  obtain ⟨u, eu, ru⟩ := r'.get j (List.getElem?_eq_getElem hj')
  have eq : keyLt b ks i j = kLt (katRev b ks)[i] (katRev b ks)[j] := by
    unfold keyLt keyAt
    simp only [List.getD]
    rw [List.getElem?_eq_getElem hi', List.getElem?_eq_getElem hj']
    rfl
  rw [eq] at q
  unfold kas_ask
  simp only [List.getD]
  rw [ev, eu]
  show wpAny _ _ (keyLt' oneType' v u) _ _ _
  rcases (hk.rev b).two (List.getElem?_eq_getElem hi') (List.getElem?_eq_getElem hj') with ⟨a, c, e1, e2⟩ | ⟨a, c, e1, e2⟩
  · rw [e1] at rv q; rw [e2] at ru q
    obtain ⟨t1, rfl⟩ := rv.int_inv
    obtain ⟨t2, rfl⟩ := ru.int_inv
    exact kat_lt_int q
  · rw [e1] at rv q; rw [e2] at ru q
    obtain ⟨t1, rfl⟩ := rv.str_inv
    obtain ⟨t2, rfl⟩ := ru.str_inv
    exact kas_lt_str q
end

end Mine
namespace Mine
section
variable {W : Wd} {A : Around} {C : Act} {σ : St} {k : V → St → Prop}
/-- the pairs put in order -/
theorem end_sort {a : Addr} {b : Bool} {vs kvs : List Value} {ds ks : List PyData} {h0 : Heap} {e1 : Nat} {kS : Value} {P : PySem.Fin → Shared → Prop} {s : Shared}
    (hk : KeysOne ks) (rk : Rds h0 kvs ks) (hl : kvs.length = vs.length) (h64 : vs.length < 64)
    (h : ∀ (p : List Nat) (st : SortSt), p.Perm (List.range vs.length) → p.Pairwise (sl (keyLt b ks)) → failedOf st = none → (arrOf st).map (·.2) = List.toArray (p.map fun i => (katRev b vs).getD i .none) →
      wpAny W.M A (ksk_tail a b e1 kS st) P NoE s) : wpAny W.M A (ksk_end a b vs.toArray e1 kS kvs.toArray) P NoE s := by
  have step : ∀ t : Sem PySem.Fin, wpAny W.M A t P NoE s → wpAny W.M A (if b = true then (do let _ ← rule "list.sort.reverse"; t) else t) P NoE s := by
    intro t ht
    split
    · exact wpAny_bind (wpAny_rule ht)
    · exact ht
  have hlr : (katRev b kvs).length = (katRev b vs).length := by rw [kat_len, kat_len, hl]
  unfold ksk_end
  try dsimp only
  refine step _ ?_
  by_cases h2 : vs.toArray.size < 2
  · rw [if_pos h2, if_pos h2]
    refine wpAny_bind (wpAny_pure ?_)
    rw [StateT.run_pure]
    refine wpAny_bind (wpAny_pure ?_)
    try dsimp only
    rw [kat_pairs b hl]
    rw [List.size_toArray] at h2
    refine h (List.range vs.length) _ (.refl _) ?_ rfl ?_
    · rcases Nat.lt_or_ge vs.length 1 with q | q
      · rw [show vs.length = 0 by lia]; exact .nil
      · rw [show vs.length = 1 by lia]; exact List.pairwise_singleton _ _
    · have e : (List.toArray (katRev b kvs)).zip (List.toArray (katRev b vs)) = (List.toArray (List.range vs.length)).map (kas_item ((List.toArray (katRev b kvs)).zip (List.toArray (katRev b vs)))) := by
        have := kas_range ((List.toArray (katRev b kvs)).zip (List.toArray (katRev b vs)))
        rw [Array.size_zip, List.size_toArray, List.size_toArray, kat_len, kat_len, hl, Nat.min_self] at this
        exact this.symm
      have := kat_snds hlr (st := SortSt.mk' general' ((List.toArray (katRev b kvs)).zip (List.toArray (katRev b vs))) #[] 7 none) (p := List.toArray (List.range vs.length)) e
      exact this
  · rw [if_neg h2, if_neg h2]
    rw [List.size_toArray] at h2
    refine wpAny_bind (keys_kind hk rk (by lia) ?_)
    rw [kat_pairs b hl]
    have ok := sort_ok (n := vs.length) (hk.ltOk (b := b)) (Q := fun p => p.toList.Perm (List.range vs.length) ∧ p.toList.Pairwise (sl (keyLt b ks))) (by lia) fun p h1 h2 => ⟨h1, h2⟩
    have wp := wp_of_ok (cmp := kas_ask W.prog W.w A oneType' (katRev b kvs)) (s := s) (fun i j Q hi hj q => keys_ask hk rk (by lia) (by lia) q) ok
    refine wpAny_bind (wpAny_mono (kat_run (Q := fun st' s' => ∃ p : Array Nat, A4 (arrOf st' = p.map (kas_item ((List.toArray (katRev b kvs)).zip (List.toArray (katRev b vs))))) (failedOf st' = none) ((p.toList.Perm (List.range vs.length) ∧ p.toList.Pairwise (sl (keyLt b ks)))) (s' = s))
      (G := fun p s' => (p.toList.Perm (List.range vs.length) ∧ p.toList.Pairwise (sl (keyLt b ks))) ∧ s' = s) hlr (by rw [kat_len]; lia) (by rw [kat_len]; exact h64) (fun p' st' s' a1 a2 a3 a4 => ⟨p', a2, a3, a4.1, a4.2⟩) (by rw [kat_len]; exact wp)) ?_ fun _ _ x => x)
    rintro ⟨⟨⟩, st'⟩ s' ⟨p, har, hf, ⟨hp, hs⟩, rfl⟩
    try dsimp only
    exact h p.toList st' hp hs hf (kat_snds hlr har)

theorem LayVs.take {h : Heap} : ∀ {vs : List Value} {xs : List V} (n : Nat), LayVs h vs xs → LayVs h (vs.take n) (xs.take n)
  | _, _, 0, _ => by simpa using LayVs.nil
  | [], [], _ + 1, r => r
  | _ :: _, _ :: _, n + 1, .cons a b => .cons a (b.take n)
theorem Rds.of_lay {h : Heap} : ∀ {vs : List Value} {ds : List PyData}, LayVs h vs (ds.map V.dat) → Rds h vs ds := fun l => l.dats

/-- what a key's call does -/
noncomputable def KeyFn (W : Wd) (A : Around) (C : Act) (σ : St) (h : Heap) (f : Value) (ds : List PyData) (key : PyData → PyData) : Prop :=
  ∀ (hs : Heap) (a : Addr) (mu' : Mu) (s' : Shared) (v : Value) (d : PyData), ActOk W (C.shut hs a) → Le C.h₀ hs → Hold (C.shut hs a) ⟨σ.loc, mu'⟩ s'.heap → Le (G C σ h) (G (C.shut hs a) ⟨σ.loc, mu'⟩ s'.heap) → d ∈ ds → Rd (G (C.shut hs a) ⟨σ.loc, mu'⟩ s'.heap) v d →
    wpAny W.M A (call f [v]) (Post (C.shut hs a) ⟨σ.loc, mu'⟩ s' fun y σ' => y = .dat (key d) ∧ σ' = ⟨σ.loc, mu'⟩) NoE s'

/-- list.sort with a key: the list stands as a fresh object -/
theorem tree_sort {a : Addr} {b : Bool} {f : Value} {vs : List Value} {ds : List PyData} {key : PyData → PyData} {n0 : Nat} {P : PySem.Fin → Shared → Prop} {s s0 : Shared}
    (hC : ActOk W C) (H : Hold C σ s0.heap) (hs : s = { s0 with heap := s0.heap.push (seqObj "list" vs.toArray n0) }) (ea : a = s0.heap.objs.size) (r : Rds (G C σ s0.heap) vs ds) (h64 : vs.length < 64) (hk : KeysOne (ds.map key)) (hf : KeyFn W A C σ s0.heap f ds key)
    (h : ∀ (p : List Nat) s', p.Perm (List.range ds.length) → p.Pairwise (sl (keyLt b (ds.map key))) → Sm s0 s' → Hold C σ s'.heap → Le (G C σ s0.heap) (G C σ s'.heap) → Rd (G C σ s'.heap) (.ref a) (.list (outOf b ds p)) → P (.done (.ret .none)) s') :
    wpAny W.M A (ksk_tree a f b) P NoE s := by
  subst hs
  have ha0 : s0.heap.get? a = none := by
    cases e : s0.heap.get? a with
    | none => rfl
    | some o => exact absurd (Heap.lt_size e) (by rw [ea]; exact Nat.lt_irrefl _)
  have hah : a ∉ hidl C σ.mu := fun m => Nat.lt_irrefl _ (ea ▸ H.lt hC _ m)
  have hah' : a ∉ hid C σ.mu := fun m => hah (List.mem_append_right _ m)
  have ho : (s0.heap.push (seqObj "list" vs.toArray n0)).get? a = some (seqObj "list" vs.toArray n0) := by rw [ea]; exact Heap.get?_push_size _ rfl
  have s1 := Heap.SameBut.update (s0.heap.push (seqObj "list" vs.toArray n0)) a (Obj.mapSeq fun _ => (#[] : Array Value))
  obtain ⟨e1, ho1⟩ : ∃ e1, ((s0.heap.push (seqObj "list" vs.toArray n0)).update a (Obj.mapSeq fun _ => (#[] : Array Value))).get? a = some (seqObj "list" #[] e1) := ⟨_, get?_update_seq ho fun _ => #[]⟩
  have le0 : Le s0.heap ((s0.heap.push (seqObj "list" vs.toArray n0)).update a (Obj.mapSeq fun _ => (#[] : Array Value))) := fun x o e =>
    (s1.2 x (fun q => by rw [q, ha0] at e; cases e)).trans (Heap.get?_push_of_some _ e)
  unfold ksk_tree
  refine wpAny_bind (listItems_at ho rfl ?_)
  refine wpAny_bind (listUpdate_at ho rfl ?_ (by rw [List.size_toArray, sizeLine_eq]; lia) (Nat.zero_le _))
  refine wpAny_bind (seqEpoch_at ho1 rfl ?_)
  refine wpAny_bind (wpAny_newTuple ?_ (by show vs.length ≤ _; rw [sizeLine_eq]; lia))
  generalize hh2 : ((s0.heap.push (seqObj "list" vs.toArray n0)).update a (Obj.mapSeq fun _ => (#[] : Array Value))).push { cls := .type "tuple", data := .seq vs.toArray.toList.toArray } = h2
  have le2 : Le s0.heap h2 := fun x o e => by rw [← hh2]; exact Heap.get?_push_of_some _ (le0 x o e)
  have ho2 : h2.get? a = some (seqObj "list" #[] e1) := by rw [← hh2]; exact Heap.get?_push_of_some _ ho1
  obtain ⟨hC', H2, leg2, leh0⟩ := shut_in hC H le2 ha0 ho2 hah
  generalize hhs : hideAll h2 (hid C σ.mu) = hs at *
  have st : hs.get? a = some (seqObj "list" #[] e1) := by rw [← hhs]; exact get_hide ho2 hah'
  refine wpAny_bind (wpAny_newList ?_ (Nat.zero_le _))
  refine wpAny_holding ?_
  obtain ⟨H3, le3⟩ := H2.newMu (s := { s0 with heap := h2 }) (vs := []) (xs := []) hC' .nil
  generalize hkS : h2.objs.size = kS at *
  generalize hh3 : h2.push { cls := .type "list", data := .seq ([] : List Value).toArray } = h3 at *
  unfold ksk_rest
  refine wpAny_bind (wpAny_rule ?_)
  first
    | rw [List.forIn_toArray]
    | (rw [← Array.forIn_toList]; simp only [List.toList_toArray])
    | rw [← Array.forIn_toList]
  have leg3 := leg2.trans le3
  refine wpAny_bind (ksk_fold (fun i s' => Sm s0 s' ∧ Hold (C.shut hs a) ⟨σ.loc, (kS, ((ds.map key).take i).map V.dat) :: σ.mu⟩ s'.heap ∧ Le (G C σ s0.heap) (G (C.shut hs a) ⟨σ.loc, (kS, ((ds.map key).take i).map V.dat) :: σ.mu⟩ s'.heap)) vs 0 _
    ⟨⟨_, _, rfl⟩, by simpa using H3, by simpa using leg3⟩ ?step ?done)
  case step =>
    rintro j x s' hx ⟨sm, Hj, lej⟩
    simp only [Nat.zero_add] at Hj lej ⊢
    have hjl : j < vs.length := (List.getElem?_eq_some_iff.mp hx).1
    have hjd : j < ds.length := by rw [← r.len]; exact hjl
    obtain ⟨v, ev, rv⟩ := r.get j (List.getElem?_eq_getElem hjd)
    rw [hx] at ev; cases ev
    refine wpAny_bind (wpAny_attempt (wpAny_mono (hf hs a _ s' x ds[j] hC' leh0 Hj lej (List.getElem_mem hjd) (rv.keeps lej)) (fun kv s'' hqq => ?_) fun _ _ hF => hF.elim))
    obtain ⟨y, σ', ⟨ey, eσ⟩, sm', H', le', l'⟩ := hqq
    subst ey; subst eσ
    try dsimp only
    obtain ⟨its, n, ek, lk⟩ := H'.mus _ (.head _)
    have hsz : its.size ≤ 64 := by
      have := lk.len
      rw [Array.length_toList] at this
      rw [this]; simp; lia
    have s2 := Heap.SameBut.update s''.heap kS (Obj.mapSeq (·.push kv))
    obtain ⟨c2, hc2⟩ : ∃ c2, (s''.heap.update kS (Obj.mapSeq (·.push kv))).get? kS = some (listOf (its.push kv) c2) := get_mapSeq ek
    have ek' : (ds.map key).take (j + 1) = (ds.map key).take j ++ [key ds[j]] := by rw [List.take_add_one]; simp [hjd]
    have lay : LayVs (G (C.shut hs a) ⟨σ.loc, (kS, ((ds.map key).take j).map V.dat) :: σ.mu⟩ s''.heap) (its.push kv).toList (((ds.map key).take (j + 1)).map V.dat) := by
      rw [ek', List.map_append, Array.toList_push]
      exact lk.append (.cons l' .nil)
    obtain ⟨H4, le4⟩ := H'.setMu hC' (.head _) s2 hc2 lay
    have nk : kS ∉ keys σ.mu := (List.nodup_cons.mp H'.mund).1
    have emu : Mine.setMu kS (((ds.map key).take (j + 1)).map V.dat) ((kS, ((ds.map key).take j).map V.dat) :: σ.mu) = (kS, ((ds.map key).take (j + 1)).map V.dat) :: σ.mu := by
      exact setMu_hit nk
    rw [emu] at H4 le4
    refine wpAny_bind (listUpdate_at ek rfl ?_ (by rw [sizeLine_eq]; lia) (Nat.le_trans (Nat.le_of_eq (Array.size_push ..)) (by rw [sizeLine_eq]; lia)))
    exact wpAny_pure ⟨rfl, sm.trans (sm'.trans ⟨_, s''.toks, rfl⟩), H4, lej.trans (le'.trans le4)⟩
  case done =>
    rintro s' ⟨sm, He, lee⟩
    have hlen := r.len
    have tk : (ds.map key).take (0 + vs.length) = ds.map key := List.take_of_length_le (by rw [List.length_map]; lia)
    rw [tk] at He lee
    obtain ⟨its, n, ek, lk⟩ := He.mus _ (.head _)
    have hsz : its.toList.length = vs.length := by rw [lk.len, List.length_map, List.length_map]; lia
    try dsimp only
    refine wpAny_bind (listItems_at ek rfl ?_)
    have eits : its = its.toList.toArray := (Array.toArray_toList).symm
    rw [eits]
    refine end_sort (ds := ds) hk lk.dats hsz h64 fun p st' hp hps hfl hout => ?_
    have nk : kS ∉ keys σ.mu := (List.nodup_cons.mp He.mund).1
    have s2 := Heap.SameBut.update s'.heap kS (Obj.mapSeq fun _ => (#[] : Array Value))
    obtain ⟨c2, hc2⟩ : ∃ c2, (s'.heap.update kS (Obj.mapSeq fun _ => (#[] : Array Value))).get? kS = some (listOf #[] c2) := get_mapSeq (f := fun _ => (#[] : Array Value)) ek
    obtain ⟨H4, le4⟩ := He.setMu (ys := []) hC' (.head _) s2 hc2 .nil
    rw [setMu_hit nk] at H4 le4
    have hka : a ≠ kS := fun q => by
      have := Heap.lt_size ho2
      rw [q, ← hkS] at this
      exact Nat.lt_irrefl _ this
    have ga : (s'.heap.update kS (Obj.mapSeq fun _ => (#[] : Array Value))).get? a = some (seqObj "list" #[] e1) := hide_le _ _ (H4.keep _ _ st)
    have s3 := Heap.SameBut.update (s'.heap.update kS (Obj.mapSeq fun _ => (#[] : Array Value))) a (Obj.mapSeq fun _ => List.toArray (katRev b (p.map fun i => (katRev b vs).getD i .none)))
    obtain ⟨c3, hc3⟩ : ∃ c3, ((s'.heap.update kS (Obj.mapSeq fun _ => (#[] : Array Value))).update a (Obj.mapSeq fun _ => List.toArray (katRev b (p.map fun i => (katRev b vs).getD i .none)))).get? a = some (seqObj "list" (List.toArray (katRev b (p.map fun i => (katRev b vs).getD i .none))) c3) :=
      ⟨_, get?_update_seq ga fun _ => List.toArray (katRev b (p.map fun i => (katRev b vs).getD i .none))⟩
    have hpl : p.length = vs.length := by rw [hp.length_eq, List.length_range]
    have hsz3 : (List.toArray (katRev b (p.map fun i => (katRev b vs).getD i Value.none))).size = vs.length := by rw [List.size_toArray, kat_len, List.length_map, hpl]
    unfold ksk_tail
    try dsimp only
    rw [hout, kat_outs]
    refine wpAny_bind (listUpdate_at ek rfl ?_ (by rw [← Array.length_toList, hsz, sizeLine_eq]; lia) (Nat.zero_le _))
    refine wpAny_bind (wpAny_letGo ?_)
    refine wpAny_bind (seqEpoch_at ga rfl ?_)
    refine wpAny_bind (listUpdate_at ga rfl ?_ (Nat.zero_le _) (Nat.le_trans (Nat.le_of_eq hsz3) (by rw [sizeLine_eq]; lia)))
    rw [hfl]
    simp only [bne_self_eq_false, Bool.false_eq_true, if_false]
    have c0 : C.h₀.get? a = none := by
      cases e : C.h₀.get? a with
      | none => rfl
      | some o => have := hide_le _ _ (H.keep _ _ e); rw [ha0] at this; cases this
    have han : a ∉ hid C ((kS, []) :: σ.mu) := fun m => by
      rcases List.mem_cons.mp m with q | m
      · exact hah' (q ▸ .head _)
      · rcases List.mem_append.mp m with m | m
        · exact hah' (.tail _ (List.mem_append_left _ m))
        · rcases List.mem_cons.mp m with q | m
          · exact hka q
          · exact hah' (.tail _ (List.mem_append_right _ m))
    obtain ⟨H5, le5⟩ := shut_out (σ := ⟨σ.loc, (kS, []) :: σ.mu⟩) hC leh0 c0 (fun ps e => by rw [ga] at e; cases e) (fun o es ep e d => by rw [ga] at e; cases e; cases d) (fun w ⟨o, e, d⟩ => by rw [ga] at e; cases e; cases d) han
      (fun o vs e d => by rw [ga] at e; cases e; cases d) H4 s3
    obtain ⟨H6, le6⟩ := View.drop hC _ H5
    have leAll : Le (G C σ s0.heap) (G C σ ((s'.heap.update kS (Obj.mapSeq fun _ => (#[] : Array Value))).update a (Obj.mapSeq fun _ => List.toArray (katRev b (p.map fun i => (katRev b vs).getD i .none))))) :=
      lee.trans (le4.trans (le5.trans le6))
    refine wpAny_pure (h p _ (hlen ▸ hp) hps (sm.trans ⟨_, s'.toks, rfl⟩) H6 leAll ?_)
    exact Rd.list ⟨_, get_hide hc3 hah, rfl, c3, rfl⟩ ((((r.keeps leAll).rev b).pick p).rev b)
/-- sorted(l, key=f[, reverse=b]) -/
theorem sorted_call {l : Addr} {b : Bool} {f : Value} {kw : List (Str × Value)} {ds : List PyData} {key : PyData → PyData} {s : Shared} (hC : ActOk W C) (H : Hold C σ s.heap) (hl : Rd (G C σ s.heap) (.ref l) (.list ds)) (h64 : ds.length < 64)
    (ha1 : argsOk "sorted" ⟨[.ref l], kw⟩) (ha2 : ∀ x, argsOk "list.sort" ⟨[.ref x], kw⟩) (ht : ∀ x, Builtin.«list.sort» ⟨[.ref x], kw⟩ = ksk_tree x f b)
    (hk : KeysOne (ds.map key)) (hf : ∀ h, Le (G C σ s.heap) (G C σ h) → KeyFn W A.in1.in1 C σ h f ds key)
    (h : ∀ p : List Nat, p.Perm (List.range ds.length) → p.Pairwise (sl (keyLt b (ds.map key))) → k (.dat (.list (outOf b ds p))) σ) :
    wpAny W.M A (call (.builtin "sorted") [.ref l] kw) (Post C σ s k) NoE s := by
  obtain ⟨a0, vs, e0, il, r⟩ := hl.list_inv
  cases e0
  have hlen := r.len
  refine call_function_entry_kw kind_sorted plain_sorted entry_sorted ha1 ?_
  unfold Builtin.«sorted»
  refine wpAny_bind (m := checkCount "sorted" 1 1 _) (wpAny_pure ?_)
  refine wpAny_bind (collect_list (up_list il) ?_ (by rw [sizeLine_eq]; lia))
  refine wpAny_bind (wpAny_newList ?_ (by rw [sizeLine_eq]; lia))
  have keep : Le s.heap ((s.heap.push (seqObj "list" #[] 0)).update s.heap.objs.size (Obj.mapSeq (· ++ vs.toArray))) := fun b o q => by
    have hlt : b < s.heap.objs.size := Heap.lt_size q
    rw [Heap.get?_update_ne _ _ _ _ (Nat.ne_of_lt hlt), Heap.get?_push_ne _ _ _ (Nat.ne_of_lt hlt)]
    exact q
  generalize (s.heap.push (seqObj "list" #[] 0)).update s.heap.objs.size (Obj.mapSeq (· ++ vs.toArray)) = h1 at keep ⊢
  obtain ⟨m, hm, _⟩ := H.ns
  obtain ⟨H1, le1⟩ := H.step (s' := { s with heap := h1 }) hC hm (.of_le ⟨h1, s.toks, rfl⟩ hm keep)
  have ho : (h1.push (seqObj "list" vs.toArray 0)).get? h1.objs.size = some (seqObj "list" vs.toArray 0) := Heap.get?_push_size _ rfl
  show wpAny _ _ _ _ _ { s with heap := h1.push (seqObj "list" vs.toArray 0) }
  refine wpAny_bind (wpAny_holding (wpAny_call_entry_kw slot_list_sort ⟨_, ho, rfl⟩ entry_list_sort ?body (ha2 _)))
  show wpAny W.M A.in1.in1 (Builtin.«list.sort» ⟨[.ref h1.objs.size], kw⟩) _ _ _
  rw [ht h1.objs.size]
  refine tree_sort (s0 := { s with heap := h1 }) hC H1 rfl rfl (r.keeps le1) (by lia) hk (hf h1 le1) fun p s' hp hs sm H' le' rd => ?_
  exact ⟨_, rfl, wpAny_pure ⟨_, rfl, .dat (.list (outOf b ds p)), σ, h p hp hs, .trans ⟨h1, s.toks, rfl⟩ sm, H', le1.trans le', rd⟩⟩

/-- what a lambda's text is to be -/
structure LamT (C : Act) (σ : St) (params : Arguments) (scope : Scope) (x : Str) (cl : List (Str × Addr)) (locI : List (Str × V)) : Prop where
  code : C.env.code = .ref 91
  qual : C.env.qual ++ "<lambda>" = QUAL
  clo : closureFor scope C.env = pure cl
  defs : defaultsOf params C.env = ([], [])
  bind : ∀ body pm c' ctv v, bindArgs (kla_fn "<lambda>" QUAL params body scope cl pm c' ctv) ⟨[v], []⟩ = pure [(x, v)]
  kind : scope.kind = .function
  co : scope.isCoroutine = false
  gen : scope.isGenerator = false
  seen : Seen C scope σ cl locI
  lk : scope.names.lookup x = some .local
theorem lam_key {params : Arguments} {body : Expr} {scope : Scope} {x : Str} {cl : List (Str × Addr)} {locI : List (Str × V)} {f c' : Addr} {pm ctv : Value} {ds : List PyData} {key : PyData → PyData} {h : Heap} {d : Nat}
    (T : LamT C σ params scope x cl locI) (hr : Rm (d + 1) A) (hf : (G C σ h).get? f = some (kla_obj "<lambda>" QUAL params body scope cl pm c' ctv)) (hcd : CodeK C σ h c' QUAL)
    (hB : ∀ L' h₀ l A' mu' e, ActOk W (lamAct C scope cl QUAL f c' L' h₀ l) → Rm d A' → e ∈ ds → WE W A' (lamAct C scope cl QUAL f c' L' h₀ l) body ⟨setL x (.dat e) locI, mu'⟩ fun y σ' => y = .dat (key e) ∧ σ'.mu = mu') :
    KeyFn W A C σ h (.ref f) ds key := fun hs a mu' s' v e hC' le0 H' leg hm rv => by
  refine lam_call (locI := locI) (xv := .dat e) hC' hr H' (hide_le _ _ (leg _ _ hf)) ((hcd.shift le0 leg).rec' H') (T.bind ..) T.kind T.co T.gen T.seen.shut T.lk rv fun L' h₀ l hCl hrl => ?_
  exact (hB L' h₀ l _ mu' e hCl hrl hm).mono fun y σ' ⟨q1, q2⟩ => ⟨q1, by rw [q2]⟩

theorem WEs.one' {pos : Pos} {e : Expr} {kk : V → St → Prop} (h : WE W A C e σ kk) (he : starEach [e] C.env = [(false, eval e C.env)]) : WEs W A C pos [e] σ fun xs σ1 => ∃ y, xs = [y] ∧ kk y σ1 :=
  WEs.one (h.mono fun y σ1 q => ⟨y, rfl, q⟩) he
theorem CallKw_ {M : Model} {A : Around} {E : Value → Shared → Prop} {env : Env} {s : Shared} {x : Str} {np : Pos} {args : List Expr} {kws : List Keyword} {pos : Pos} {Q : Value → Shared → Prop}
    (h : wpAny M A (eval (.Name x np) env) (fun f s₁ => wpAny M A (callWith pos f [] (backTo pos (starEach args env)) (backToKw pos (keywordEach kws env))) Q E s₁) E s) : wpAny M A (eval (.Call (.Name x np) args kws pos) env) Q E s := by
  have he : eval (.Call (.Name x np) args kws pos) env = (do callWith pos (← eval (.Name x np) env) [] (backTo pos (starEach args env)) (backToKw pos (keywordEach kws env))) := by rfl
  rw [he]; exact wpAny_bind h
noncomputable def kwKey (params : Arguments) (body : Expr) (scope : Scope) (lpos kp : Pos) : Keyword := ⟨some (Str.ofString "key"), .Lambda params body scope lpos, kp⟩
theorem WE.sortedKey {np pos lpos kp : Pos} {e : Expr} {params : Arguments} {body : Expr} {scope : Scope} {x : Str} {cl : List (Str × Addr)} (hC : ActOk W C) (hr : Rm 12 A) (hb : Blt W (Str.ofString "sorted"))
    (h : WE W A C e σ fun y σ1 => Ex3 fun ds key locI => A6 (y = .dat (.list ds)) (ds.length < 64) (KeysOne (ds.map key)) (LamT C σ1 params scope x cl locI) ((∀ f c' L' h₀ l A' mu' d, ActOk W (lamAct C scope cl QUAL f c' L' h₀ l) → Rm 10 A' → d ∈ ds → WE W A' (lamAct C scope cl QUAL f c' L' h₀ l) body ⟨setL x (.dat d) locI, mu'⟩ fun y σ' => y = .dat (key d) ∧ σ'.mu = mu')) (∀ p : List Nat, p.Perm (List.range ds.length) → p.Pairwise (sl (keyLt false (ds.map key))) → k (.dat (.list (outOf false ds p))) σ1))
    (hx : C.env.kindOf (Str.ofString "sorted") = some .globalImplicit := by rfl) (he : starEach [e] C.env = [(false, eval e C.env)] := by rfl) :
    WE W A C (.Call (.Name (Str.ofString "sorted") np) [e] [kwKey params body scope lpos kp] pos) σ k := fun s H => by
  have hE := WEs.one' (pos := pos) h he
  refine CallKw_ (blt_val hC (H.stat hC) hide_le hb PyProof.Rows.Boot.sorted (callWith_kw (kws := [kwKey params body scope lpos kp]) (wpAny_mono (hE s H) (fun vs s1 hqq => ?_) fun _ _ e => e) (by rw [he]; rfl) (by rw [he]; rfl)) hx (by decide) (by decide))
  obtain ⟨xs, σ1, ⟨y, exs, ds, key, locI, ey, h64, hk, T, hB, hq⟩, sm1, H1, le1, l1⟩ := hqq
  subst exs; subst ey
  obtain ⟨v, rfl, lv⟩ := l1.one
  refine PyProof.Rows.kws_cons (lam_make hC H1 T.code T.qual T.clo T.defs fun f c' pm ctv s2 sm2 H2 le2 hf hcd => PyProof.Rows.kws_nil ?_)
  obtain ⟨l, rfl⟩ : ∃ l, v = .ref l := by obtain ⟨a, _, e, _⟩ := Rd.list_inv lv; exact ⟨a, e⟩
  refine wpAny_mono (sorted_call (b := false) (kw := [(Str.ofString "key", .ref f)]) hC H2 (lv.keeps le2) h64 (ksk_s1 _ _) (fun _ => ksk_l1 _ _) (fun _ => ksk_t1 _ _) hk (fun h' leh => ?_) hq) (fun u s3 p => p.lift (sm1.trans sm2) (le1.trans le2)) fun _ _ e => e
  exact lam_key (d := 10) T ⟨by have := hr.depth; show A.depth + (10 + 1) ≤ 900; lia, by have := hr.units; show A.units + 1 + 1 + 10 * (10 + 1) ≤ 9000; lia, hr.handled⟩ (leh _ _ hf) (hcd.keeps leh) fun L' h₀ l A' mu' d => hB f c' L' h₀ l A' mu' d
/-- with reverse -/
theorem WE.sortedKeyRev {np pos lpos kp kp2 : Pos} {e e2 : Expr} {params : Arguments} {body : Expr} {scope : Scope} {x : Str} {cl : List (Str × Addr)} (hC : ActOk W C) (hr : Rm 12 A) (hb : Blt W (Str.ofString "sorted"))
    (h : WE W A C e σ fun y σ1 => Ex3 fun ds key locI => A6 (y = .dat (.list ds)) (ds.length < 64) (KeysOne (ds.map key)) (LamT C σ1 params scope x cl locI) ((∀ f c' L' h₀ l A' mu' d, ActOk W (lamAct C scope cl QUAL f c' L' h₀ l) → Rm 10 A' → d ∈ ds → WE W A' (lamAct C scope cl QUAL f c' L' h₀ l) body ⟨setL x (.dat d) locI, mu'⟩ fun y σ' => y = .dat (key d) ∧ σ'.mu = mu')) (WE W A C e2 σ1 fun z σ2 => ∃ b, A3 (z = .dat (.bool b)) (σ2 = σ1) (∀ p : List Nat, p.Perm (List.range ds.length) → p.Pairwise (sl (keyLt b (ds.map key))) → k (.dat (.list (outOf b ds p))) σ1)))
    (hx : C.env.kindOf (Str.ofString "sorted") = some .globalImplicit := by rfl) (he : starEach [e] C.env = [(false, eval e C.env)] := by rfl) :
    WE W A C (.Call (.Name (Str.ofString "sorted") np) [e] [kwKey params body scope lpos kp, ⟨some (Str.ofString "reverse"), e2, kp2⟩] pos) σ k := fun s H => by
  have hE := WEs.one' (pos := pos) h he
  refine CallKw_ (blt_val hC (H.stat hC) hide_le hb PyProof.Rows.Boot.sorted (callWith_kw (kws := [kwKey params body scope lpos kp, ⟨some (Str.ofString "reverse"), e2, kp2⟩]) (wpAny_mono (hE s H) (fun vs s1 hqq => ?_) fun _ _ e => e) (by rw [he]; rfl) (by rw [he]; rfl)) hx (by decide) (by decide))
  obtain ⟨xs, σ1, ⟨y, exs, ds, key, locI, ey, h64, hk, T, hB, hq⟩, sm1, H1, le1, l1⟩ := hqq
  subst exs; subst ey
  obtain ⟨v, rfl, lv⟩ := l1.one
  obtain ⟨l, rfl⟩ : ∃ l, v = .ref l := by obtain ⟨a, _, e, _⟩ := Rd.list_inv lv; exact ⟨a, e⟩
  refine PyProof.Rows.kws_cons (lam_make hC H1 T.code T.qual T.clo T.defs fun f c' pm ctv s2 sm2 H2 le2 hf hcd => PyProof.Rows.kws_cons (wpAny_mono (hq s2 H2) (fun w s3 ⟨z, σ2, ⟨b, ez, eσ, hk3⟩, sm3, H3, le3, l3⟩ => PyProof.Rows.kws_nil ?_) fun _ _ e => e))
  subst ez; subst eσ
  obtain rfl := Rd.bool_inv l3
  refine wpAny_mono (sorted_call (b := b) (kw := [(Str.ofString "key", .ref f), (Str.ofString "reverse", .bool b)]) hC H3 (lv.keeps (le2.trans le3)) h64 (ksk_s2 _ _ _) (fun _ => ksk_l2 _ _ _) (fun _ => ksk_t2 _ _ _) hk (fun h' leh => ?_) hk3) (fun u s4 p => p.lift (sm1.trans (sm2.trans sm3)) (le1.trans (le2.trans le3))) fun _ _ e => e
  exact lam_key (d := 10) T ⟨by have := hr.depth; show A.depth + (10 + 1) ≤ 900; lia, by have := hr.units; show A.units + 1 + 1 + 10 * (10 + 1) ≤ 9000; lia, hr.handled⟩ (leh _ _ (le3 _ _ hf)) (hcd.keeps (le3.trans leh)) fun L' h₀ l A' mu' d => hB f c' L' h₀ l A' mu' d
end

end Mine
namespace Mine
open AutoSeq1 (wpAny_loadPart')
open MeetsSeq MeetsSeq2 MeetsSeq3

theorem ints_get : ∀ {vs : List Value} {ns : List Int}, IntsAre vs ns → ∀ (i : Nat) {v : Value}, vs[i]? = some v → ∃ n t, ns[i]? = some n ∧ v = .int n t
  | _, _, .nil, i, v, e => by simp at e
  | _, _, .cons n t h, 0, v, e => by simp at e; exact ⟨n, t, rfl, e.symm⟩
  | _, _, .cons n t h, i + 1, v, e => by simpa using ints_get h i (by simpa using e)

theorem lt_loop (l b : Addr) (items items2 : Array Value) (n n2 : Nat) (dd dd2 : Option Addr) (sl sl2 : Array (Option Value)) {ns ms : List Int} (h1 : IntsAre items.toList ns) (h2 : IntsAre items2.toList ms) (k : Nat) :
    ∀ i : Nat, items.size - i = k → i ≤ items.size → i ≤ items2.size → Meets (Builtin.«list.__eq__.loop» ⟨[.ref l, .ref b, rawInt i, rawInt 0], []⟩)
      (fun A R s => s.heap.get? l = some { cls := .type "list", dict := dd, data := .seq items n, slots := sl } ∧ s.heap.get? b = some { cls := .type "list", dict := dd2, data := .seq items2 n2, slots := sl2 } ∧
        R (.ok (.ret (.bool (decide (ns.drop i < ms.drop i))))) s) := by
  have z1 : items.size = ns.length := by rw [← Array.length_toList]; exact h1.length.symm ▸ rfl
  have z2 : items2.size = ms.length := by rw [← Array.length_toList]; exact h2.length.symm ▸ rfl
  induction k with
  | zero =>
    intro i hk hi1 hi2 prog w A R s h
    obtain ⟨hp, g, d, tk, os⟩ := s; obtain ⟨hl, hb, h⟩ := h
    wp_walk using wpAny_loadPart' hl, wpAny_loadPart' hb
    have hn : items[((i : Nat) : Int).toNat]? = none := by simp; lia
    rw [hn]
    have e0 : ns.drop i = [] := by apply List.drop_eq_nil_of_le; lia
    rw [e0] at h
    cases hm : items2[((i : Nat) : Int).toNat]? with
    | none =>
      wp_walk using wpAny_loadPart' hl, wpAny_loadPart' hb
      show R (.ok (.ret (.bool (decide (items.size < items2.size))))) _
      have : items2.size ≤ i := by simpa using hm
      have e1 : ms.drop i = [] := by apply List.drop_eq_nil_of_le; lia
      rw [e1] at h
      have : decide (items.size < items2.size) = false := by simp; lia
      rw [this]; exact h
    | some v =>
      wp_walk using wpAny_loadPart' hl, wpAny_loadPart' hb
      show R (.ok (.ret (.bool (decide (items.size < items2.size))))) _
      have hlt : i < items2.size := by
        have := (Array.getElem?_eq_some_iff.mp hm).1
        simpa using this
      have e1 : ms.drop i = ms[i]'(by lia) :: ms.drop (i + 1) := List.drop_eq_getElem_cons (by lia)
      rw [e1] at h
      have : decide (items.size < items2.size) = true := by simp; lia
      have e2 : decide (([] : List Int) < ms[i]'(by lia) :: ms.drop (i + 1)) = true := decide_eq_true (List.nil_lt_cons _ _)
      rw [e2] at h
      rw [this]; exact h
  | succ k ih =>
    intro i hk hi1 hi2 prog w A R s h
    obtain ⟨hp, g, d, tk, os⟩ := s; obtain ⟨hl, hb, h⟩ := h
    wp_walk using wpAny_loadPart' hl, wpAny_loadPart' hb
    have hlt : i < items.size := by lia
    have hi1' : items[((i : Nat) : Int).toNat]? = some items[i] := by simp [hlt]
    obtain ⟨a, t, ga, ea⟩ := ints_get h1 i (v := items[i]) (by simp [hlt])
    rw [hi1']
    have eN : ns.drop i = a :: ns.drop (i + 1) := by
      obtain ⟨q, e⟩ := List.getElem?_eq_some_iff.mp ga
      rw [List.drop_eq_getElem_cons q, e]
    rw [eN] at h
    by_cases hlt2 : i < items2.size
    · have hi2' : items2[((i : Nat) : Int).toNat]? = some items2[i] := by simp [hlt2]
      obtain ⟨c, u, gc, ec⟩ := ints_get h2 i (v := items2[i]) (by simp [hlt2])
      rw [hi2']
      have eM : ms.drop i = c :: ms.drop (i + 1) := by
        obtain ⟨q, e⟩ := List.getElem?_eq_some_iff.mp gc
        rw [List.drop_eq_getElem_cons q, e]
      rw [eM] at h
      have hc : ((i : Int) + 1) = ((i + 1 : Nat) : Int) := by push_cast; rfl
      rw [ea, ec]
      refine wpAny_bind (wpAny_eqBool_int ?_)
      cases hq : (a == c) with
      | true =>
        have hac : a = c := by simpa using hq
        subst hac
        wp_walk
        rw [hc]
        exact ⟨plainId_quiet plain_eq_loop _, codeAny_builtin entry_eq_loop (by
          rw [Around.under_plainId plain_eq_loop _]
          refine ih (i + 1) (by lia) (by lia) (by lia) prog w A R _ ⟨hl, hb, ?_⟩
          have : decide (a :: ns.drop (i + 1) < a :: ms.drop (i + 1)) = decide (ns.drop (i + 1) < ms.drop (i + 1)) := by
            simp
          rw [this] at h; exact h)⟩
      | false =>
        have hac : a ≠ c := by simpa using hq
        wp_walk using wpAny_loadPart' hl, wpAny_loadPart' hb
        rw [hi1', hi2', ea, ec]
        refine wpAny_bind (wpAny_mono (wpAny_lt_int (Q := fun v s' => v = .bool (decide (a < c)) ∧ s' = { heap := hp, gens := g, drawn := d, toks := tk, os := os }) (E := fun _ _ => False) ⟨rfl, rfl⟩) (fun v s' hqq => ?_) fun _ _ e => e.elim)
        obtain ⟨ev, es⟩ := hqq
        subst ev es
        have : decide (a :: ns.drop (i + 1) < c :: ms.drop (i + 1)) = decide (a < c) := by
          rw [decide_eq_decide, List.cons_lt_cons_iff]
          simp [hac]
        rw [this] at h
        exact wpAny_pure h
    · have hi2' : items2[((i : Nat) : Int).toNat]? = none := by simp; lia
      rw [hi2']
      wp_walk using wpAny_loadPart' hl, wpAny_loadPart' hb
      show R (.ok (.ret (.bool (decide (items.size < items2.size))))) _
      have e1 : ms.drop i = [] := by apply List.drop_eq_nil_of_le; lia
      rw [e1] at h
      have : decide (items.size < items2.size) = false := by simp; lia
      rw [this]; simpa using h

theorem list_lt (l b : Addr) (items items2 : Array Value) (n n2 : Nat) (dd dd2 : Option Addr) (sl sl2 : Array (Option Value)) {ns ms : List Int} (h1 : IntsAre items.toList ns) (h2 : IntsAre items2.toList ms) :
    Meets (Builtin.«list.__lt__» ⟨[.ref l, .ref b], []⟩)
      (fun A R s => s.heap.get? l = some { cls := .type "list", dict := dd, data := .seq items n, slots := sl } ∧ s.heap.get? b = some { cls := .type "list", dict := dd2, data := .seq items2 n2, slots := sl2 } ∧
        R (.ok (.ret (.bool (decide (ns < ms))))) s) := by
  intro prog w A R s h
  obtain ⟨hp, g, d, tk, os⟩ := s; obtain ⟨hl, hb, h⟩ := h
  have f3 := AutoSeq1.sub_list_list
  wp_walk using wpAny_loadPart' hl, wpAny_loadPart' hb
  exact ⟨plainId_quiet plain_eq_loop _, codeAny_builtin entry_eq_loop (by
    rw [Around.under_plainId plain_eq_loop _]
    exact lt_loop l b items items2 n n2 dd dd2 sl sl2 h1 h2 _ 0 rfl (Nat.zero_le _) (Nat.zero_le _) prog w A R _ ⟨hl, hb, by simpa using h⟩)⟩

theorem IntsOfRds {h : Heap} : ∀ {vs : List Value} {ns : List Int}, Rds h vs (ns.map .int) → IntsAre vs ns
  | [], [], _ => .nil
  | [], _ :: _, ⟨_, r⟩ => by cases r
  | _ :: _, [], ⟨_, r⟩ => by cases r
  | v :: vs, n :: ns, r => by
    obtain ⟨a, b⟩ := r.inv
    obtain ⟨t, rfl⟩ := a.int_inv
    exact .cons n t (IntsOfRds b)
theorem Op2.lt_ints {W : Wd} {ns ms : List Int} : Op2 W (compareOp .Lt) (.list (ns.map .int)) (.list (ms.map .int)) (.bool (decide (ns < ms))) := fun A s l v w L m hr hl hL n x y => by
  obtain ⟨a, vs, rfl, ⟨⟨c1, d1, dt1, s1⟩, e1, hc1, n1, hd1⟩, r1⟩ := x.list_inv
  obtain ⟨b, ws, rfl, ⟨⟨c2, d2, dt2, s2⟩, e2, hc2, n2, hd2⟩, r2⟩ := y.list_inv
  simp only at hc1 hd1 hc2 hd2
  subst hc1 hd1 hc2 hd2
  show wpAny _ _ (richCompare .Lt (.ref a) (.ref b)) _ _ s
  refine richCompare_meets_room ⟨_, hide_le _ _ e1, rfl⟩ ⟨_, hide_le _ _ e2, rfl⟩ PySem.F.slot_list_lt PySem.F.entry_list_lt (PySem.F.args_list_lt_2 _ _)
    (list_lt a b vs.toArray ws.toArray n1 n2 d1 d2 s1 s2 (ns := ns) (ms := ms) (by simpa using IntsOfRds r1) (by simpa using IntsOfRds r2)) ⟨hide_le _ _ e1, hide_le _ _ e2, ?_⟩ (by have := hr.u64; lia)
  exact ⟨fun q => (by cases q), res_here' n Rd.bool⟩

end Mine
namespace Mine
variable {W : Wd} {A : Around}
local macro_rules | `(tactic| walk_at "can") => `(tactic| first | exact .loc rfl | exact Can.cell rfl rfl (by first | exact .tail _ (.head _) | exact .tail _ (.tail _ (.head _)) | exact .tail _ (.tail _ (.tail _ (.head _)))) (by first | exact Nat.succ_ne_self _ | exact Nat.ne_of_gt (Nat.lt_succ_of_lt (Nat.lt_succ_self _)) | exact Nat.ne_of_gt (Nat.lt_succ_of_lt (Nat.lt_succ_of_lt (Nat.lt_succ_self _)))))
local macro_rules | `(tactic| walk_at "lk") => `(tactic| first | with_reducible assumption | with_reducible rfl | exact lk_eq | (refine' lk_ne (by decide) ?h; (case h => walk_at "lk")) | rfl)
section


noncomputable def intsV (l : List Int) : List V := l.map fun n => .dat (.int n)
noncomputable def PenMu (p c : Addr) (T : Nat) (mu : Mu) : Prop :=
  Ex3 fun (cells : List Int) (spot turn : Int) => A6 (mu = [(p, [.ref c, .dat (.int spot), .dat (.int turn)]), (c, intsV cells)]) (0 ≤ spot) (0 ≤ turn) (turn ≤ T) (cells.length ≤ 40) (∀ x ∈ cells, 0 ≤ x ∧ x < 10 ^ 60)

theorem PenMu.mk {p c : Addr} {T : Nat} {cells : List Int} {cs : List V} {spot turn : Int} (e : cs = intsV cells) (h0 : 0 ≤ spot) (h1 : 0 ≤ turn) (h2 : turn ≤ T) (hl : cells.length ≤ 40) (hx : ∀ x ∈ cells, 0 ≤ x ∧ x < 10 ^ 60) :
    PenMu p c T [(p, [.ref c, .dat (.int spot), .dat (.int turn)]), (c, cs)] := ⟨cells, spot, turn, by rw [e], h0, h1, h2, hl, hx⟩
theorem intsV_set {l : List Int} {i : Nat} {x : Int} : (intsV l).set i (.dat (.int x)) = intsV (l.set i x) := by simp [intsV]
theorem setMu_two {p c : Addr} {x y : List V} (h : p ≠ c) (z : List V) : setMu c z [(p, x), (c, y)] = [(p, x), (c, z)] := by simp [setMu, h]
theorem setMu_one {p c : Addr} {x y : List V} (h : p ≠ c) (z : List V) : setMu p z [(p, x), (c, y)] = [(p, z), (c, y)] := by simp [setMu, Ne.symm h]

theorem drawn_spec (hW : IsW W) {p c : Addr} {T : Nat} {many : Int} {mu : Mu} (h1 : 1 ≤ many) (h2 : many ≤ 10000) (hT : T ≤ 1000000) (hp : PenMu p c T mu) :
    Calls W 11 (.ref 133) [.ref p, .dat (.int many)] mu fun x mu' => ∃ r : Int, A4 (x = .dat (.int r)) (0 ≤ r) (r < many) (PenMu p c (T + 1) mu') := by
  refine Calls.nd fun nd => ?_
  obtain ⟨fd, D⟩ := D_law_drawn hW
  refine Calls.named fun Q hQ => ?_
  refine Calls.introU D rfl fun A L h₀ l s₀ hC hr => ?_
  obtain ⟨cells, spot, turn, rfl, hs0, ht0, ht, hl, hx⟩ := hp
  have hpc : p ≠ c := fun q => by subst q; simp [keys] at nd
  conv in bodyAt 21 => whnf
  (with_reducible refine WX.consU ?_)
  refine WS.unpack hC (WE.local' (v := .ref p) hC rfl (WA.unpackMu (a := p) (xs := [.ref c, .dat (.int spot), .dat (.int turn)]) hC hr (.head _) rfl ?_ rfl) rfl (by decide)) rfl rfl
  refine WAs.cons (WA.name hC (.loc rfl) (WAs.cons (WA.name hC (.loc rfl) (WAs.cons (WA.name hC (.loc rfl) (WAs.nil ?_)))))) 
  (with_reducible refine WX.consU ?_)
  (with_reducible refine WS.ite ?_)
  ((with_reducible refine WT.cmpU (by assumption) (by assumption) ?_ ?m1); (case m1 => rfl)); ((with_reducible refine' WE.local' (by assumption) ?lk2 ?_ ?k2 ?d2); (case k2 => rfl); (case d2 => decide); (case lk2 => walk_at "lk")); ((with_reducible refine WE.len (by assumption) ?b3 ?_ ?x3 ?h3); (case b3 => exact blt_len (by assumption)); (case x3 => rfl); (case h3 => rfl)); ((with_reducible refine' WE.local' (by assumption) ?lk4 ?_ ?k4 ?d4); (case k4 => rfl); (case d4 => decide); (case lk4 => walk_at "lk"))
  refine ⟨_, .mu (.tail _ (.head _)), ?_, ?_⟩
  · show (intsV cells).length ≤ sizeLine
    rw [intsV, List.length_map]
    exact Nat.le_trans hl (by decide)
  (with_reducible refine OpeB.lt_int ?_)
  have hlen : (intsV cells).length = cells.length := by simp [intsV]
  refine ⟨fun hc => ?_, fun hc => ?_⟩
  · have hsp : spot.toNat < cells.length := by rw [hlen] at hc; simp at hc; lia
    have hg : (intsV cells)[spot.toNat]? = some (.dat (.int cells[spot.toNat])) := by simp [intsV, hsp]
    obtain ⟨hx0, hx1⟩ := hx _ (List.getElem_mem hsp)
    (with_reducible refine WX.consU ?_); ((with_reducible refine WS.assign (by assumption) ?c5 ?_ ?s5); (case c5 => walk_at "can"); (case s5 => rfl)); ((with_reducible refine WE.subU (by assumption) (by assumption) ?_ ?s6); (case s6 => (intro _ _; rfl))); ((with_reducible refine' WE.local' (by assumption) ?lk7 ?_ ?k7 ?d7); (case k7 => rfl); (case d7 => decide); (case lk7 => walk_at "lk")); ((with_reducible refine' WE.local' (by assumption) ?lk8 ?_ ?k8 ?d8); (case k8 => rfl); (case d8 => decide); (case lk8 => walk_at "lk"))
    refine ⟨_, .mu (.tail _ (.head _)) (by lia) (by lia) hg, ?_⟩
    (with_reducible refine WX.consU ?_); ((with_reducible refine WS.setItem (by assumption) ?_ ?s9); (case s9 => rfl)); (with_reducible refine WE.binopU (by assumption) (by assumption) ?_); ((with_reducible refine' WE.local' (by assumption) ?lk10 ?_ ?k10 ?d10); (case k10 => rfl); (case d10 => decide); (case lk10 => walk_at "lk")); ((with_reducible refine' WE.local' (by assumption) ?lk11 ?_ ?k11 ?d11); (case k11 => rfl); (case d11 => decide); (case lk11 => walk_at "lk"))
    refine Ope.fdiv_int (by lia) (by lia) ?_
    ((with_reducible refine' WE.local' (by assumption) ?lk12 ?_ ?k12 ?d12); (case k12 => rfl); (case d12 => decide); (case lk12 => walk_at "lk")); ((with_reducible refine' WE.local' (by assumption) ?lk13 ?_ ?k13 ?d13); (case k13 => rfl); (case d13 => decide); (case lk13 => walk_at "lk"))
    refine ⟨c, intsV cells, spot, rfl, rfl, .tail _ (.head _), by lia, by lia, by rw [hlen]; lia, ?_⟩
    refine WX.muEq (setMu_two hpc _) ?_
    (with_reducible refine WX.consU ?_); ((with_reducible refine WS.setItem (by assumption) ?_ ?s14); (case s14 => rfl)); (with_reducible refine WE.binopU (by assumption) (by assumption) ?_); ((with_reducible refine' WE.local' (by assumption) ?lk15 ?_ ?k15 ?d15); (case k15 => rfl); (case d15 => decide); (case lk15 => walk_at "lk")); (with_reducible refine WE.ifexp ?_); ((with_reducible refine WT.cmpU (by assumption) (by assumption) ?_ ?m16); (case m16 => rfl)); ((with_reducible refine' WE.local' (by assumption) ?lk17 ?_ ?k17 ?d17); (case k17 => rfl); (case d17 => decide); (case lk17 => walk_at "lk")); ((with_reducible refine' WE.local' (by assumption) ?lk18 ?_ ?k18 ?d18); (case k18 => rfl); (case d18 => decide); (case lk18 => walk_at "lk")); (with_reducible refine OpeB.lt_int ?_)
    refine ⟨fun hd => ?_, fun hd => ?_⟩
    all_goals
      (with_reducible (refine WE.const_int (by assumption) ?_; refine Ope.add_int ?_)); ((with_reducible refine' WE.local' (by assumption) ?lk19 ?_ ?k19 ?d19); (case k19 => rfl); (case d19 => decide); (case lk19 => walk_at "lk")); (with_reducible refine WE.const_int (by assumption) ?_)
      refine ⟨p, _, _, rfl, rfl, .head _, by lia, by lia, (by show (1 : Int) < ((3 : Nat) : Int); decide), ?_⟩
      refine WX.muEq (setMu_one hpc _) ?_
      (with_reducible (refine WX.consU ?_; refine WS.ret ?_; refine WE.binopU (by assumption) (by assumption) ?_)); ((with_reducible refine' WE.local' (by assumption) ?lk20 ?_ ?k20 ?d20); (case k20 => rfl); (case d20 => decide); (case lk20 => walk_at "lk")); ((with_reducible refine' WE.local' (by assumption) ?lk21 ?_ ?k21 ?d21); (case k21 => rfl); (case d21 => decide); (case lk21 => walk_at "lk")); ((with_reducible refine Ope.mod_int ?m22 ?_); (case m22 => lia))
      refine .ret (hQ _ _ ⟨_, rfl, Int.fmod_nonneg_of_pos _ (by lia), Int.fmod_lt_of_pos _ (by lia), PenMu.mk intsV_set (by lia) ht0 (by lia) (by simpa using hl) fun x hx' => ?_⟩)
    all_goals
      rcases List.mem_or_eq_of_mem_set hx' with h | rfl
      · exact hx x h
      · have := Int.fdiv_nonneg hx0 (by lia : 0 ≤ many)
        have h3 : cells[spot.toNat].fdiv many ≤ cells[spot.toNat] := by
          rw [Int.fdiv_eq_ediv_of_nonneg _ (by lia)]
          exact Int.ediv_le_self _ hx0
        lia
  · (with_reducible (refine WX.nil ?_; refine WX.consU ?_)); ((with_reducible refine WS.setItem (by assumption) ?_ ?s23); (case s23 => rfl)); (with_reducible refine WE.binopU (by assumption) (by assumption) ?_); ((with_reducible refine' WE.local' (by assumption) ?lk24 ?_ ?k24 ?d24); (case k24 => rfl); (case d24 => decide); (case lk24 => walk_at "lk")); (with_reducible (refine WE.const_int (by assumption) ?_; refine Ope.add_int ?_)); ((with_reducible refine' WE.local' (by assumption) ?lk25 ?_ ?k25 ?d25); (case k25 => rfl); (case d25 => decide); (case lk25 => walk_at "lk")); (with_reducible refine WE.const_int (by assumption) ?_)
    refine ⟨p, _, _, rfl, rfl, .head _, by lia, by lia, (by show (2 : Int) < ((3 : Nat) : Int); decide), ?_⟩
    refine WX.muEq (setMu_one hpc _) ?_
    (with_reducible (refine WX.consU ?_; refine WS.ret ?_; refine WE.binopU (by assumption) (by assumption) ?_; refine WE.binopU (by assumption) (by assumption) ?_; refine WE.binopU (by assumption) (by assumption) ?_; refine WE.binopU (by assumption) (by assumption) ?_; refine WE.binopU (by assumption) (by assumption) ?_; refine WE.binopU (by assumption) (by assumption) ?_; refine WE.const_int (by assumption) ?_)); ((with_reducible refine' WE.local' (by assumption) ?lk26 ?_ ?k26 ?d26); (case k26 => rfl); (case d26 => decide); (case lk26 => walk_at "lk")); ((with_reducible refine Ope.mul_int ?m27 ?_); (case m27 => mul_fits)); ((with_reducible refine' WE.local' (by assumption) ?lk28 ?_ ?k28 ?d28); (case k28 => rfl); (case d28 => decide); (case lk28 => walk_at "lk")); ((with_reducible refine Ope.mul_int ?m29 ?_); (case m29 => mul_fits)); (with_reducible (refine WE.binopU (by assumption) (by assumption) ?_; refine WE.const_int (by assumption) ?_)); ((with_reducible refine' WE.local' (by assumption) ?lk30 ?_ ?k30 ?d30); (case k30 => rfl); (case d30 => decide); (case lk30 => walk_at "lk")); ((with_reducible refine Ope.mul_int ?m31 ?_); (case m31 => mul_fits)); (with_reducible (refine Ope.add_int ?_; refine WE.const_int (by assumption) ?_; refine Ope.add_int ?_; refine WE.const_int (by assumption) ?_)); ((with_reducible refine Ope.mod_int ?m32 ?_); (case m32 => lia)); ((with_reducible refine' WE.local' (by assumption) ?lk33 ?_ ?k33 ?d33); (case k33 => rfl); (case d33 => decide); (case lk33 => walk_at "lk")); ((with_reducible refine Ope.mod_int ?m34 ?_); (case m34 => lia))
    refine .ret (hQ _ _ ?_)
    refine ⟨_, rfl, ?_, ?_, ?_⟩
    rotate_left 2
    · exact PenMu.mk rfl hs0 (by lia) (by lia) hl hx
    · exact Int.fmod_nonneg_of_pos _ (by lia)
    · exact Int.fmod_lt_of_pos _ (by lia)

end
section


noncomputable def upperC (c : Nat) : Nat := if 97 ≤ c ∧ c ≤ 122 then c - 32 else c
noncomputable def upperS (w : Str) : Str := ⟨w.cps.map upperC⟩
noncomputable def upperD : PyData → PyData
  | .str w => .str (upperS w)
  | d => d
theorem lt_one (a b : Nat) : ([a] < [b]) ↔ a < b := by rw [List.cons_lt_cons_iff]; simp
theorem join_signs (cs : List Nat) : Txt.join (Str.ofString "") (cs.map fun c => ⟨#[c]⟩) = ⟨cs.toArray⟩ := by
  have e0 : (Str.ofString "").cps = #[] := by decide
  have go : ∀ (cs : List Nat) (acc : Array Nat), (cs.map fun c => (⟨#[c]⟩ : Str)).foldl (fun acc p => acc ++ (Str.ofString "").cps ++ p.cps) acc = acc ++ cs.toArray := by
    intro cs
    induction cs with
    | nil => intro acc; simp
    | cons c r ih =>
      intro acc
      rw [List.map_cons, List.foldl_cons, ih, e0]
      simp
  cases cs with
  | nil => rfl
  | cons c r =>
    show (⟨(r.map fun c => (⟨#[c]⟩ : Str)).foldl (fun acc p => acc ++ (Str.ofString "").cps ++ p.cps) #[c]⟩ : Str) = _
    rw [go]
    simp

theorem upper_spec (hW : IsW W) {w : Str} {mu : Mu} (hz : w.length ≤ 1000) :
    Calls W 11 (.ref 66) [.dat (.str w)] mu fun x mu' => x = .dat (.str (upperS w)) ∧ mu' = mu := by
  obtain ⟨fd, D⟩ := D_upper_text hW
  refine Calls.named fun Q hQ => ?_
  refine Calls.introU D rfl fun A L h₀ l s₀ hC hr => ?_
  conv in bodyAt 5 => whnf
  (with_reducible (refine WX.consU ?_; refine WS.ret ?_)); ((with_reducible refine WE.join (by assumption) ?_ ?a35 ?b35); (case a35 => rfl); (case b35 => rfl)); (with_reducible refine WE.const_str (by assumption) ?_)
  refine ⟨_, rfl, by decide, ?_⟩
  refine WE.comp hC ?_
  unfold CompH
  refine WI.str hC hr ?_
  ((with_reducible refine' WE.local' (by assumption) ?lk36 ?_ ?k36 ?d36); (case k36 => rfl); (case d36 => decide); (case lk36 => walk_at "lk"))
  refine ⟨w, rfl, by rw [signsD_length]; exact Nat.le_trans hz (by decide), [], .nil, fun Cl h₀ l hCi => ?_⟩
  refine CompW.map upperD (fun σ => σ.mu = mu) rfl (fun σ' e => ?_) fun x hx σ hσ h₀' l' hC' => ?_
  · refine FinC.dat ⟨w.cps.toList.map fun c => ⟨#[upperC c]⟩, ?_, ?_, .ret (hQ _ _ ⟨?_, e⟩)⟩
    · simp [signsD, upperD, upperS, Function.comp_def]
    · have hz' : w.cps.size ≤ 1000 := hz
      have : (w.cps.toList.map fun c => (⟨#[upperC c]⟩ : Str)).map (fun x => x.length) = List.replicate w.cps.size 1 := by
        rw [List.map_map]; exact List.eq_replicate_iff.mpr ⟨by simp, by simp [Str.length]⟩
      rw [this]
      simp
      lia
    · have : (w.cps.toList.map fun c => (⟨#[upperC c]⟩ : Str)) = (w.cps.toList.map upperC).map fun c => ⟨#[c]⟩ := by simp
      rw [this, join_signs]
      simp only [upperS]
      rw [← Array.toList_map, Array.toArray_toList]
  · obtain ⟨c, -, rfl⟩ := List.mem_map.mp hx
    obtain ⟨loc, mu'⟩ := σ
    obtain rfl : mu' = mu := hσ
    ((with_reducible refine WA.name (by assumption) ?c37 ?_); (case c37 => walk_at "can")); (with_reducible refine WE.ifexp ?_)
    refine WT.chain2 (by assumption) (by assumption) ?_ rfl
    (with_reducible refine WE.const_str (by assumption) ?_); ((with_reducible refine' WE.local' (by assumption) ?lk38 ?_ ?k38 ?d38); (case k38 => rfl); (case d38 => decide); (case lk38 => walk_at "lk"))
    have ca : (Str.ofString "a").cps.toList = [97] := by decide
    have cz : (Str.ofString "z").cps.toList = [122] := by decide
    refine ⟨_, _, _, rfl, rfl, Op2.le_str, fun hb => ?_, fun hb => ?_⟩
    · refine ⟨by simp, fun _ => ?_⟩
      ((with_reducible refine' WE.local' (by assumption) ?lk39 ?_ ?k39 ?d39); (case k39 => rfl); (case d39 => decide); (case lk39 => walk_at "lk"))
      refine ⟨?_, rfl⟩
      rw [ca] at hb
      have hb : c < 97 := by simpa [lt_one] using hb
      simp [upperD, upperS, upperC, show ¬ 97 ≤ c by lia]
    · (with_reducible refine WE.const_str (by assumption) ?_)
      refine ⟨_, _, rfl, Op2.le_str, ?_⟩
      rw [ca] at hb
      rw [cz]
      have hb : 97 ≤ c := by simpa only [lt_one, Bool.not_eq_true', decide_eq_false_iff_not, Nat.not_lt] using hb
      refine ⟨fun h => ?_, fun h => ?_⟩
      · have h : c ≤ 122 := by simpa only [lt_one, Bool.not_eq_true', decide_eq_false_iff_not, Nat.not_lt] using h
        ((with_reducible refine WE.chr (by assumption) ?b40 ?_ ?x40 ?h40); (case b40 => exact blt_chr (by assumption)); (case x40 => rfl); (case h40 => rfl)); (with_reducible refine WE.binopU (by assumption) (by assumption) ?_); ((with_reducible refine WE.ord (by assumption) ?b41 ?_ ?x41 ?h41); (case b41 => exact blt_ord (by assumption)); (case x41 => rfl); (case h41 => rfl)); ((with_reducible refine' WE.local' (by assumption) ?lk42 ?_ ?k42 ?d42); (case k42 => rfl); (case d42 => decide); (case lk42 => walk_at "lk"))
        refine ⟨c, rfl, ?_⟩
        (with_reducible (refine WE.const_int (by assumption) ?_; refine Ope.sub_int ?_))
        refine ⟨_, rfl, by lia, by lia, ?_, rfl⟩
        have : ((c : Int) - 32).toNat = c - 32 := by lia
        simp [upperD, upperS, upperC, hb, h, this]
      · have h : 122 < c := by simpa only [lt_one, Bool.not_eq_false', decide_eq_true_eq] using h
        ((with_reducible refine' WE.local' (by assumption) ?lk43 ?_ ?k43 ?d43); (case k43 => rfl); (case d43 => decide); (case lk43 => walk_at "lk"))
        exact ⟨by simp [upperD, upperS, upperC, show ¬ c ≤ 122 by lia], rfl⟩

noncomputable def sortWords : List Str := ["ARRIVAL", "CC", "DATE", "DISPLAYFROM", "DISPLAYTO", "FROM", "SIZE", "SUBJECT", "TO"].map Str.ofString
theorem glob_sort_words (hW : IsW W) : ∃ t, nsIn W.K mainGlobals (Str.ofString "SORT_WORDS") = some (some (.str (Str.ofString "ARRIVAL CC DATE DISPLAYFROM DISPLAYTO FROM SIZE SUBJECT TO") t)) :=
  ⟨262, by rw [hW.K]; generalize W.w.params = p; revert p; exact fun _ => by kernel_rfl⟩
theorem sort_words_spec (hW : IsW W) {mu : Mu} : Calls W 11 (.ref 73) [] mu fun x mu' => x = .dat (.list (sortWords.map .str)) ∧ mu' = mu := by
  obtain ⟨fd, D⟩ := D_sort_words hW
  refine Calls.named fun Q hQ => ?_
  refine Calls.introU D rfl fun A L h₀ l s₀ hC hr => ?_
  conv in bodyAt 8 => whnf
  (with_reducible (refine WX.consU ?_; refine WS.ret ?_)); ((with_reducible refine WE.split (by assumption) ?_ ?a44 ?b44); (case a44 => rfl); (case b44 => rfl))
  obtain ⟨t, ht⟩ := glob_sort_words hW
  refine WE.globStr hC ht ⟨_, rfl, by decide +kernel, ?_⟩ rfl (by decide)
  (with_reducible refine WE.const_str (by assumption) ?_)
  refine ⟨_, rfl, by decide, ?_⟩
  refine .ret (hQ _ _ ⟨?_, rfl⟩)
  have : Txt.split (Str.ofString "ARRIVAL CC DATE DISPLAYFROM DISPLAYTO FROM SIZE SUBJECT TO") (Str.ofString " ") = sortWords := by decide +kernel
  rw [this]

noncomputable abbrev KeyT := Str × Bool
noncomputable abbrev RowT := Int × List PyData
noncomputable def keyD (k : KeyT) : PyData := .tuple [.str k.1, .bool k.2]
noncomputable def rowD (r : RowT) : PyData := .tuple [.int r.1, .list r.2]
noncomputable def REV : Str := Str.ofString "REVERSE"
noncomputable def showOne (k : KeyT) : List Str := if k.2 then [REV, k.1] else [k.1]
noncomputable def showKeys (ks : List KeyT) : List Str := (ks.map showOne).flatten

noncomputable def strsV (l : List Str) : List V := l.map fun n => .dat (.str n)
theorem strsV_dat (l : List Str) : strsV l = (l.map PyData.str).map V.dat := by simp [strsV]
theorem show_len (ks : List KeyT) : (showKeys ks).length ≤ 2 * ks.length := by
  induction ks with
  | nil => simp [showKeys]
  | cons k r ih =>
    have : (showOne k).length ≤ 2 := by unfold showOne; split <;> simp
    simp [showKeys] at ih ⊢
    lia
theorem show_spec (hW : IsW W) {ks : List KeyT} {mu : Mu} (hz : ks.length ≤ 1000) :
    Calls W 11 (.ref 87) [.dat (.list (ks.map keyD))] mu fun x mu' => x = .dat (.list ((showKeys ks).map .str)) ∧ mu' = mu := by
  obtain ⟨fd, D⟩ := D_show_sort_keys hW
  refine Calls.named fun Q hQ => ?_
  refine Calls.introU D rfl fun A L h₀ l s₀ hC hr => ?_
  conv in bodyAt 10 => whnf
  (with_reducible refine WX.consU ?_); ((with_reducible refine WS.assign (by assumption) ?c45 ?_ ?s45); (case c45 => walk_at "can"); (case s45 => rfl))
  refine WE.listMu hC (WEs.nil ⟨by decide, fun a => ?_⟩)
  (with_reducible refine WX.consU ?_); ((with_reducible refine WS.for (by assumption) ?_ ?s46); (case s46 => (intro _; rfl)))
  refine WI.list hC hr ?_
  ((with_reducible refine' WE.local' (by assumption) ?lk47 ?_ ?k47 ?d47); (case k47 => rfl); (case d47 => decide); (case lk47 => walk_at "lk"))
  let J1 : List PyData → St → Prop := fun xs σ => Ex3 fun done rest loc => A4 (σ = ⟨loc, (a, strsV (showKeys done)) :: mu⟩) (ks = done ++ rest) (xs = rest.map keyD) (loc.lookup (Str.ofString "found") = some (.ref a))
  refine ⟨_, rfl, LoopW.gen J1 ?_ ?_ _ _ ⟨[], ks, _, rfl, rfl, rfl, rfl⟩⟩
  · rintro σ ⟨done, rest, loc, rfl, e, ex, hl⟩
    obtain rfl : rest = [] := by cases rest <;> first | rfl | cases ex
    refine WX.nd fun nd => ?_
    have ha : a ∉ keys mu := (List.nodup_cons.mp nd).1
    (with_reducible refine WX.consU ?_)
    (with_reducible refine WS.ret ?_)
    refine WE.frozen hC ?_
    ((with_reducible refine' WE.local' (by assumption) ?lk48 ?_ ?k48 ?d48); (case k48 => rfl); (case d48 => decide); (case lk48 => walk_at "lk"))
    refine ⟨a, (showKeys done).map .str, rfl, by rw [← strsV_dat]; exact .head _, .ret (hQ _ _ ?_)⟩
    rw [freeze_mu ha]
    simp [e]
  · rintro x xs σ ⟨done, rest, loc, rfl, e, ex, hl⟩ h₀ l hC
    obtain ⟨⟨w, r⟩, rest, rfl, rfl, rfl⟩ : Ex2 fun k rest' => A3 (rest = k :: rest') (x = keyD k) (xs = rest'.map keyD) := by
      cases rest with
      | nil => cases ex
      | cons k rest => cases ex; exact ⟨k, rest, rfl, rfl, rfl⟩
    refine WA.pair rfl hC hr ?_
    ((with_reducible refine WA.name (by assumption) ?c49 ?_); (case c49 => walk_at "can")); ((with_reducible refine WA.name (by assumption) ?c50 ?_); (case c50 => walk_at "can")); (with_reducible refine WX.consU ?_); ((with_reducible refine WS.expr ?_ ?a51 ?b51); (case a51 => rfl); (case b51 => rfl)); ((with_reducible refine WE.extend (by assumption) ?_ ?a52 ?b52); (case a52 => rfl); (case b52 => rfl)); ((with_reducible refine' WE.local' (by assumption) ?lk53 ?_ ?k53 ?d53); (case k53 => rfl); (case d53 => decide); (case lk53 => walk_at "lk"))
    refine ⟨a, rfl, ⟨_, .head _⟩, ?_⟩
    (with_reducible refine WE.ifexp ?_); ((with_reducible refine WT.plainU ?_ ?p54); (case p54 => rfl)); ((with_reducible refine' WE.local' (by assumption) ?lk55 ?_ ?k55 ?d55); (case k55 => rfl); (case d55 => decide); (case lk55 => walk_at "lk")); (with_reducible refine BoolV.mk ?_)
    have hz1 : done.length ≤ 1000 := by have := congrArg List.length e; simp at this; lia
    have hz2 := show_len done
    have hba : ∀ {b : Addr} {ys : List V}, (keys ((b, ys) :: (a, strsV (showKeys done)) :: mu)).Nodup → b ≠ a ∧ a ∉ keys mu := fun {b ys} nd => by
      obtain ⟨n1, n2⟩ := List.nodup_cons.mp nd
      exact ⟨fun q => n1 (by subst q; exact .head _), (List.nodup_cons.mp n2).1⟩
    refine ⟨fun hb => ?_, fun hb => ?_⟩
    all_goals
      have hb : r = _ := hb
      refine WE.listMu (by assumption) ?_
      first | (((with_reducible refine WEs.cons ?_ ?he56); (case he56 => rfl)); (with_reducible refine WE.const_str (by assumption) ?_); ((with_reducible refine WEs.cons ?_ ?he57); (case he57 => rfl)); ((with_reducible refine' WE.local' (by assumption) ?lk58 ?_ ?k58 ?d58); (case k58 => rfl); (case d58 => decide); (case lk58 => walk_at "lk")); (with_reducible refine WEs.nil ?_)) | (((with_reducible refine WEs.cons ?_ ?he59); (case he59 => rfl)); ((with_reducible refine' WE.local' (by assumption) ?lk60 ?_ ?k60 ?d60); (case k60 => rfl); (case d60 => decide); (case lk60 => walk_at "lk")); (with_reducible refine WEs.nil ?_))
    · refine ⟨Nat.le_of_ble_eq_true rfl, fun b => ⟨b, strsV (showKeys done), _, rfl, .tail _ (.head _), .head _, ?_, rfl, ?_⟩⟩
      · show (strsV (showKeys done)).length + 2 ≤ 1000000
        simp [strsV]; lia
      · refine WX.nd fun nd => ?_
        obtain ⟨n1, n2⟩ := hba (ys := strsV [REV, w]) (by rw [setMu_keys] at nd; exact nd)
        refine WX.muEq ((setMu_skip (y := strsV [REV, w]) n1).trans (congrArg _ (setMu_hit n2))) ?_
        refine WX.view (View.drop (by assumption)) ?_
        (with_reducible refine WX.nil ?_)
        refine ⟨done ++ [(w, r)], rest, _, congrArg (fun z => St.mk _ ((a, z) :: mu)) (?_ : _ ++ strsV [REV, w] = _), by simp [e], rfl, by walk_at "lk"⟩
        simp [showKeys, showOne, hb, strsV]
    · refine ⟨Nat.le_of_ble_eq_true rfl, fun b => ⟨b, strsV (showKeys done), _, rfl, .tail _ (.head _), .head _, ?_, rfl, ?_⟩⟩
      · show (strsV (showKeys done)).length + 1 ≤ 1000000
        simp [strsV]; lia
      · refine WX.nd fun nd => ?_
        obtain ⟨n1, n2⟩ := hba (ys := strsV [w]) (by rw [setMu_keys] at nd; exact nd)
        refine WX.muEq ((setMu_skip (y := strsV [w]) n1).trans (congrArg _ (setMu_hit n2))) ?_
        refine WX.view (View.drop (by assumption)) ?_
        (with_reducible refine WX.nil ?_)
        refine ⟨done ++ [(w, r)], rest, _, congrArg (fun z => St.mk _ ((a, z) :: mu)) (?_ : _ ++ strsV [w] = _), by simp [e], rfl, by walk_at "lk"⟩
        simp [showKeys, showOne, hb, strsV]

end
section


noncomputable def isNum (w : Str) : Bool := w == Str.ofString "SIZE" || w == Str.ofString "DATE" || w == Str.ofString "ARRIVAL"
noncomputable def SOk (s : Str) : Prop := s.length ≤ 4 ∧ ∀ c ∈ s.cps.toList, c ≤ 1114111
noncomputable def WorthOk (num : Bool) (d : PyData) : Prop := if num then ∃ i, d = .int i else ∃ s, d = .str s ∧ SOk s
noncomputable def WsOk : List KeyT → List PyData → Prop
  | [], [] => True
  | k :: ks, d :: ds => WorthOk (isNum k.1) d ∧ WsOk ks ds
  | _, _ => False
noncomputable def ltD : PyData → PyData → Bool
  | .int a, .int b => decide (a < b)
  | .str a, .str b => decide (a.cps.toList < b.cps.toList)
  | _, _ => false
noncomputable def aheadGo (n m : Int) : List KeyT → List PyData → List PyData → Bool
  | k :: ks, a :: as, b :: bs => if PyData.eqv a b then aheadGo n m ks as bs else (ltD a b != k.2)
  | _, _, _ => decide (n < m)
noncomputable def ahead (ks : List KeyT) (a b : RowT) : Bool := aheadGo a.1 b.1 ks a.2 b.2

theorem WsOk.len : ∀ {ks : List KeyT} {ds : List PyData}, WsOk ks ds → ks.length = ds.length
  | [], [], _ => rfl
  | _ :: _, _ :: _, h => congrArg (· + 1) h.2.len
  | [], _ :: _, h => h.elim
  | _ :: _, [], h => h.elim
theorem WsOk.get : ∀ {ks : List KeyT} {ds : List PyData}, WsOk ks ds → ∀ (i : Nat) {k : KeyT}, ks[i]? = some k → ∃ d, ds[i]? = some d ∧ WorthOk (isNum k.1) d
  | [], [], _, i, k, e => by simp at e
  | _ :: _, d :: _, h, 0, k, e => by simp at e; subst e; exact ⟨d, rfl, h.1⟩
  | _ :: _, _ :: _, h, i + 1, k, e => by simpa using h.2.get i (by simpa using e)
  | [], _ :: _, h, _, _, _ => h.elim
  | _ :: _, [], h, _, _, _ => h.elim
theorem WorthOk.shaped {b : Bool} {d : PyData} (h : WorthOk b d) : SeqAt.shaped d = true := by
  cases b with
  | true => obtain ⟨i, rfl⟩ := h; rfl
  | false =>
    obtain ⟨s, rfl, h1, h2⟩ := h
    have : PyData.strOk s = true := by
      unfold PyData.strOk
      rw [Array.all_eq_true']
      intro c hc
      have := h2 c (Array.mem_toList_iff.mpr hc)
      simp; lia
    unfold SeqAt.shaped
    simp [PyData.canLay0, this, PyData.depth]

theorem lt_worth {b : Bool} {d1 d2 : PyData} {k : PyData → Prop} (w1 : WorthOk b d1) (w2 : WorthOk b d2) (h : k (.bool (ltD d1 d2))) : Ope W (compareOp .Lt) (.dat d1) (.dat d2) k := by
  cases b with
  | true => obtain ⟨i, rfl⟩ := w1; obtain ⟨j, rfl⟩ := w2; exact Ope.lt_int h
  | false => obtain ⟨i, rfl, _⟩ := w1; obtain ⟨j, rfl, _⟩ := w2; exact Ope.lt_str h
theorem is_ahead_spec (hW : IsW W) {ks : List KeyT} {a b : RowT} {mu : Mu} (hz : ks.length ≤ 9) (ha : WsOk ks a.2) (hb : WsOk ks b.2) :
    Calls W 11 (.ref 99) [.dat (.list (ks.map keyD)), .dat (rowD a), .dat (rowD b)] mu fun x mu' => x = .dat (.bool (ahead ks a b)) ∧ mu' = mu := by
  obtain ⟨fd, D⟩ := D_is_ahead hW
  refine Calls.named fun Q hQ => ?_
  refine Calls.introU D rfl fun A L h₀ l s₀ hC hr => ?_
  conv in bodyAt 12 => whnf
  (with_reducible refine WX.consU ?_); ((with_reducible refine WS.for (by assumption) ?_ ?s61); (case s61 => (intro _; rfl)))
  refine WI.enumList hC hr (blt_enumerate hW) ?_ rfl rfl
  ((with_reducible refine' WE.local' (by assumption) ?lk62 ?_ ?k62 ?d62); (case k62 => rfl); (case d62 => decide); (case lk62 => walk_at "lk"))
  let J2 : List PyData → St → Prop := fun xs σ => Ex2 fun (i : Nat) (loc : List (Str × V)) => A6 (σ = ⟨loc, mu⟩) (i ≤ ks.length) (xs = (((ks.drop i).map keyD).zipIdx i).map (fun p => .tuple [.int (p.2 : Nat), p.1])) (ahead ks a b = aheadGo a.1 b.1 (ks.drop i) (a.2.drop i) (b.2.drop i)) (loc.lookup (Str.ofString "one") = some (.dat (rowD a))) (loc.lookup (Str.ofString "other") = some (.dat (rowD b)))
  refine ⟨_, rfl, LoopW.gen J2 ?_ ?_ _ _ ⟨0, _, rfl, Nat.zero_le _, rfl, rfl, rfl, rfl⟩⟩
  · rintro σ ⟨i, loc, rfl, hi, ex, e, l1, l2⟩
    have hge : ks.length ≤ i := by
      have := congrArg List.length ex
      simp at this
      lia
    (with_reducible (refine WX.consU ?_; refine WS.ret ?_)); ((with_reducible refine WE.cmpU (by assumption) (by assumption) ?_ ?m63); (case m63 => rfl)); ((with_reducible refine WE.subU (by assumption) (by assumption) ?_ ?s64); (case s64 => (intro _ _; rfl))); ((with_reducible refine' WE.local' (by assumption) ?lk65 ?_ ?k65 ?d65); (case k65 => rfl); (case d65 => decide); (case lk65 => walk_at "lk")); (with_reducible refine WE.const_int (by assumption) ?_)
    refine ⟨_, .tup (by lia) (by lia) rfl, ?_⟩
    ((with_reducible refine WE.subU (by assumption) (by assumption) ?_ ?s66); (case s66 => (intro _ _; rfl))); ((with_reducible refine' WE.local' (by assumption) ?lk67 ?_ ?k67 ?d67); (case k67 => rfl); (case d67 => decide); (case lk67 => walk_at "lk")); (with_reducible refine WE.const_int (by assumption) ?_)
    refine ⟨_, .tup (by lia) (by lia) rfl, ?_⟩
    (with_reducible refine Ope.lt_int ?_)
    refine .ret (hQ _ _ ⟨?_, rfl⟩)
    rw [e, List.drop_eq_nil_of_le hge]
    rfl
  · rintro x xs σ ⟨i, loc, rfl, hi, ex, e, l1, l2⟩ h₀ l hC
    have hlt : i < ks.length := by
      apply Nat.lt_of_not_le
      intro h
      rw [List.drop_eq_nil_of_le h] at ex
      simp at ex
    rw [List.drop_eq_getElem_cons hlt] at ex
    simp only [List.map_cons, List.zipIdx_cons, List.cons.injEq] at ex
    obtain ⟨rfl, rfl⟩ := ex
    obtain ⟨d1, g1, w1⟩ := ha.get i (List.getElem?_eq_getElem hlt)
    obtain ⟨d2, g2, w2⟩ := hb.get i (List.getElem?_eq_getElem hlt)
    obtain ⟨t1, q1⟩ := List.getElem?_eq_some_iff.mp g1
    obtain ⟨t2, q2⟩ := List.getElem?_eq_some_iff.mp g2
    rw [List.drop_eq_getElem_cons hlt, List.drop_eq_getElem_cons t1, List.drop_eq_getElem_cons t2, q1, q2] at e
    generalize ks[i] = k at *
    refine WA.pair rfl hC hr ?_
    ((with_reducible refine WA.name (by assumption) ?c68 ?_); (case c68 => walk_at "can")); ((with_reducible refine WA.name (by assumption) ?c69 ?_); (case c69 => walk_at "can")); (with_reducible (refine WX.consU ?_; refine WS.ite ?_)); ((with_reducible refine WT.cmpU (by assumption) (by assumption) ?_ ?m70); (case m70 => rfl)); ((with_reducible refine WE.subU (by assumption) (by assumption) ?_ ?s71); (case s71 => (intro _ _; rfl))); ((with_reducible refine WE.subU (by assumption) (by assumption) ?_ ?s72); (case s72 => (intro _ _; rfl))); ((with_reducible refine' WE.local' (by assumption) ?lk73 ?_ ?k73 ?d73); (case k73 => rfl); (case d73 => decide); (case lk73 => walk_at "lk")); (with_reducible refine WE.const_int (by assumption) ?_)
    refine ⟨_, .tup (i := 1) (by lia) (by lia) rfl, ?_⟩
    ((with_reducible refine' WE.local' (by assumption) ?lk74 ?_ ?k74 ?d74); (case k74 => rfl); (case d74 => decide); (case lk74 => walk_at "lk"))
    refine ⟨_, .list (d := d1) (by lia) (by lia) (by simpa using g1), ?_⟩
    ((with_reducible refine WE.subU (by assumption) (by assumption) ?_ ?s75); (case s75 => (intro _ _; rfl))); ((with_reducible refine WE.subU (by assumption) (by assumption) ?_ ?s76); (case s76 => (intro _ _; rfl))); ((with_reducible refine' WE.local' (by assumption) ?lk77 ?_ ?k77 ?d77); (case k77 => rfl); (case d77 => decide); (case lk77 => walk_at "lk")); (with_reducible refine WE.const_int (by assumption) ?_)
    refine ⟨_, .tup (i := 1) (by lia) (by lia) rfl, ?_⟩
    ((with_reducible refine' WE.local' (by assumption) ?lk78 ?_ ?k78 ?d78); (case k78 => rfl); (case d78 => decide); (case lk78 => walk_at "lk"))
    refine ⟨_, .list (d := d2) (by lia) (by lia) (by simpa using g2), ?_⟩
    refine OpeB.ne w1.shaped w2.shaped ⟨fun hd => ?_, fun hd => ?_⟩
    · (with_reducible (refine WX.consU ?_; refine WS.ret ?_)); ((with_reducible refine WE.cmpU (by assumption) (by assumption) ?_ ?m79); (case m79 => rfl)); ((with_reducible refine WE.cmpU (by assumption) (by assumption) ?_ ?m80); (case m80 => rfl)); ((with_reducible refine WE.subU (by assumption) (by assumption) ?_ ?s81); (case s81 => (intro _ _; rfl))); ((with_reducible refine WE.subU (by assumption) (by assumption) ?_ ?s82); (case s82 => (intro _ _; rfl))); ((with_reducible refine' WE.local' (by assumption) ?lk83 ?_ ?k83 ?d83); (case k83 => rfl); (case d83 => decide); (case lk83 => walk_at "lk")); (with_reducible refine WE.const_int (by assumption) ?_)
      refine ⟨_, .tup (i := 1) (by lia) (by lia) rfl, ?_⟩
      ((with_reducible refine' WE.local' (by assumption) ?lk84 ?_ ?k84 ?d84); (case k84 => rfl); (case d84 => decide); (case lk84 => walk_at "lk"))
      refine ⟨_, .list (d := d1) (by lia) (by lia) (by simpa using g1), ?_⟩
      ((with_reducible refine WE.subU (by assumption) (by assumption) ?_ ?s85); (case s85 => (intro _ _; rfl))); ((with_reducible refine WE.subU (by assumption) (by assumption) ?_ ?s86); (case s86 => (intro _ _; rfl))); ((with_reducible refine' WE.local' (by assumption) ?lk87 ?_ ?k87 ?d87); (case k87 => rfl); (case d87 => decide); (case lk87 => walk_at "lk")); (with_reducible refine WE.const_int (by assumption) ?_)
      refine ⟨_, .tup (i := 1) (by lia) (by lia) rfl, ?_⟩
      ((with_reducible refine' WE.local' (by assumption) ?lk88 ?_ ?k88 ?d88); (case k88 => rfl); (case d88 => decide); (case lk88 => walk_at "lk"))
      refine ⟨_, .list (d := d2) (by lia) (by lia) (by simpa using g2), ?_⟩
      have hd : PyData.eqv d1 d2 = false := by simpa using hd
      have ha : ahead ks a b = (ltD d1 d2 != k.2) := by rw [e]; simp [aheadGo, hd]
      refine lt_worth w1 w2 ?_
      ((with_reducible refine WE.subU (by assumption) (by assumption) ?_ ?s89); (case s89 => (intro _ _; rfl))); ((with_reducible refine' WE.local' (by assumption) ?lk90 ?_ ?k90 ?d90); (case k90 => rfl); (case d90 => decide); (case lk90 => walk_at "lk")); (with_reducible refine WE.const_int (by assumption) ?_)
      refine ⟨_, .tup (i := 1) (by lia) (by lia) rfl, ?_⟩
      refine Ope.ne rfl rfl ?_
      refine .ret (hQ _ _ ⟨?_, rfl⟩)
      rw [ha]
      cases ltD d1 d2 <;> cases k.2 <;> rfl
    · (with_reducible (refine WX.nil ?_; refine WX.nil ?_))
      have hd : PyData.eqv d1 d2 = true := by simpa using hd
      refine ⟨i + 1, _, rfl, hlt, rfl, ?_, by walk_at "lk", by walk_at "lk"⟩
      rw [e]
      simp [aheadGo, hd]

end
section


theorem fdiv2 (a b : Nat) : ((a : Int) + b).fdiv 2 = (((a + b) / 2 : Nat) : Int) := by
  rw [Int.fdiv_eq_ediv_of_nonneg _ (by lia)]; lia
theorem sorted_place_spec (hW : IsW W) {ks : List KeyT} {rows : List RowT} {row : RowT} {mu : Mu} {n : Nat} (hz : ks.length ≤ 9) (hw : ∀ r ∈ rows, WsOk ks r.2) (hb : WsOk ks row.2) (hl : rows.length ≤ 1000)
    (hn : n ≤ rows.length) (h1 : ∀ (i : Nat) r, rows[i]? = some r → i < n → ahead ks r row = true) (h2 : ∀ (i : Nat) r, rows[i]? = some r → n ≤ i → ahead ks r row = false) :
    Calls W 12 (.ref 106) [.dat (.list (ks.map keyD)), .dat (.list (rows.map rowD)), .dat (rowD row)] mu fun x mu' => x = .dat (.int (n : Nat)) ∧ mu' = mu := by
  obtain ⟨fd, D⟩ := D_sorted_place hW
  obtain ⟨fd2, D2⟩ := D_is_ahead hW
  refine Calls.named fun Q hQ => ?_
  refine Calls.introU D rfl fun A L h₀ l s₀ hC hr' => ?_
  have hr := hr'.mono (d' := 10) (by decide)
  conv in bodyAt 13 => whnf
  (with_reducible refine WX.consU ?_); ((with_reducible refine' WS.assignSwapU (by assumption) (by assumption) ?c91 ?_ ?s91 ?w91); (case w91 => rfl); (case s91 => rfl); (case c91 => (repeat (first | exact .nil | refine .cons (.loc rfl) ?_)))); ((with_reducible refine WEs.cons ?_ ?he92); (case he92 => rfl)); (with_reducible refine WE.const_int (by assumption) ?_); ((with_reducible refine WEs.cons ?_ ?he93); (case he93 => rfl)); ((with_reducible refine WE.len (by assumption) ?b94 ?_ ?x94 ?h94); (case b94 => exact blt_len (by assumption)); (case x94 => rfl); (case h94 => rfl)); ((with_reducible refine' WE.local' (by assumption) ?lk95 ?_ ?k95 ?d95); (case k95 => rfl); (case d95 => decide); (case lk95 => walk_at "lk"))
  refine ⟨_, .list, ?_, ?_⟩
  · simp; exact Nat.le_trans hl (by decide)
  (with_reducible refine WEs.nil ?_); ((with_reducible refine SwapK.mk ?a96 ?b96 ?_); (case a96 => exact Nat.le_of_ble_eq_true rfl); (case b96 => rfl)); (with_reducible refine WX.consU ?_)
  let J3 : Nat → St → Prop := fun m σ => Ex3 fun (lo hi : Nat) (loc : List (Str × V)) => A10 (σ = ⟨loc, mu⟩) (lo ≤ n) (n ≤ hi) (hi ≤ rows.length) (m = hi - lo) (loc.lookup (Str.ofString "low") = some (.dat (.int (lo : Nat)))) (loc.lookup (Str.ofString "high") = some (.dat (.int (hi : Nat)))) (loc.lookup (Str.ofString "keys") = some (.dat (.list (ks.map keyD)))) (loc.lookup (Str.ofString "rows") = some (.dat (.list (rows.map rowD)))) (loc.lookup (Str.ofString "row") = some (.dat (rowD row)))
  refine WS.while J3
    (n := (rows.map rowD).length) ⟨0, (rows.map rowD).length, _, rfl, by lia, by simpa using hn, by simp, rfl, by walk_at "lk", by walk_at "lk", by walk_at "lk", by walk_at "lk", by walk_at "lk"⟩ ?_
  · rintro m σ ⟨lo, hi, loc, rfl, a1, a2, a3, rfl, l1, l2, l3, l4, l5⟩
    ((with_reducible refine WT.cmpU (by assumption) (by assumption) ?_ ?m97); (case m97 => rfl)); ((with_reducible refine' WE.local' (by assumption) ?lk98 ?_ ?k98 ?d98); (case k98 => rfl); (case d98 => decide); (case lk98 => walk_at "lk")); ((with_reducible refine' WE.local' (by assumption) ?lk99 ?_ ?k99 ?d99); (case k99 => rfl); (case d99 => decide); (case lk99 => walk_at "lk")); (with_reducible refine OpeB.lt_int ?_)
    refine ⟨fun hc => ?_, fun hc => ?_⟩
    · have hc : lo < hi := by simpa using hc
      (with_reducible refine WX.consU ?_); ((with_reducible refine WS.assign (by assumption) ?c100 ?_ ?s100); (case c100 => walk_at "can"); (case s100 => rfl)); (with_reducible (refine WE.binopU (by assumption) (by assumption) ?_; refine WE.binopU (by assumption) (by assumption) ?_)); ((with_reducible refine' WE.local' (by assumption) ?lk101 ?_ ?k101 ?d101); (case k101 => rfl); (case d101 => decide); (case lk101 => walk_at "lk")); ((with_reducible refine' WE.local' (by assumption) ?lk102 ?_ ?k102 ?d102); (case k102 => rfl); (case d102 => decide); (case lk102 => walk_at "lk")); (with_reducible (refine Ope.add_int ?_; refine WE.const_int (by assumption) ?_))
      refine Ope.fdiv_int (by lia) (by lia) ?_
      rw [fdiv2]
      generalize hmid : (lo + hi) / 2 = mid
      obtain ⟨r, hr2⟩ : ∃ r, rows[mid]? = some r := ⟨rows[mid], List.getElem?_eq_getElem (by lia)⟩
      (with_reducible (refine WX.consU ?_; refine WS.ite ?_)); ((with_reducible refine WT.plainU ?_ ?p103); (case p103 => rfl))
      refine WE.callPure 11 hC (hr'.mono (by decide)) D2.fn ?_
      ((with_reducible refine WEs.cons ?_ ?he104); (case he104 => rfl)); ((with_reducible refine' WE.local' (by assumption) ?lk105 ?_ ?k105 ?d105); (case k105 => rfl); (case d105 => decide); (case lk105 => walk_at "lk")); ((with_reducible refine WEs.cons ?_ ?he106); (case he106 => rfl)); ((with_reducible refine WE.subU (by assumption) (by assumption) ?_ ?s107); (case s107 => (intro _ _; rfl))); ((with_reducible refine' WE.local' (by assumption) ?lk108 ?_ ?k108 ?d108); (case k108 => rfl); (case d108 => decide); (case lk108 => walk_at "lk")); ((with_reducible refine' WE.local' (by assumption) ?lk109 ?_ ?k109 ?d109); (case k109 => rfl); (case d109 => decide); (case lk109 => walk_at "lk"))
      refine ⟨_, .list (i := (mid : Int)) (d := rowD r) (by lia) (by lia) (by simp [hr2]), ?_⟩
      ((with_reducible refine WEs.cons ?_ ?he110); (case he110 => rfl)); ((with_reducible refine' WE.local' (by assumption) ?lk111 ?_ ?k111 ?d111); (case k111 => rfl); (case d111 => decide); (case lk111 => walk_at "lk")); (with_reducible refine WEs.nil ?_)
      refine ⟨_, is_ahead_spec hW hz (hw r (List.mem_of_getElem? hr2)) hb, ?_⟩
      (with_reducible refine BoolV.mk ?_)
      refine ⟨fun hd => ?_, fun hd => ?_⟩
      · (with_reducible refine WX.consU ?_); ((with_reducible refine WS.assign (by assumption) ?c112 ?_ ?s112); (case c112 => walk_at "can"); (case s112 => rfl)); (with_reducible refine WE.binopU (by assumption) (by assumption) ?_); ((with_reducible refine' WE.local' (by assumption) ?lk113 ?_ ?k113 ?d113); (case k113 => rfl); (case d113 => decide); (case lk113 => walk_at "lk")); (with_reducible (refine WE.const_int (by assumption) ?_; refine Ope.add_int ?_; refine WX.nil ?_; refine WX.nil ?_))
        have hm : mid < n := Nat.lt_of_not_le fun q => by rw [h2 mid r hr2 q] at hd; cases hd
        exact ⟨hi - (mid + 1), by lia, mid + 1, hi, _, rfl, by lia, a2, a3, rfl, by walk_at "lk", by walk_at "lk", by walk_at "lk", by walk_at "lk", by walk_at "lk"⟩
      · (with_reducible refine WX.consU ?_); ((with_reducible refine WS.assign (by assumption) ?c114 ?_ ?s114); (case c114 => walk_at "can"); (case s114 => rfl)); ((with_reducible refine' WE.local' (by assumption) ?lk115 ?_ ?k115 ?d115); (case k115 => rfl); (case d115 => decide); (case lk115 => walk_at "lk")); (with_reducible (refine WX.nil ?_; refine WX.nil ?_))
        have hm : n ≤ mid := Nat.le_of_not_lt fun q => by rw [h1 mid r hr2 q] at hd; cases hd
        exact ⟨mid - lo, by lia, lo, mid, _, rfl, by lia, by lia, by lia, rfl, by walk_at "lk", by walk_at "lk", by walk_at "lk", by walk_at "lk", by walk_at "lk"⟩
    · (with_reducible (refine WX.consU ?_; refine WS.ret ?_)); ((with_reducible refine' WE.local' (by assumption) ?lk116 ?_ ?k116 ?d116); (case k116 => rfl); (case d116 => decide); (case lk116 => walk_at "lk"))
      refine .ret (hQ _ _ ⟨?_, rfl⟩)
      have : lo = n := by simp at hc; lia
      rw [this]

theorem sorted_with_spec (hW : IsW W) {ks : List KeyT} {rows : List RowT} {row : RowT} {mu : Mu} {n : Nat} (hz : ks.length ≤ 9) (hw : ∀ r ∈ rows, WsOk ks r.2) (hb : WsOk ks row.2) (hl : rows.length ≤ 1000)
    (hn : n ≤ rows.length) (h1 : ∀ (i : Nat) r, rows[i]? = some r → i < n → ahead ks r row = true) (h2 : ∀ (i : Nat) r, rows[i]? = some r → n ≤ i → ahead ks r row = false) :
    Calls W 13 (.ref 113) [.dat (.list (ks.map keyD)), .dat (.list (rows.map rowD)), .dat (rowD row)] mu fun x mu' => x = .dat (.list ((rows.take n ++ [row] ++ rows.drop n).map rowD)) ∧ mu' = mu := by
  obtain ⟨fd, D⟩ := D_sorted_with hW
  obtain ⟨fd2, D2⟩ := D_sorted_place hW
  refine Calls.named fun Q hQ => ?_
  refine Calls.introU D rfl fun A L h₀ l s₀ hC hr' => ?_
  have hr := hr'.mono (d' := 10) (by decide)
  conv in bodyAt 14 => whnf
  (with_reducible refine WX.consU ?_); ((with_reducible refine WS.assign (by assumption) ?c117 ?_ ?s117); (case c117 => walk_at "can"); (case s117 => rfl))
  refine WE.callPure 12 hC (hr'.mono (by decide)) D2.fn ?_
  ((with_reducible refine WEs.cons ?_ ?he118); (case he118 => rfl)); ((with_reducible refine' WE.local' (by assumption) ?lk119 ?_ ?k119 ?d119); (case k119 => rfl); (case d119 => decide); (case lk119 => walk_at "lk")); ((with_reducible refine WEs.cons ?_ ?he120); (case he120 => rfl)); ((with_reducible refine' WE.local' (by assumption) ?lk121 ?_ ?k121 ?d121); (case k121 => rfl); (case d121 => decide); (case lk121 => walk_at "lk")); ((with_reducible refine WEs.cons ?_ ?he122); (case he122 => rfl)); ((with_reducible refine' WE.local' (by assumption) ?lk123 ?_ ?k123 ?d123); (case k123 => rfl); (case d123 => decide); (case lk123 => walk_at "lk")); (with_reducible refine WEs.nil ?_)
  refine ⟨_, sorted_place_spec hW hz hw hb hl hn h1 h2, ?_⟩
  have hl' : (rows.map rowD).length ≤ sizeLine := by simp; exact Nat.le_trans hl (by decide)
  have s1000 : 2100 ≤ sizeLine := by decide
  (with_reducible (refine WX.consU ?_; refine WS.ret ?_; refine WE.binopU (by assumption) (by assumption) ?_; refine WE.binopU (by assumption) (by assumption) ?_)); ((with_reducible refine WE.sliceTo (by assumption) ?_ ?a124); (case a124 => (intro _ _; rfl))); ((with_reducible refine' WE.local' (by assumption) ?lk125 ?_ ?k125 ?d125); (case k125 => rfl); (case d125 => decide); (case lk125 => walk_at "lk")); ((with_reducible refine' WE.local' (by assumption) ?lk126 ?_ ?k126 ?d126); (case k126 => rfl); (case d126 => decide); (case lk126 => walk_at "lk"))
  refine ⟨_, _, rfl, rfl, by lia, hl', ?_⟩
  refine WE.listU hC ?_
  ((with_reducible refine WEs.cons ?_ ?he127); (case he127 => rfl)); ((with_reducible refine' WE.local' (by assumption) ?lk128 ?_ ?k128 ?d128); (case k128 => rfl); (case d128 => decide); (case lk128 => walk_at "lk")); (with_reducible (refine WEs.nil ?_; refine Dats.cons ?_; refine Dats.nil ⟨Nat.le_of_ble_eq_true rfl, ?_⟩))
  refine Ope.add_list (by simp; lia) ?_
  ((with_reducible refine WE.sliceFrom (by assumption) ?_ ?a129); (case a129 => (intro _ _; rfl))); ((with_reducible refine' WE.local' (by assumption) ?lk130 ?_ ?k130 ?d130); (case k130 => rfl); (case d130 => decide); (case lk130 => walk_at "lk")); ((with_reducible refine' WE.local' (by assumption) ?lk131 ?_ ?k131 ?d131); (case k131 => rfl); (case d131 => decide); (case lk131 => walk_at "lk"))
  refine ⟨_, _, rfl, rfl, by lia, by simp; exact hn, hl', ?_⟩
  refine Ope.add_list (by simp; lia) ?_
  refine .ret (hQ _ _ ⟨?_, rfl⟩)
  simp

end
section


noncomputable def mergeR (ks : List KeyT) : List RowT → List RowT → List RowT
  | [], bs => bs
  | a :: as, [] => a :: as
  | a :: as, b :: bs => if ahead ks a b then a :: mergeR ks as (b :: bs) else b :: mergeR ks (a :: as) bs
termination_by as bs => as.length + bs.length
theorem merge_nil_right (ks : List KeyT) (as : List RowT) : mergeR ks as [] = as := by cases as <;> simp [mergeR]
theorem merge_nil_left (ks : List KeyT) (bs : List RowT) : mergeR ks [] bs = bs := by simp [mergeR]
theorem merge_len (ks : List KeyT) (as bs : List RowT) : (mergeR ks as bs).length = as.length + bs.length := by
  fun_induction mergeR ks as bs <;> simp_all <;> lia
noncomputable def rowsV (l : List RowT) : List V := l.map fun r => .dat (rowD r)
theorem rowsV_dat (l : List RowT) : rowsV l = (l.map rowD).map V.dat := by simp [rowsV]

theorem merged_spec (hW : IsW W) {ks : List KeyT} {one other : List RowT} {mu : Mu} (hz : ks.length ≤ 9) (h1 : ∀ r ∈ one, WsOk ks r.2) (h2 : ∀ r ∈ other, WsOk ks r.2) (hl1 : one.length ≤ 1000) (hl2 : other.length ≤ 1000) :
    Calls W 12 (.ref 120) [.dat (.list (ks.map keyD)), .dat (.list (one.map rowD)), .dat (.list (other.map rowD))] mu fun x mu' => x = .dat (.list ((mergeR ks one other).map rowD)) ∧ mu' = mu := by
  obtain ⟨fd, D⟩ := D_merged_rows hW
  obtain ⟨fd2, D2⟩ := D_is_ahead hW
  refine Calls.named fun Q hQ => ?_
  refine Calls.introU D rfl fun A L h₀ l s₀ hC hr' => ?_
  have hr := hr'.mono (d' := 10) (by decide)
  have s1000 : 2100 ≤ sizeLine := by decide
  conv in bodyAt 15 => whnf
  (with_reducible refine WX.consU ?_); ((with_reducible refine' WS.assignSwapU (by assumption) (by assumption) ?c132 ?_ ?s132 ?w132); (case w132 => rfl); (case s132 => rfl); (case c132 => (repeat (first | exact .nil | refine .cons (.loc rfl) ?_)))); ((with_reducible refine WEs.cons ?_ ?he133); (case he133 => rfl))
  refine WE.listMu hC (WEs.nil ⟨by decide, fun f => ?_⟩)
  ((with_reducible refine WEs.cons ?_ ?he134); (case he134 => rfl)); (with_reducible refine WE.const_int (by assumption) ?_); ((with_reducible refine WEs.cons ?_ ?he135); (case he135 => rfl)); (with_reducible (refine WE.const_int (by assumption) ?_; refine WEs.nil ?_)); ((with_reducible refine SwapK.mk ?a136 ?b136 ?_); (case a136 => exact Nat.le_of_ble_eq_true rfl); (case b136 => rfl)); (with_reducible refine WX.consU ?_)
  let J4 : Nat → St → Prop := fun m σ => Ex4 fun (done : List RowT) (i j : Nat) (loc : List (Str × V)) => A12 (σ = ⟨loc, (f, rowsV done) :: mu⟩) (i ≤ one.length) (j ≤ other.length) (done.length ≤ i + j) (m = (one.length - i) + (other.length - j)) (done ++ mergeR ks (one.drop i) (other.drop j) = mergeR ks one other) (loc.lookup (Str.ofString "found") = some (.ref f)) (loc.lookup (Str.ofString "at") = some (.dat (.int (i : Nat)))) (loc.lookup (Str.ofString "spot") = some (.dat (.int (j : Nat)))) (loc.lookup (Str.ofString "keys") = some (.dat (.list (ks.map keyD)))) (loc.lookup (Str.ofString "one") = some (.dat (.list (one.map rowD)))) (loc.lookup (Str.ofString "other") = some (.dat (.list (other.map rowD))))
  refine WS.while J4
    ⟨[], 0, 0, _, rfl, by lia, by lia, by simp, rfl, rfl, by walk_at "lk", by walk_at "lk", by walk_at "lk", by walk_at "lk", by walk_at "lk", by walk_at "lk"⟩ ?_
  rintro m σ ⟨done, i, j, loc, rfl, hi, hj, hd, rfl, e, l1, l2, l3, l4, l5, l6⟩
  have e1 : ∀ r, one[i]? = some r → one.drop i = r :: one.drop (i + 1) := fun r h => by
    obtain ⟨t, q⟩ := List.getElem?_eq_some_iff.mp h
    rw [List.drop_eq_getElem_cons t, q]
  have e2 : ∀ r, other[j]? = some r → other.drop j = r :: other.drop (j + 1) := fun r h => by
    obtain ⟨t, q⟩ := List.getElem?_eq_some_iff.mp h
    rw [List.drop_eq_getElem_cons t, q]
  refine WT.mono (kb := fun b σ1 => σ1 = ⟨loc, (f, rowsV done) :: mu⟩ ∧ (b = true → i < one.length ∨ j < other.length) ∧ (b = false → i = one.length ∧ j = other.length)) ?_ ?_
  · (with_reducible refine WT.or ?_); ((with_reducible refine WT.cmpU (by assumption) (by assumption) ?_ ?m137); (case m137 => rfl)); ((with_reducible refine' WE.local' (by assumption) ?lk138 ?_ ?k138 ?d138); (case k138 => rfl); (case d138 => decide); (case lk138 => walk_at "lk")); ((with_reducible refine WE.len (by assumption) ?b139 ?_ ?x139 ?h139); (case b139 => exact blt_len (by assumption)); (case x139 => rfl); (case h139 => rfl)); ((with_reducible refine' WE.local' (by assumption) ?lk140 ?_ ?k140 ?d140); (case k140 => rfl); (case d140 => decide); (case lk140 => walk_at "lk"))
    refine ⟨_, .list, by simp; lia, ?_⟩
    (with_reducible refine OpeB.lt_int ?_)
    refine ⟨fun h => ⟨rfl, fun _ => .inl (by simpa using h), fun q => by cases q⟩, fun h => ?_⟩
    (with_reducible refine WT.or ?_); ((with_reducible refine WT.cmpU (by assumption) (by assumption) ?_ ?m141); (case m141 => rfl)); ((with_reducible refine' WE.local' (by assumption) ?lk142 ?_ ?k142 ?d142); (case k142 => rfl); (case d142 => decide); (case lk142 => walk_at "lk")); ((with_reducible refine WE.len (by assumption) ?b143 ?_ ?x143 ?h143); (case b143 => exact blt_len (by assumption)); (case x143 => rfl); (case h143 => rfl)); ((with_reducible refine' WE.local' (by assumption) ?lk144 ?_ ?k144 ?d144); (case k144 => rfl); (case d144 => decide); (case lk144 => walk_at "lk"))
    refine ⟨_, .list, by simp; lia, ?_⟩
    (with_reducible refine OpeB.lt_int ?_)
    have h : one.length ≤ i := by simpa using h
    refine ⟨fun h' => ⟨rfl, fun _ => .inr (by simpa using h'), fun q => by cases q⟩, fun h' => ?_⟩
    (with_reducible refine WT.or_nil ?_)
    have h' : other.length ≤ j := by simpa using h'
    exact ⟨rfl, fun q => (by cases q), fun _ => by lia⟩
  · rintro b σ' ⟨rfl, ht, hf⟩
    refine ⟨fun hb => ?_, fun hb => ?_⟩
    · have hij := ht hb
      (with_reducible refine WX.consU ?_)
      (with_reducible refine WS.ite ?_)
      refine WT.mono (kb := fun b σ1 => σ1 = ⟨loc, (f, rowsV done) :: mu⟩ ∧ (b = true → i < one.length ∧ ∀ r s, one[i]? = some r → other[j]? = some s → ahead ks r s = true) ∧ (b = false → j < other.length ∧ ∀ r s, one[i]? = some r → other[j]? = some s → ahead ks r s = false)) ?_ ?_
      · (with_reducible refine WT.or ?_); ((with_reducible refine WT.cmpU (by assumption) (by assumption) ?_ ?m145); (case m145 => rfl)); ((with_reducible refine' WE.local' (by assumption) ?lk146 ?_ ?k146 ?d146); (case k146 => rfl); (case d146 => decide); (case lk146 => walk_at "lk")); ((with_reducible refine WE.len (by assumption) ?b147 ?_ ?x147 ?h147); (case b147 => exact blt_len (by assumption)); (case x147 => rfl); (case h147 => rfl)); ((with_reducible refine' WE.local' (by assumption) ?lk148 ?_ ?k148 ?d148); (case k148 => rfl); (case d148 => decide); (case lk148 => walk_at "lk"))
        refine ⟨_, .list, by simp; lia, ?_⟩
        refine OpeB.eq rfl rfl ⟨fun h => ⟨rfl, fun _ => ?_, fun q => by cases q⟩, fun h => ?_⟩
        · have h : j = other.length := by simp [PyData.eqv] at h; lia
          refine ⟨by lia, fun r s _ q => ?_⟩
          have := (List.getElem?_eq_some_iff.mp q).1
          lia
        · have h : j < other.length := by
            simp [PyData.eqv] at h; lia
          (with_reducible (refine WT.or ?_; refine WT.and ?_)); ((with_reducible refine WT.cmpU (by assumption) (by assumption) ?_ ?m149); (case m149 => rfl)); ((with_reducible refine' WE.local' (by assumption) ?lk150 ?_ ?k150 ?d150); (case k150 => rfl); (case d150 => decide); (case lk150 => walk_at "lk")); ((with_reducible refine WE.len (by assumption) ?b151 ?_ ?x151 ?h151); (case b151 => exact blt_len (by assumption)); (case x151 => rfl); (case h151 => rfl)); ((with_reducible refine' WE.local' (by assumption) ?lk152 ?_ ?k152 ?d152); (case k152 => rfl); (case d152 => decide); (case lk152 => walk_at "lk"))
          refine ⟨_, .list, by simp; lia, ?_⟩
          (with_reducible refine OpeB.lt_int ?_)
          obtain ⟨r2, g2⟩ : ∃ r, other[j]? = some r := ⟨other[j], List.getElem?_eq_getElem h⟩
          refine ⟨fun h' => ⟨fun q => (by cases q), fun _ => ?_⟩, fun h' => ?_⟩
          · (with_reducible refine WT.or_nil ?_)
            refine ⟨rfl, fun q => (by cases q), fun _ => ⟨h, fun r s q _ => ?_⟩⟩
            have := (List.getElem?_eq_some_iff.mp q).1
            simp at h'; lia
          have h' : i < one.length := by simpa using h'
          obtain ⟨r1, g1⟩ : ∃ r, one[i]? = some r := ⟨one[i], List.getElem?_eq_getElem h'⟩
          (with_reducible refine WT.and ?_)
          ((with_reducible refine WT.plainU ?_ ?p153); (case p153 => rfl))
          refine WE.callPure 11 hC (hr'.mono (by decide)) D2.fn ?_
          ((with_reducible refine WEs.cons ?_ ?he154); (case he154 => rfl)); ((with_reducible refine' WE.local' (by assumption) ?lk155 ?_ ?k155 ?d155); (case k155 => rfl); (case d155 => decide); (case lk155 => walk_at "lk")); ((with_reducible refine WEs.cons ?_ ?he156); (case he156 => rfl)); ((with_reducible refine WE.subU (by assumption) (by assumption) ?_ ?s157); (case s157 => (intro _ _; rfl))); ((with_reducible refine' WE.local' (by assumption) ?lk158 ?_ ?k158 ?d158); (case k158 => rfl); (case d158 => decide); (case lk158 => walk_at "lk")); ((with_reducible refine' WE.local' (by assumption) ?lk159 ?_ ?k159 ?d159); (case k159 => rfl); (case d159 => decide); (case lk159 => walk_at "lk"))
          refine ⟨_, .list (i := (i : Int)) (d := rowD r1) (by lia) (by lia) (by simp [g1]), ?_⟩
          ((with_reducible refine WEs.cons ?_ ?he160); (case he160 => rfl)); ((with_reducible refine WE.subU (by assumption) (by assumption) ?_ ?s161); (case s161 => (intro _ _; rfl))); ((with_reducible refine' WE.local' (by assumption) ?lk162 ?_ ?k162 ?d162); (case k162 => rfl); (case d162 => decide); (case lk162 => walk_at "lk")); ((with_reducible refine' WE.local' (by assumption) ?lk163 ?_ ?k163 ?d163); (case k163 => rfl); (case d163 => decide); (case lk163 => walk_at "lk"))
          refine ⟨_, .list (i := (j : Int)) (d := rowD r2) (by lia) (by lia) (by simp [g2]), ?_⟩
          (with_reducible refine WEs.nil ?_)
          refine ⟨_, is_ahead_spec hW hz (h1 r1 (List.mem_of_getElem? g1)) (h2 r2 (List.mem_of_getElem? g2)), ?_⟩
          (with_reducible refine BoolV.mk ?_)
          refine ⟨fun hd => ⟨fun q => (by cases q), fun _ => ?_⟩, fun hd => ?_⟩
          · (with_reducible refine WT.or_nil ?_)
            refine ⟨rfl, fun q => (by cases q), fun _ => ⟨h, fun r s q q2 => ?_⟩⟩
            rw [g1] at q; cases q; rw [g2] at q2; cases q2; exact hd
          · (with_reducible refine WT.and_nil ?_)
            refine ⟨fun _ => ⟨rfl, fun _ => ⟨h', fun r s q q2 => ?_⟩, fun q => (by cases q)⟩, fun q => (by cases q)⟩
            rw [g1] at q; cases q; rw [g2] at q2; cases q2; exact hd
      · rintro b σ' ⟨rfl, ht, hf⟩
        refine ⟨fun hb => ?_, fun hb => ?_⟩
        · obtain ⟨hi', ha⟩ := ht hb
          obtain ⟨r, g⟩ : ∃ r, one[i]? = some r := ⟨one[i], List.getElem?_eq_getElem hi'⟩
          (with_reducible refine WX.consU ?_); ((with_reducible refine WS.expr ?_ ?a164 ?b164); (case a164 => rfl); (case b164 => rfl)); ((with_reducible refine WE.append (by assumption) ?_ ?a165 ?b165); (case a165 => rfl); (case b165 => rfl)); ((with_reducible refine' WE.local' (by assumption) ?lk166 ?_ ?k166 ?d166); (case k166 => rfl); (case d166 => decide); (case lk166 => walk_at "lk"))
          refine ⟨f, rfl, ⟨_, .head _⟩, ?_⟩
          ((with_reducible refine WE.subU (by assumption) (by assumption) ?_ ?s167); (case s167 => (intro _ _; rfl))); ((with_reducible refine' WE.local' (by assumption) ?lk168 ?_ ?k168 ?d168); (case k168 => rfl); (case d168 => decide); (case lk168 => walk_at "lk")); ((with_reducible refine' WE.local' (by assumption) ?lk169 ?_ ?k169 ?d169); (case k169 => rfl); (case d169 => decide); (case lk169 => walk_at "lk"))
          refine ⟨_, .list (i := (i : Int)) (d := rowD r) (by lia) (by lia) (by simp [g]), ?_⟩
          refine ⟨_, .head _, ?_, rfl, ?_⟩
          · simp [rowsV]; lia
          refine WX.nd fun nd => ?_
          refine WX.muEq (setMu_hit (List.nodup_cons.mp (by rw [setMu_keys] at nd; exact nd)).1) ?_
          (with_reducible refine WX.consU ?_); ((with_reducible refine WS.assign (by assumption) ?c170 ?_ ?s170); (case c170 => walk_at "can"); (case s170 => rfl)); (with_reducible refine WE.binopU (by assumption) (by assumption) ?_); ((with_reducible refine' WE.local' (by assumption) ?lk171 ?_ ?k171 ?d171); (case k171 => rfl); (case d171 => decide); (case lk171 => walk_at "lk")); (with_reducible (refine WE.const_int (by assumption) ?_; refine Ope.add_int ?_; refine WX.nil ?_; refine WX.nil ?_))
          refine ⟨(one.length - (i + 1)) + (other.length - j), by lia, done ++ [r], i + 1, j, _, congrArg (fun z => St.mk _ ((f, z) :: mu)) (?_ : _ ++ [_] = _), by lia, hj, by simp; lia, rfl, ?_, by walk_at "lk", by walk_at "lk", by walk_at "lk", by walk_at "lk", by walk_at "lk", by walk_at "lk"⟩
          · simp [rowsV]
          · rw [← e, e1 r g]
            by_cases hjl : j < other.length
            · have g2 := List.getElem?_eq_getElem hjl
              rw [e2 _ g2, mergeR, if_pos (ha _ _ g g2), List.append_assoc]; rfl
            · rw [List.drop_eq_nil_of_le (as := other) (by lia), merge_nil_right, merge_nil_right, List.append_assoc]; rfl
        · obtain ⟨hj', ha⟩ := hf hb
          obtain ⟨r, g⟩ : ∃ r, other[j]? = some r := ⟨other[j], List.getElem?_eq_getElem hj'⟩
          (with_reducible refine WX.consU ?_); ((with_reducible refine WS.expr ?_ ?a172 ?b172); (case a172 => rfl); (case b172 => rfl)); ((with_reducible refine WE.append (by assumption) ?_ ?a173 ?b173); (case a173 => rfl); (case b173 => rfl)); ((with_reducible refine' WE.local' (by assumption) ?lk174 ?_ ?k174 ?d174); (case k174 => rfl); (case d174 => decide); (case lk174 => walk_at "lk"))
          refine ⟨f, rfl, ⟨_, .head _⟩, ?_⟩
          ((with_reducible refine WE.subU (by assumption) (by assumption) ?_ ?s175); (case s175 => (intro _ _; rfl))); ((with_reducible refine' WE.local' (by assumption) ?lk176 ?_ ?k176 ?d176); (case k176 => rfl); (case d176 => decide); (case lk176 => walk_at "lk")); ((with_reducible refine' WE.local' (by assumption) ?lk177 ?_ ?k177 ?d177); (case k177 => rfl); (case d177 => decide); (case lk177 => walk_at "lk"))
          refine ⟨_, .list (i := (j : Int)) (d := rowD r) (by lia) (by lia) (by simp [g]), ?_⟩
          refine ⟨_, .head _, ?_, rfl, ?_⟩
          · simp [rowsV]; lia
          refine WX.nd fun nd => ?_
          refine WX.muEq (setMu_hit (List.nodup_cons.mp (by rw [setMu_keys] at nd; exact nd)).1) ?_
          (with_reducible refine WX.consU ?_); ((with_reducible refine WS.assign (by assumption) ?c178 ?_ ?s178); (case c178 => walk_at "can"); (case s178 => rfl)); (with_reducible refine WE.binopU (by assumption) (by assumption) ?_); ((with_reducible refine' WE.local' (by assumption) ?lk179 ?_ ?k179 ?d179); (case k179 => rfl); (case d179 => decide); (case lk179 => walk_at "lk")); (with_reducible (refine WE.const_int (by assumption) ?_; refine Ope.add_int ?_; refine WX.nil ?_; refine WX.nil ?_))
          refine ⟨(one.length - i) + (other.length - (j + 1)), by lia, done ++ [r], i, j + 1, _, congrArg (fun z => St.mk _ ((f, z) :: mu)) (?_ : _ ++ [_] = _), hi, by lia, by simp; lia, rfl, ?_, by walk_at "lk", by walk_at "lk", by walk_at "lk", by walk_at "lk", by walk_at "lk", by walk_at "lk"⟩
          · simp [rowsV]
          · rw [← e, e2 r g]
            by_cases hil : i < one.length
            · have g2 := List.getElem?_eq_getElem hil
              rw [e1 _ g2, mergeR, if_neg (by rw [ha _ _ g2 g]; decide), List.append_assoc]; rfl
            · rw [List.drop_eq_nil_of_le (as := one) (by lia), merge_nil_left, merge_nil_left, List.append_assoc]; rfl
    · obtain ⟨rfl, rfl⟩ := hf hb
      have e : done = mergeR ks one other := by rw [← e]; simp [merge_nil_left]
      refine WX.nd fun nd => ?_
      (with_reducible refine WX.consU ?_)
      (with_reducible refine WS.ret ?_)
      refine WE.frozen hC ?_
      ((with_reducible refine' WE.local' (by assumption) ?lk180 ?_ ?k180 ?d180); (case k180 => rfl); (case d180 => decide); (case lk180 => walk_at "lk"))
      refine ⟨f, done.map rowD, rfl, by rw [← rowsV_dat]; exact .head _, .ret (hQ _ _ ?_)⟩
      rw [freeze_mu (List.nodup_cons.mp nd).1, e]
      exact ⟨rfl, rfl⟩

end
section


theorem pen_spec (hW : IsW W) {ns : List Int} (hl : ns.length ≤ 63) :
    Calls W 11 (.ref 126) [.dat (.list (ns.map .int))] [] fun x mu' => ∃ p c, x = .ref p ∧ PenMu p c 0 mu' := by
  obtain ⟨fd, D⟩ := D_law_pen hW
  refine Calls.named fun Q hQ => ?_
  refine Calls.introU D rfl fun A L h₀ l s₀ hC hr => ?_
  have s1000 : 2100 ≤ sizeLine := by decide
  conv in bodyAt 20 => whnf
  (with_reducible (refine WX.consU ?_; refine WS.ret ?_))
  refine WE.listMu hC ?_
  ((with_reducible refine WEs.cons ?_ ?he181); (case he181 => rfl))
  refine WE.comp hC ?_
  unfold CompH
  refine WI.list hC hr ?_
  ((with_reducible refine WE.sliceTo (by assumption) ?_ ?a182); (case a182 => (intro _ _; rfl))); ((with_reducible refine' WE.local' (by assumption) ?lk183 ?_ ?k183 ?d183); (case k183 => rfl); (case d183 => decide); (case lk183 => walk_at "lk")); (with_reducible refine WE.const_int (by assumption) ?_)
  refine ⟨_, _, rfl, rfl, by lia, by simp; lia, ?_⟩
  refine ⟨_, rfl, by simp; lia, [], .nil, fun Cl h₀ l hCi => ?_⟩
  let J5 : List PyData → List PyData → St → Prop := fun xs acc σ => σ.mu = [] ∧ Ex2 fun is js : List Int => A4 (xs = is.map .int) (acc = js.map .int) (js.length + is.length ≤ 40) (∀ x ∈ js, 0 ≤ x ∧ x < 10 ^ 60)
  refine CompW.gen J5 ?_ ?_ _ _ _ ⟨rfl, ns.take 40, [], by simp [← List.map_take], rfl, by simp; lia, by simp⟩
  · rintro acc σ ⟨em, is, js, ex, ea, hle, hx⟩
    refine FinC.mu fun c => ?_
    ((with_reducible refine WEs.cons ?_ ?he184); (case he184 => rfl)); (with_reducible refine WE.const_int (by assumption) ?_); ((with_reducible refine WEs.cons ?_ ?he185); (case he185 => rfl)); (with_reducible (refine WE.const_int (by assumption) ?_; refine WEs.nil ?_))
    refine ⟨Nat.le_of_ble_eq_true rfl, fun p => .ret (hQ _ _ ⟨p, c, rfl, ?_⟩)⟩
    rw [em, ea]
    exact PenMu.mk (cells := js) (by simp [intsV]) (by lia) (by lia) (by lia) (by lia) hx
  · rintro x xs acc ⟨loc, mu⟩ ⟨em, is, js, ex, ea, hle, hx⟩ h₀ l hC
    obtain rfl : mu = [] := em
    obtain ⟨i, is, rfl, rfl, rfl⟩ : Ex2 fun i is' => A3 (is = i :: is') (x = .int i) (xs = is'.map .int) := by
      cases is with
      | nil => cases ex
      | cons k rest => cases ex; exact ⟨k, rest, rfl, rfl, rfl⟩
    ((with_reducible refine WA.name (by assumption) ?c186 ?_); (case c186 => walk_at "can")); (with_reducible refine WE.binopU (by assumption) (by assumption) ?_); ((with_reducible refine WE.absU (by assumption) ?b187 ?_ ?x187 ?h187); (case b187 => exact blt_abs (by assumption)); (case x187 => rfl); (case h187 => rfl)); ((with_reducible refine WE.intU (by assumption) ?b188 ?_ ?x188 ?h188); (case b188 => exact blt_int (by assumption)); (case x188 => rfl); (case h188 => rfl)); ((with_reducible refine' WE.local' (by assumption) ?lk189 ?_ ?k189 ?d189); (case k189 => rfl); (case d189 => decide); (case lk189 => walk_at "lk")); (with_reducible (refine IntV.mk ?_; refine IntV.mk ?_; refine WE.binopU (by assumption) (by assumption) ?_; refine WE.const_int (by assumption) ?_; refine WE.const_int (by assumption) ?_))
    refine Ope.mk (Op2.pow_int (by lia) (by lia) (by decide)) ?_
    have e60 : (10 : Int) ^ (60 : Int).toNat = 10 ^ 60 := rfl
    rw [e60]
    refine Ope.mod_int (by decide) ?_
    refine ⟨_, rfl, rfl, is, js ++ [_], rfl, by rw [List.map_append, ea]; rfl, by simp at hle ⊢; lia, fun x hx' => ?_⟩
    rcases List.mem_append.mp hx' with h | h
    · exact hx x h
    · rw [List.mem_singleton.mp h]
      exact ⟨Int.fmod_nonneg_of_pos _ (by decide), Int.fmod_lt_of_pos _ (by decide)⟩

end
section


/-- a draw -/
theorem WE.drawn {C : Act} {σ : St} {k : V → St → Prop} {e1 e2 : Expr} {np pos : Pos} (p c : Addr) (hW : IsW W) (hC : ActOk W C) (hr : Rm 11 A)
    (h : WEs W A C pos [e1, e2] σ fun xs σ1 => Ex4 fun rest mu T many => A7 (xs = [.ref p, .dat (.int many)]) (σ1.mu = rest ++ mu) (PenMu p c T mu) (1 ≤ many) (many ≤ 10000) (T ≤ 1000000) (∀ r mu', 0 ≤ r → r < many → PenMu p c (T + 1) mu' → k (.dat (.int r)) ⟨σ1.loc, rest ++ mu'⟩))
    (hx : C.env.kindOf (Str.ofString "_law_drawn") = some .globalImplicit := by rfl)
    (hes : starEach [e1, e2] C.env = (false, eval e1 C.env) :: starEach [e2] C.env := by rfl) : WE W A C (.Call (.Name (Str.ofString "_law_drawn") np) [e1, e2] [] pos) σ k := by
  obtain ⟨fd, D⟩ := D_law_drawn hW
  refine WE.callFn 11 hC hr D.fn (wes_mono h fun xs σ1 hqq => ?_) hx (by decide) hes
  obtain ⟨rest, mu, T, many, ex, em, hp, h1, h2, hT, hk⟩ := hqq
  subst ex
  exact ⟨rest, mu, _, em, drawn_spec hW h1 h2 hT hp, fun x mu' ⟨r, er, h0, h1, hp'⟩ => by subst er; exact hk r mu' h0 h1 hp'⟩
theorem OpeB.in_tup {t : PyData} {ds : List PyData} {k : Bool → Prop} (h1 : SeqAt.shaped t = true) (h2 : SeqAt.shaped (.tuple ds) = true) (h : k (ds.any fun y => PyData.eqv y t)) : OpeB W (compareOp .In) (.dat t) (.dat (.tuple ds)) k := .mk (Op2.in_tup h1 h2) h
theorem OpeB.in_list {t : PyData} {ds : List PyData} {k : Bool → Prop} (h1 : SeqAt.shaped t = true) (h2 : SeqAt.shaped (.list ds) = true) (h : k (ds.any fun y => PyData.eqv y t)) : OpeB W (compareOp .In) (.dat t) (.dat (.list ds)) k := .mk (Op2.in_list h1 h2) h
theorem isNum_eq (w : Str) : ([PyData.str (Str.ofString "SIZE"), PyData.str (Str.ofString "DATE"), PyData.str (Str.ofString "ARRIVAL")].any fun y => PyData.eqv y (.str w)) = isNum w := by
  have e : ∀ x : Str, PyData.eqv (.str x) (.str w) = (w == x) := fun x => by
    simp only [PyData.eqv]
    rw [Bool.eq_iff_iff, beq_iff_eq, beq_iff_eq]; exact eq_comm
  simp [isNum, e, Bool.or_assoc]
theorem glob_signs (hW : IsW W) : ∃ t, nsIn W.K mainGlobals (Str.ofString "_law_signs") = some (some (.str ⟨#[65, 66, 32, 233, 65535, 128512]⟩ t)) :=
  ⟨357, by rw [hW.K]; generalize W.w.params = p; revert p; exact fun _ => by kernel_rfl⟩

theorem worth_spec (hW : IsW W) {p c : Addr} {T : Nat} {w : Str} {mu : Mu} (hw : SeqAt.shaped (.str w) = true) (hT : T ≤ 100000) (hp : PenMu p c T mu) :
    Calls W 12 (.ref 143) [.ref p, .dat (.str w)] mu fun x mu' => Ex2 fun d T' => A4 (x = .dat d) (WorthOk (isNum w) d) (T' ≤ T + 8) (PenMu p c T' mu') := by
  obtain ⟨fd, D⟩ := D_law_worth hW
  refine Calls.named fun Q hQ => ?_
  refine Calls.introU D rfl fun A L h₀ l s₀ hC hr' => ?_
  have hr := hr'.mono (d' := 10) (by decide)
  conv in bodyAt 23 => whnf
  (with_reducible (refine WX.consU ?_; refine WS.ite ?_)); ((with_reducible refine WT.cmpU (by assumption) (by assumption) ?_ ?m190); (case m190 => rfl)); ((with_reducible refine' WE.local' (by assumption) ?lk191 ?_ ?k191 ?d191); (case k191 => rfl); (case d191 => decide); (case lk191 => walk_at "lk")); (with_reducible refine WE.tupleU (by assumption) ?_); ((with_reducible refine WEs.cons ?_ ?he192); (case he192 => rfl)); (with_reducible refine WE.const_str (by assumption) ?_); ((with_reducible refine WEs.cons ?_ ?he193); (case he193 => rfl)); (with_reducible refine WE.const_str (by assumption) ?_); ((with_reducible refine WEs.cons ?_ ?he194); (case he194 => rfl)); (with_reducible (refine WE.const_str (by assumption) ?_; refine WEs.nil ?_; refine Dats.cons ?_; refine Dats.cons ?_; refine Dats.cons ?_; refine Dats.nil ⟨Nat.le_of_ble_eq_true rfl, ?_⟩))
  refine OpeB.in_tup hw (by decide +kernel) ?_
  rw [isNum_eq]
  refine ⟨fun hn => ?_, fun hn => ?_⟩
  · (with_reducible refine WX.consU ?_); ((with_reducible refine' WS.assignSwapU (by assumption) (by assumption) ?c195 ?_ ?s195 ?w195); (case w195 => rfl); (case s195 => rfl); (case c195 => (repeat (first | exact .nil | refine .cons (.loc rfl) ?_)))); ((with_reducible refine WEs.cons ?_ ?he196); (case he196 => rfl)); ((with_reducible refine WE.cmpU (by assumption) (by assumption) ?_ ?m197); (case m197 => rfl))
    refine WE.drawn p c hW hC hr' ?_ rfl rfl
    ((with_reducible refine WEs.cons ?_ ?he198); (case he198 => rfl)); ((with_reducible refine' WE.cell' (by assumption) ?lk199 ?_ ?k199 ?d199); (case k199 => rfl); (case d199 => decide); (case lk199 => walk_at "lk")); ((with_reducible refine WEs.cons ?_ ?he200); (case he200 => rfl)); (with_reducible (refine WE.const_int (by assumption) ?_; refine WEs.nil ?_))
    refine ⟨[], mu, T, 2, rfl, rfl, hp, by lia, by lia, by lia, fun r1 mu1 h0 h1 hp1 => ?_⟩
    (with_reducible refine WE.const_int (by assumption) ?_)
    refine Ope.eq rfl rfl ?_
    ((with_reducible refine WEs.cons ?_ ?he201); (case he201 => rfl)); ((with_reducible refine WE.subU (by assumption) (by assumption) ?_ ?s202); (case s202 => (intro _ _; rfl))); (with_reducible refine WE.tupleU (by assumption) ?_); ((with_reducible refine WEs.cons ?_ ?he203); (case he203 => rfl)); (with_reducible refine WE.const_int (by assumption) ?_); ((with_reducible refine WEs.cons ?_ ?he204); (case he204 => rfl)); (with_reducible refine WE.const_int (by assumption) ?_); ((with_reducible refine WEs.cons ?_ ?he205); (case he205 => rfl)); (with_reducible refine WE.const_int (by assumption) ?_); ((with_reducible refine WEs.cons ?_ ?he206); (case he206 => rfl)); (with_reducible (refine WE.const_int (by assumption) ?_; refine WEs.nil ?_; refine Dats.cons ?_; refine Dats.cons ?_; refine Dats.cons ?_; refine Dats.cons ?_; refine Dats.nil ⟨Nat.le_of_ble_eq_true rfl, ?_⟩))
    refine WE.drawn p c hW hC hr' ?_ rfl rfl
    ((with_reducible refine WEs.cons ?_ ?he207); (case he207 => rfl)); ((with_reducible refine' WE.cell' (by assumption) ?lk208 ?_ ?k208 ?d208); (case k208 => rfl); (case d208 => decide); (case lk208 => walk_at "lk")); ((with_reducible refine WEs.cons ?_ ?he209); (case he209 => rfl)); (with_reducible (refine WE.const_int (by assumption) ?_; refine WEs.nil ?_))
    refine ⟨[], mu1, _, 4, rfl, rfl, hp1, by lia, by lia, by lia, fun r2 mu2 h02 h12 hp2 => ?_⟩
    obtain ⟨m, hm, m1, m2⟩ : ∃ m : Int, A3 (([PyData.int 10, PyData.int 100, PyData.int 1000, PyData.int 10000])[r2.toNat]? = some (.int m)) (1 ≤ m) (m ≤ 10000) := by
      rcases (by lia : r2 = 0 ∨ r2 = 1 ∨ r2 = 2 ∨ r2 = 3) with rfl | rfl | rfl | rfl
      · exact ⟨10, rfl, by lia, by lia⟩
      · exact ⟨100, rfl, by lia, by lia⟩
      · exact ⟨1000, rfl, by lia, by lia⟩
      · exact ⟨10000, rfl, by lia, by lia⟩
    refine ⟨_, .tup h02 (by lia) hm, ?_⟩
    (with_reducible refine WEs.nil ?_); ((with_reducible refine SwapK.mk ?a210 ?b210 ?_); (case a210 => exact Nat.le_of_ble_eq_true rfl); (case b210 => rfl)); (with_reducible refine WX.consU ?_); ((with_reducible refine WS.assign (by assumption) ?c211 ?_ ?s211); (case c211 => walk_at "can"); (case s211 => rfl))
    refine WE.drawn p c hW hC hr' ?_ rfl rfl
    ((with_reducible refine WEs.cons ?_ ?he212); (case he212 => rfl)); ((with_reducible refine' WE.cell' (by assumption) ?lk213 ?_ ?k213 ?d213); (case k213 => rfl); (case d213 => decide); (case lk213 => walk_at "lk")); ((with_reducible refine WEs.cons ?_ ?he214); (case he214 => rfl)); ((with_reducible refine' WE.local' (by assumption) ?lk215 ?_ ?k215 ?d215); (case k215 => rfl); (case d215 => decide); (case lk215 => walk_at "lk")); (with_reducible refine WEs.nil ?_)
    refine ⟨[], mu2, _, m, rfl, rfl, hp2, by lia, by lia, by lia, fun r3 mu3 h03 h13 hp3 => ?_⟩
    (with_reducible (refine WX.consU ?_; refine WS.ret ?_; refine WE.ifexp ?_)); ((with_reducible refine WT.plainU ?_ ?p216); (case p216 => rfl)); ((with_reducible refine' WE.local' (by assumption) ?lk217 ?_ ?k217 ?d217); (case k217 => rfl); (case d217 => decide); (case lk217 => walk_at "lk")); (with_reducible refine BoolV.mk ?_)
    refine ⟨fun hb => ?_, fun hb => ?_⟩
    · (with_reducible refine WE.negU (by assumption) (by assumption) ?_); ((with_reducible refine' WE.local' (by assumption) ?lk218 ?_ ?k218 ?d218); (case k218 => rfl); (case d218 => decide); (case lk218 => walk_at "lk")); (with_reducible refine IntV.mk ?_)
      refine .ret (hQ _ _ ⟨_, _, rfl, ?_, ?_, hp3⟩)
      · rw [hn]; exact ⟨_, rfl⟩
      · lia
    · ((with_reducible refine' WE.local' (by assumption) ?lk219 ?_ ?k219 ?d219); (case k219 => rfl); (case d219 => decide); (case lk219 => walk_at "lk"))
      refine .ret (hQ _ _ ⟨_, _, rfl, ?_, ?_, hp3⟩)
      · rw [hn]; exact ⟨_, rfl⟩
      · lia
  · (with_reducible (refine WX.nil ?_; refine WX.consU ?_; refine WS.ret ?_)); ((with_reducible refine WE.join (by assumption) ?_ ?a220 ?b220); (case a220 => rfl); (case b220 => rfl)); (with_reducible refine WE.const_str (by assumption) ?_)
    refine ⟨_, rfl, by decide, ?_⟩
    refine WE.comp hC ?_
    unfold CompH
    ((with_reducible refine WI.range1 (by assumption) (by assumption) ?b221 ?_ ?x221 ?h221); (case b221 => exact blt_range (by assumption)); (case x221 => rfl); (case h221 => rfl))
    refine WE.drawn p c hW hC hr' ?_ rfl rfl
    ((with_reducible refine WEs.cons ?_ ?he222); (case he222 => rfl)); ((with_reducible refine' WE.cell' (by assumption) ?lk223 ?_ ?k223 ?d223); (case k223 => rfl); (case d223 => decide); (case lk223 => walk_at "lk")); ((with_reducible refine WEs.cons ?_ ?he224); (case he224 => rfl)); (with_reducible (refine WE.const_int (by assumption) ?_; refine WEs.nil ?_))
    refine ⟨[], mu, T, 5, rfl, rfl, hp, by lia, by lia, by lia, fun r mu1 h0 h1 hp1 => ?_⟩
    refine ⟨r, rfl, by lia, by lia, by simp [rangeD]; lia, _, .cons rfl rfl rfl rfl rfl .nil, fun Cl h₀ l hCi => ?_⟩
    let J6 : List PyData → List PyData → St → Prop := fun xs acc σ => Ex4 fun (mu : Mu) (loc : List (Str × V)) (T' : Nat) (js : List Nat) => A7 (σ = ⟨loc, mu⟩) (PenMu p c T' mu) (T' + xs.length ≤ T + 1 + r.toNat) (js.length + xs.length ≤ 4) (acc = js.map (fun c => .str ⟨#[c]⟩)) ((∀ c ∈ js, c ≤ 1114111)) (loc.lookup (Str.ofString "pen") = some (.ref p))
    refine CompW.gen J6
      ?_ ?_ _ _ _ ⟨_, _, T + 1, [], rfl, hp1, by simp [rangeD], by simp [rangeD]; lia, rfl, by simp, rfl⟩
    · rintro acc σ ⟨mu', loc, T', js, rfl, hp', hT', hjs, rfl, hx, hlk⟩
      refine FinC.dat ⟨js.map fun c => ⟨#[c]⟩, by simp, ?_, .ret (hQ _ _ ⟨_, T', rfl, ?_, by simp at hT'; lia, hp'⟩)⟩
      · have : (js.map fun c => (⟨#[c]⟩ : Str)).map (fun x => x.length) = List.replicate js.length 1 := by
          rw [List.map_map]; exact List.eq_replicate_iff.mpr ⟨by simp, by simp [Str.length]⟩
        rw [this]; simp at hjs ⊢; lia
      · rw [hn, join_signs]
        exact ⟨_, rfl, by simpa [Str.length] using hjs, by simpa using hx⟩
    · rintro x xs acc σ ⟨mu', loc, T', js, rfl, hp', hT', hjs, rfl, hx, hlk⟩ h₀ l hC
      simp at hT' hjs
      ((with_reducible refine WA.name (by assumption) ?c225 ?_); (case c225 => walk_at "can")); ((with_reducible refine WE.subU (by assumption) (by assumption) ?_ ?s226); (case s226 => (intro _ _; rfl)))
      obtain ⟨t, ht⟩ := glob_signs hW
      refine WE.globStr hC ht ?_ rfl (by decide)
      refine WE.drawn p c hW hC hr' ?_ rfl rfl
      ((with_reducible refine WEs.cons ?_ ?he227); (case he227 => rfl)); ((with_reducible refine' WE.cell' (by assumption) ?lk228 ?_ ?k228 ?d228); (case k228 => rfl); (case d228 => decide); (case lk228 => walk_at "lk")); ((with_reducible refine WEs.cons ?_ ?he229); (case he229 => rfl)); (with_reducible (refine WE.const_int (by assumption) ?_; refine WEs.nil ?_))
      refine ⟨[], mu', T', 6, rfl, rfl, hp', by lia, by lia, by lia, fun r2 mu2 h02 h12 hp2 => ?_⟩
      obtain ⟨m, hm, m1⟩ : ∃ m : Nat, (#[65, 66, 32, 233, 65535, 128512] : Array Nat)[r2.toNat]? = some m ∧ m ≤ 1114111 := by
        rcases (by lia : r2 = 0 ∨ r2 = 1 ∨ r2 = 2 ∨ r2 = 3 ∨ r2 = 4 ∨ r2 = 5) with rfl | rfl | rfl | rfl | rfl | rfl
        · exact ⟨65, rfl, by lia⟩
        · exact ⟨66, rfl, by lia⟩
        · exact ⟨32, rfl, by lia⟩
        · exact ⟨233, rfl, by lia⟩
        · exact ⟨65535, rfl, by lia⟩
        · exact ⟨128512, rfl, by lia⟩
      refine ⟨_, .str h02 (by lia) hm, _, rfl, mu2, _, _, js ++ [m], rfl, hp2, by lia, by simp; lia, by simp, fun c hc => ?_, by walk_at "lk"⟩
      rcases List.mem_append.mp hc with h | h
      · exact hx c h
      · rw [List.mem_singleton.mp h]; exact m1

end
section


noncomputable def lawNames : List Str := ["SIZE", "DATE", "ARRIVAL", "CC", "FROM", "TO", "SUBJECT", "DISPLAYFROM", "DISPLAYTO"].map Str.ofString
theorem glob_names (hW : IsW W) : Ex3 fun o vs n => A5 (nsIn W.K mainGlobals (Str.ofString "_law_names") = some (some (.ref 121))) (W.K.lookup 121 = some o) (o.cls = .type "tuple") (o.data = .seq vs n) (strsOf vs.toList = some lawNames) :=
  ⟨objAt W.w.params 121, match (objAt W.w.params 121).data with | .seq vs n => vs | _ => #[], match (objAt W.w.params 121).data with | .seq vs n => n | _ => 0,
    by rw [hW.K]; generalize W.w.params = p; revert p; exact fun _ => by kernel_rfl, by rw [hW.K]; exact lk _ _ (by kernel_rfl), by kernel_rfl, by kernel_rfl, by kernel_rfl⟩
noncomputable def CaseOf (w v : Str) : Prop := upperS v = w
noncomputable def keysV (l : List KeyT) : List V := l.map fun k => .dat (keyD k)
theorem keysV_dat (l : List KeyT) : keysV l = (l.map keyD).map V.dat := by simp [keysV]
noncomputable def KeysOk (ks : List KeyT) : Prop := ∀ k ∈ ks, k.1 ∈ lawNames

theorem filter_off {a : Addr} {mu : Mu} (h : a ∉ keys mu) : (mu.filter fun p => p.1 ≠ a) = mu := List.filter_eq_self.mpr fun p hp => by
  have : p.1 ≠ a := fun q => h (q ▸ List.mem_map_of_mem (f := fun p : Addr × List V => p.1) hp)
  simpa using this
theorem freeze_second {loc : List (Str × V)} {a b : Addr} {y z : List V} {mu : Mu} {d : PyData} (h : (keys ((b, y) :: (a, z) :: mu)).Nodup) : (St.freeze ⟨loc, (b, y) :: (a, z) :: mu⟩ a d).mu = (b, y) :: mu := by
  obtain ⟨n1, n2⟩ := List.nodup_cons.mp h
  have hb : b ≠ a := fun q => n1 (by subst q; exact .head _)
  show ((b, y) :: (a, z) :: mu).filter (fun p => p.1 ≠ a) = _
  rw [List.filter_cons_of_pos (by simpa using hb), List.filter_cons_of_neg (by simp), filter_off (List.nodup_cons.mp n2).1]
theorem lk_freeze {loc : List (Str × V)} {x : Str} {a b : Addr} {mu : Mu} {d : PyData} (h : loc.lookup x = some (.ref b)) (hb : b ≠ a) : (St.freeze ⟨loc, mu⟩ a d).loc.lookup x = some (.ref b) := by
  show (loc.map fun p => (p.1, thaw a d p.2)).lookup x = _
  rw [lookup_map, h]
  simp [thaw, hb]
theorem name_letters : ∀ v ∈ REV :: lawNames, v.length ≤ 11 ∧ ∀ c ∈ v.cps.toList, 65 ≤ c ∧ c ≤ 90 := by decide +kernel
theorem keys_spec (hW : IsW W) {p c : Addr} {T m : Nat} {mu : Mu} (hm0 : 1 ≤ m) (hm : m ≤ 9) (hT : T ≤ 100000) (hp : PenMu p c T mu) :
    Calls W 12 (.ref 138) [.ref p, .dat (.int (m : Nat))] mu fun x mu' => Ex3 fun (ks : List KeyT) (ws : List Str) (T' : Nat) => A6 (x = .dat (.tuple [.list (ks.map keyD), .list (ws.map .str)])) (ks.length = m) (KeysOk ks) (ws.map upperS = showKeys ks) (T' ≤ T + 27) (PenMu p c T' mu') := by
  obtain ⟨fd, D⟩ := D_law_keys hW
  refine Calls.named fun Q hQ => ?_
  refine Calls.introU D rfl fun A L h₀ l s₀ hC hr' => ?_
  have hr := hr'.mono (d' := 10) (by decide)
  conv in bodyAt 22 => whnf
  (with_reducible refine WX.consU ?_); ((with_reducible refine' WS.assignSwapU (by assumption) (by assumption) ?c230 ?_ ?s230 ?w230); (case w230 => rfl); (case s230 => rfl); (case c230 => (repeat (first | exact .nil | refine .cons (.loc rfl) ?_)))); ((with_reducible refine WEs.cons ?_ ?he231); (case he231 => rfl)); ((with_reducible refine WE.list_of (by assumption) ?b232 ?_ ?x232 ?h232); (case b232 => exact blt_list (by assumption)); (case x232 => rfl); (case h232 => rfl))
  obtain ⟨o, vs, n, g1, g2, g3, g4, g5⟩ := glob_names hW
  refine WE.globTup hC g1 g2 g3 g4 g5 ⟨lawNames.map .str, .inr rfl, by decide, ?_⟩ rfl (by decide)
  ((with_reducible refine WEs.cons ?_ ?he233); (case he233 => rfl))
  refine WE.listMu hC (WEs.nil ⟨by decide, fun k => ?_⟩)
  ((with_reducible refine WEs.cons ?_ ?he234); (case he234 => rfl))
  refine WE.listMu hC (WEs.nil ⟨by decide, fun w => ?_⟩)
  (with_reducible refine WEs.nil ?_); ((with_reducible refine SwapK.mk ?a235 ?b235 ?_); (case a235 => exact Nat.le_of_ble_eq_true rfl); (case b235 => rfl)); (with_reducible refine WX.consU ?_); ((with_reducible refine WS.for (by assumption) ?_ ?s236); (case s236 => (intro _; rfl))); ((with_reducible refine WI.range1 (by assumption) (by assumption) ?b237 ?_ ?x237 ?h237); (case b237 => exact blt_range (by assumption)); (case x237 => rfl); (case h237 => rfl)); ((with_reducible refine' WE.local' (by assumption) ?lk238 ?_ ?k238 ?d238); (case k238 => rfl); (case d238 => decide); (case lk238 => walk_at "lk"))
  refine ⟨_, rfl, by lia, by lia, ?_⟩
  let J7 : List PyData → St → Prop := fun xs σ => Ex6 fun (ks : List KeyT) (ws rest : List Str) (T' : Nat) (mu' : Mu) (loc : List (Str × V)) => A12 (σ = ⟨loc, (w, strsV ws) :: (k, keysV ks) :: mu'⟩) (PenMu p c T' mu') (T' + 3 * xs.length ≤ T + 27) (ks.length + xs.length = m) (rest.length + ks.length = 9) ((∀ n ∈ rest, n ∈ lawNames)) (KeysOk ks) (ws.map upperS = showKeys ks) (loc.lookup (Str.ofString "rest") = some (.dat (.list (rest.map .str)))) (loc.lookup (Str.ofString "keys") = some (.ref k)) (loc.lookup (Str.ofString "words") = some (.ref w)) (loc.lookup (Str.ofString "pen") = some (.ref p))
  refine LoopW.gen J7
    ?_ ?_ _ _ ⟨[], [], lawNames, T, mu, _, rfl, hp, by simp [rangeD]; lia, by simp [rangeD], rfl, fun _ h => h, (by intro _ h; cases h), rfl, by walk_at "lk", by walk_at "lk", by walk_at "lk", by walk_at "lk"⟩
  · rintro σ ⟨ks, ws, rest, T', mu', loc, rfl, hp', hT', hm', hr9, hrest, hks, hws, l1, l2, l3, l4⟩
    refine WX.nd fun nd => ?_
    have hwk : w ≠ k := fun q => (List.nodup_cons.mp nd).1 (by subst q; exact .head _)
    (with_reducible refine WX.consU ?_)
    (with_reducible refine WS.ret ?_)
    (with_reducible refine WE.tupleU (by assumption) ?_)
    ((with_reducible refine WEs.cons ?_ ?he239); (case he239 => rfl))
    refine WE.frozen hC ?_
    ((with_reducible refine' WE.local' (by assumption) ?lk240 ?_ ?k240 ?d240); (case k240 => rfl); (case d240 => decide); (case lk240 => walk_at "lk"))
    refine ⟨k, ks.map keyD, rfl, by rw [← keysV_dat]; exact .tail _ (.head _), ?_⟩
    ((with_reducible refine WEs.cons ?_ ?he241); (case he241 => rfl))
    refine WE.frozen hC ?_
    refine WE.local' (v := .ref w) hC (lk_freeze l3 hwk) ?_ rfl (by decide)
    refine ⟨w, ws.map .str, rfl, ?_, ?_⟩
    · rw [freeze_second nd, ← strsV_dat]; exact .head _
    (with_reducible (refine WEs.nil ?_; refine Dats.cons ?_; refine Dats.cons ?_; refine Dats.nil ⟨Nat.le_of_ble_eq_true rfl, ?_⟩))
    refine .ret (hQ _ _ ⟨ks, ws, T', rfl, by simpa using hm', hks, hws, by simpa using hT', ?_⟩)
    have e2 : ((St.freeze ⟨loc, (w, strsV ws) :: (k, keysV ks) :: mu'⟩ k (.list (ks.map keyD))).freeze w (.list (ws.map .str))).mu = mu' := by
      have e1 := freeze_second (loc := loc) (d := .list (ks.map keyD)) nd
      show List.filter _ (St.mu _) = _
      rw [e1, List.filter_cons_of_neg (by simp), filter_off (fun q => (List.nodup_cons.mp nd).1 (.tail _ q))]
    rw [e2]
    exact hp'
  · rintro x xs σ ⟨ks, ws, rest, T', mu', loc, rfl, hp', hT', hm', hr9, hrest, hks, hws, l1, l2, l3, l4⟩ h₀ l hC
    simp at hT' hm'
    ((with_reducible refine WA.name (by assumption) ?c242 ?_); (case c242 => walk_at "can")); (with_reducible refine WX.consU ?_); ((with_reducible refine WS.assign (by assumption) ?c243 ?_ ?s243); (case c243 => walk_at "can"); (case s243 => rfl)); (with_reducible refine WE.binopU (by assumption) (by assumption) ?_)
    refine WE.drawn p c hW hC hr' ?_ rfl rfl
    ((with_reducible refine WEs.cons ?_ ?he244); (case he244 => rfl)); ((with_reducible refine' WE.local' (by assumption) ?lk245 ?_ ?k245 ?d245); (case k245 => rfl); (case d245 => decide); (case lk245 => walk_at "lk")); ((with_reducible refine WEs.cons ?_ ?he246); (case he246 => rfl)); (with_reducible refine WE.binopU (by assumption) (by assumption) ?_); ((with_reducible refine WE.len (by assumption) ?b247 ?_ ?x247 ?h247); (case b247 => exact blt_len (by assumption)); (case x247 => rfl); (case h247 => rfl)); ((with_reducible refine' WE.local' (by assumption) ?lk248 ?_ ?k248 ?d248); (case k248 => rfl); (case d248 => decide); (case lk248 => walk_at "lk"))
    have hne : 1 ≤ rest.length := by lia
    have hlen : (rest.map PyData.str).length = rest.length := List.length_map _
    refine ⟨_, .list, by simp; have : 2100 ≤ sizeLine := by decide
                         lia, ?_⟩
    (with_reducible (refine WE.const_int (by assumption) ?_; refine Ope.add_int ?_; refine WEs.nil ?_))
    refine ⟨[_, _], mu', T', _, rfl, rfl, hp', by lia, by lia, by lia, fun r1 mu1 h0 h1 hp1 => ?_⟩
    ((with_reducible refine WE.len (by assumption) ?b249 ?_ ?x249 ?h249); (case b249 => exact blt_len (by assumption)); (case x249 => rfl); (case h249 => rfl)); ((with_reducible refine' WE.local' (by assumption) ?lk250 ?_ ?k250 ?d250); (case k250 => rfl); (case d250 => decide); (case lk250 => walk_at "lk"))
    refine ⟨_, .list, by simp; have : 2100 ≤ sizeLine := by decide
                         lia, ?_⟩
    refine Ope.mod_int (by lia) ?_
    have hat : ∃ j : Nat, r1.fmod ((rest.map PyData.str).length : Nat) = (j : Int) ∧ j < rest.length := by
      rw [hlen]
      refine ⟨(r1.fmod (rest.length : Nat)).toNat, ?_, ?_⟩
      · have := Int.fmod_nonneg_of_pos r1 (b := (rest.length : Nat)) (by lia)
        lia
      · have := Int.fmod_nonneg_of_pos r1 (b := (rest.length : Nat)) (by lia)
        have := Int.fmod_lt_of_pos r1 (b := (rest.length : Nat)) (by lia)
        lia
    obtain ⟨j, ej, hj⟩ := hat
    rw [ej]
    obtain ⟨nm, hnm⟩ : ∃ nm, rest[j]? = some nm := ⟨rest[j], List.getElem?_eq_getElem hj⟩
    have hnmn := hrest nm (List.mem_of_getElem? hnm)
    (with_reducible refine WX.consU ?_); ((with_reducible refine' WS.assignTupU (by assumption) (by assumption) ?n251 ?_ ?s251 ?w251 ?t251); (case w251 => rfl); (case s251 => rfl); (case n251 => rfl); (case t251 => rfl)); ((with_reducible refine WEs.cons ?_ ?he252); (case he252 => rfl)); ((with_reducible refine WE.cmpU (by assumption) (by assumption) ?_ ?m253); (case m253 => rfl))
    refine WE.drawn p c hW hC hr' ?_ rfl rfl
    ((with_reducible refine WEs.cons ?_ ?he254); (case he254 => rfl)); ((with_reducible refine' WE.local' (by assumption) ?lk255 ?_ ?k255 ?d255); (case k255 => rfl); (case d255 => decide); (case lk255 => walk_at "lk")); ((with_reducible refine WEs.cons ?_ ?he256); (case he256 => rfl)); (with_reducible (refine WE.const_int (by assumption) ?_; refine WEs.nil ?_))
    refine ⟨[_, _], mu1, _, 2, rfl, rfl, hp1, by lia, by lia, by lia, fun r2 mu2 h02 h12 hp2 => ?_⟩
    (with_reducible refine WE.const_int (by assumption) ?_)
    refine Ope.eq rfl rfl ?_
    ((with_reducible refine WEs.cons ?_ ?he257); (case he257 => rfl))
    refine WE.drawn p c hW hC hr' ?_ rfl rfl
    ((with_reducible refine WEs.cons ?_ ?he258); (case he258 => rfl)); ((with_reducible refine' WE.local' (by assumption) ?lk259 ?_ ?k259 ?d259); (case k259 => rfl); (case d259 => decide); (case lk259 => walk_at "lk")); ((with_reducible refine WEs.cons ?_ ?he260); (case he260 => rfl)); (with_reducible (refine WE.const_int (by assumption) ?_; refine WEs.nil ?_))
    refine ⟨[_, _], mu2, _, 4096, rfl, rfl, hp2, by lia, by lia, by lia, fun r3 mu3 h03 h13 hp3 => ?_⟩
    (with_reducible refine WEs.nil ?_); ((with_reducible refine TupK.mk ?a261 ?b261 ?_); (case a261 => exact Nat.le_of_ble_eq_true rfl); (case b261 => rfl)); ((with_reducible refine WAs.cons ?_ ?he262); (case he262 => rfl)); ((with_reducible refine WA.name (by assumption) ?c263 ?_); (case c263 => walk_at "can")); ((with_reducible refine WAs.cons ?_ ?he264); (case he264 => rfl)); ((with_reducible refine WA.name (by assumption) ?c265 ?_); (case c265 => walk_at "can")); (with_reducible (refine WAs.nil ?_; refine WX.consU ?_)); ((with_reducible refine WS.expr ?_ ?a266 ?b266); (case a266 => rfl); (case b266 => rfl)); ((with_reducible refine WE.append (by assumption) ?_ ?a267 ?b267); (case a267 => rfl); (case b267 => rfl)); ((with_reducible refine' WE.local' (by assumption) ?lk268 ?_ ?k268 ?d268); (case k268 => rfl); (case d268 => decide); (case lk268 => walk_at "lk"))
    refine ⟨k, rfl, ⟨_, .tail _ (.head _)⟩, ?_⟩
    (with_reducible refine WE.tupleU (by assumption) ?_); ((with_reducible refine WEs.cons ?_ ?he269); (case he269 => rfl)); ((with_reducible refine WE.subU (by assumption) (by assumption) ?_ ?s270); (case s270 => (intro _ _; rfl))); ((with_reducible refine' WE.local' (by assumption) ?lk271 ?_ ?k271 ?d271); (case k271 => rfl); (case d271 => decide); (case lk271 => walk_at "lk")); ((with_reducible refine' WE.local' (by assumption) ?lk272 ?_ ?k272 ?d272); (case k272 => rfl); (case d272 => decide); (case lk272 => walk_at "lk"))
    refine ⟨_, .list (i := (j : Int)) (d := .str nm) (by lia) (by lia) (by simp [hnm]), ?_⟩
    ((with_reducible refine WEs.cons ?_ ?he273); (case he273 => rfl)); ((with_reducible refine' WE.local' (by assumption) ?lk274 ?_ ?k274 ?d274); (case k274 => rfl); (case d274 => decide); (case lk274 => walk_at "lk")); (with_reducible (refine WEs.nil ?_; refine Dats.cons ?_; refine Dats.cons ?_; refine Dats.nil ⟨Nat.le_of_ble_eq_true rfl, ?_⟩))
    refine ⟨keysV ks, .tail _ (.head _), by simp [keysV]; lia, rfl, ?_⟩
    refine WX.nd fun nd => ?_
    rw [setMu_keys] at nd
    have hwk : w ≠ k := fun q => (List.nodup_cons.mp nd).1 (by subst q; exact .head _)
    have hk3 : k ∉ keys mu3 := (List.nodup_cons.mp (List.nodup_cons.mp nd).2).1
    have hw3 : w ∉ keys mu3 := fun q => (List.nodup_cons.mp nd).1 (.tail _ q)
    generalize hrv : (PyData.eqv (PyData.int r2) (PyData.int 1)) = rv
    refine WX.muEq ((setMu_skip hwk).trans (congrArg _ (setMu_hit hk3))) ?_
    (with_reducible refine WX.consU ?_); ((with_reducible refine WS.for (by assumption) ?_ ?s275); (case s275 => (intro _; rfl)))
    refine WI.list (by assumption) hr ?_
    (with_reducible refine WE.binopU (by assumption) (by assumption) ?_)
    refine WE.same (.dat (.list ((if rv then [REV] else []).map .str))) ?_ ?_
    · (with_reducible refine WE.ifexp ?_); ((with_reducible refine WT.plainU ?_ ?p276); (case p276 => rfl)); ((with_reducible refine' WE.local' (by assumption) ?lk277 ?_ ?k277 ?d277); (case k277 => rfl); (case d277 => decide); (case lk277 => walk_at "lk")); (with_reducible refine BoolV.mk ?_)
      refine ⟨fun hb => ?_, fun hb => ?_⟩
      · refine WE.listU (by assumption) ?_
        ((with_reducible refine WEs.cons ?_ ?he278); (case he278 => rfl)); (with_reducible (refine WE.const_str (by assumption) ?_; refine WEs.nil ?_; refine Dats.cons ?_; refine Dats.nil ⟨Nat.le_of_ble_eq_true rfl, ?_⟩))
        exact ⟨by rw [hb]; rfl, rfl⟩
      · refine WE.listU (by assumption) ?_
        (with_reducible (refine WEs.nil ?_; refine Dats.nil ⟨Nat.le_of_ble_eq_true rfl, ?_⟩))
        exact ⟨by rw [hb]; rfl, rfl⟩
    · refine WE.listU (by assumption) ?_
      ((with_reducible refine WEs.cons ?_ ?he279); (case he279 => rfl)); ((with_reducible refine WE.subU (by assumption) (by assumption) ?_ ?s280); (case s280 => (intro _ _; rfl))); ((with_reducible refine' WE.local' (by assumption) ?lk281 ?_ ?k281 ?d281); (case k281 => rfl); (case d281 => decide); (case lk281 => walk_at "lk")); ((with_reducible refine' WE.local' (by assumption) ?lk282 ?_ ?k282 ?d282); (case k282 => rfl); (case d282 => decide); (case lk282 => walk_at "lk"))
      refine ⟨_, .list (i := (j : Int)) (d := .str nm) (by lia) (by lia) (by simp [hnm]), ?_⟩
      (with_reducible (refine WEs.nil ?_; refine Dats.cons ?_; refine Dats.nil ⟨Nat.le_of_ble_eq_true rfl, ?_⟩))
      have hsz : 2100 ≤ sizeLine := by decide
      refine Ope.add_list (by split <;> simp <;> lia) ?_
      refine ⟨_, rfl, ?_⟩
      have hone : (if rv then [REV] else []).map PyData.str ++ [PyData.str nm] = (showOne (nm, rv)).map .str := by cases rv <;> rfl
      rw [hone]
      have hlet : ∀ v ∈ showOne (nm, rv), v ∈ REV :: lawNames := fun v hv => by
        unfold showOne at hv
        split at hv
        · rcases List.mem_cons.mp hv with rfl | hv
          · exact .head _
          · rw [List.mem_singleton.mp hv]; exact .tail _ hnmn
        · rw [List.mem_singleton.mp hv]; exact .tail _ hnmn
      have hws2 : ws.length ≤ 18 := by
        have := congrArg List.length hws
        have h2 := show_len ks
        simp at this
        lia
      have hone2 : (showOne (nm, rv)).length ≤ 2 := by unfold showOne; split <;> simp
      let J8 : List PyData → St → Prop := fun xs σ => Ex4 fun (done rem : List Str) (loc : List (Str × V)) (y : List V) => A10 (σ = ⟨loc, (w, y) :: (k, keysV ks ++ [.dat (keyD (nm, rv))]) :: mu3⟩) (y = strsV (ws ++ done)) (done.map upperS ++ rem = showOne (nm, rv)) (xs = rem.map .str) (loc.lookup (Str.ofString "rest") = some (.dat (.list (rest.map .str)))) (loc.lookup (Str.ofString "keys") = some (.ref k)) (loc.lookup (Str.ofString "words") = some (.ref w)) (loc.lookup (Str.ofString "pen") = some (.ref p)) (loc.lookup (Str.ofString "mask") = some (.dat (.int r3))) (loc.lookup (Str.ofString "at") = some (.dat (.int (j : Nat))))
      refine LoopW.gen J8 ?_ ?_ _ _
        ⟨[], showOne (nm, rv), _, _, rfl, by rw [List.append_nil], rfl, rfl, by walk_at "lk", by walk_at "lk", by walk_at "lk", by walk_at "lk", by walk_at "lk", by walk_at "lk"⟩
      · rintro σ ⟨done, rem, loc, y, rfl, rfl, ed, ex, l1, l2, l3, l4, l5, l6⟩
        obtain rfl : rem = [] := by cases rem <;> first | rfl | cases ex
        rw [List.append_nil] at ed
        (with_reducible refine WX.consU ?_); ((with_reducible refine WS.assign (by assumption) ?c283 ?_ ?s283); (case c283 => walk_at "can"); (case s283 => rfl)); (with_reducible refine WE.binopU (by assumption) (by assumption) ?_); ((with_reducible refine WE.sliceTo (by assumption) ?_ ?a284); (case a284 => (intro _ _; rfl))); ((with_reducible refine' WE.local' (by assumption) ?lk285 ?_ ?k285 ?d285); (case k285 => rfl); (case d285 => decide); (case lk285 => walk_at "lk")); ((with_reducible refine' WE.local' (by assumption) ?lk286 ?_ ?k286 ?d286); (case k286 => rfl); (case d286 => decide); (case lk286 => walk_at "lk"))
        have hl' : (rest.map PyData.str).length ≤ sizeLine := by lia
        refine ⟨_, _, rfl, rfl, by lia, hl', ?_⟩
        ((with_reducible refine WE.sliceFrom (by assumption) ?_ ?a287); (case a287 => (intro _ _; rfl))); ((with_reducible refine' WE.local' (by assumption) ?lk288 ?_ ?k288 ?d288); (case k288 => rfl); (case d288 => decide); (case lk288 => walk_at "lk")); (with_reducible refine WE.binopU (by assumption) (by assumption) ?_); ((with_reducible refine' WE.local' (by assumption) ?lk289 ?_ ?k289 ?d289); (case k289 => rfl); (case d289 => decide); (case lk289 => walk_at "lk")); (with_reducible (refine WE.const_int (by assumption) ?_; refine Ope.add_int ?_))
        refine ⟨_, _, rfl, rfl, by lia, by lia, hl', ?_⟩
        refine Ope.add_list (by simp; lia) ?_
        (with_reducible refine WX.nil ?_)
        have e1 : ((j : Int) + 1).toNat = j + 1 := by lia
        have e2 : (rest.map PyData.str).take (j : Int).toNat ++ (rest.map PyData.str).drop ((j : Int) + 1).toNat = (rest.take j ++ rest.drop (j + 1)).map .str := by
          rw [e1]; simp
        rw [e2]
        refine ⟨ks ++ [(nm, rv)], ws ++ done, rest.take j ++ rest.drop (j + 1), _, mu3, _, congrArg (fun z => St.mk _ ((w, strsV (ws ++ done)) :: (k, z) :: mu3)) (show keysV ks ++ [_] = keysV (ks ++ [_]) by simp [keysV]), hp3, by lia, by simp; lia, by simp; lia, fun n hn => ?_, fun q hq => ?_, ?_, by walk_at "lk", by walk_at "lk", by walk_at "lk", by walk_at "lk"⟩
        · rcases List.mem_append.mp hn with h | h
          · exact hrest n (List.mem_of_mem_take h)
          · exact hrest n (List.mem_of_mem_drop h)
        · rcases List.mem_append.mp hq with h | h
          · exact hks q h
          · rw [List.mem_singleton.mp h]; exact hnmn
        · rw [List.map_append, hws, ed]; simp [showKeys]
      · rintro x xs σ ⟨done, rem, loc, y, rfl, rfl, ed, ex, l1, l2, l3, l4, l5, l6⟩ h₀ l hC
        obtain ⟨v, rem, rfl, rfl, rfl⟩ : Ex2 fun v rem' => A3 (rem = v :: rem') (x = .str v) (xs = rem'.map .str) := by
          cases rem with
          | nil => cases ex
          | cons v rest => cases ex; exact ⟨v, rest, rfl, rfl, rfl⟩
        have hw4 : ∀ y, w ∉ keys ((k, y) :: mu3) := fun y q => by
          rcases List.mem_cons.mp q with q | q
          · exact hwk q
          · exact hw3 q
        have hv : v ∈ REV :: lawNames := hlet v (by rw [← ed]; simp)
        obtain ⟨hv1, hv2⟩ := name_letters v hv
        have hdl : done.length ≤ 2 := by have := congrArg List.length ed; simp at this; lia
        ((with_reducible refine WA.name (by assumption) ?c290 ?_); (case c290 => walk_at "can")); (with_reducible refine WX.consU ?_); ((with_reducible refine WS.expr ?_ ?a291 ?b291); (case a291 => rfl); (case b291 => rfl)); ((with_reducible refine WE.append (by assumption) ?_ ?a292 ?b292); (case a292 => rfl); (case b292 => rfl)); ((with_reducible refine' WE.local' (by assumption) ?lk293 ?_ ?k293 ?d293); (case k293 => rfl); (case d293 => decide); (case lk293 => walk_at "lk"))
        refine ⟨w, rfl, ⟨_, .head _⟩, ?_⟩
        ((with_reducible refine WE.join (by assumption) ?_ ?a294 ?b294); (case a294 => rfl); (case b294 => rfl)); (with_reducible refine WE.const_str (by assumption) ?_)
        refine ⟨_, rfl, by decide, ?_⟩
        refine WE.comp (by assumption) ?_
        unfold CompH
        refine WI.enumStr (by assumption) hr (blt_enumerate hW) ?_ rfl rfl
        ((with_reducible refine' WE.local' (by assumption) ?lk295 ?_ ?k295 ?d295); (case k295 => rfl); (case d295 => decide); (case lk295 => walk_at "lk"))
        refine ⟨v, rfl, by rw [enumD_length, signsD_length]; show v.length ≤ _; lia, [(Str.ofString "mask", .dat (.int r3))], .cons rfl (by walk_at "lk") rfl rfl rfl .nil, fun Cl h₀ l hCi => ?_⟩
        let J9 : List PyData → List PyData → St → Prop := fun xs acc σ => Ex3 fun (i : Nat) (js : List Nat) (loc : List (Str × V)) => A6 (σ = ⟨loc, (w, strsV (ws ++ done)) :: (k, keysV ks ++ [.dat (keyD (nm, rv))]) :: mu3⟩) (i ≤ v.length) (xs = (((v.cps.toList.drop i).map fun c => PyData.str ⟨#[c]⟩).zipIdx i).map (fun p => .tuple [.int (p.2 : Nat), p.1])) (js.map upperC = v.cps.toList.take i) (acc = js.map (fun c => .str ⟨#[c]⟩)) (loc.lookup (Str.ofString "mask") = some (.dat (.int r3)))
        refine CompW.gen J9 ?_ ?_ _ _ _ ⟨0, [], _, rfl, Nat.zero_le _, rfl, rfl, rfl, by walk_at "lk"⟩
        · rintro acc σ ⟨i, js, loc', rfl, hi, ex, ejs, rfl, hlk⟩
          have hge : v.cps.toList.length ≤ i := by
            have := congrArg List.length ex
            simp at this ⊢
            lia
          rw [List.take_of_length_le hge] at ejs
          have hjl : js.length = v.cps.size := by have := congrArg List.length ejs; simpa using this
          have hvs : v.length = v.cps.size := rfl
          refine FinC.dat ⟨js.map fun c => ⟨#[c]⟩, by simp, ?_, ?_⟩
          · have : (js.map fun c => (⟨#[c]⟩ : Str)).map (fun x => x.length) = List.replicate js.length 1 := by
              rw [List.map_map]; exact List.eq_replicate_iff.mpr ⟨by simp, by simp [Str.length]⟩
            rw [this]; simp; lia
          rw [join_signs]
          refine ⟨_, .head _, by simp [strsV]; lia, rfl, ?_⟩
          refine WX.muEq (setMu_hit (hw4 _)) ?_
          (with_reducible refine WX.nil ?_)
          refine ⟨done ++ [⟨js.toArray⟩], rem, _, _, rfl, by simp [strsV], ?_, rfl, by walk_at "lk", by walk_at "lk", by walk_at "lk", by walk_at "lk", by walk_at "lk", by walk_at "lk"⟩
          rw [← ed]
          have : upperS ⟨js.toArray⟩ = v := by
            unfold upperS
            have : js.toArray.map upperC = v.cps := by
              apply Array.toList_inj.mp
              simpa using ejs
            rw [this]
          simp [this]
        · rintro x xs acc σ ⟨i, js, loc', rfl, hi, ex, ejs, rfl, hlk⟩ h₀ l hC
          have hlt : i < v.cps.toList.length := by
            apply Nat.lt_of_not_le
            intro h
            rw [List.drop_eq_nil_of_le h] at ex
            simp at ex
          rw [List.drop_eq_getElem_cons hlt] at ex
          simp only [List.map_cons, List.zipIdx_cons, List.cons.injEq] at ex
          obtain ⟨rfl, rfl⟩ := ex
          have hcl := hv2 _ (List.getElem_mem hlt)
          generalize hcc : v.cps.toList[i] = cc at *
          have etk : v.cps.toList.take (i + 1) = v.cps.toList.take i ++ [cc] := by rw [List.take_succ_eq_append_getElem hlt, hcc]
          refine WA.pair rfl hC hr ?_
          ((with_reducible refine WA.name (by assumption) ?c296 ?_); (case c296 => walk_at "can")); ((with_reducible refine WA.name (by assumption) ?c297 ?_); (case c297 => walk_at "can")); (with_reducible refine WE.ifexp ?_); ((with_reducible refine WT.cmpU (by assumption) (by assumption) ?_ ?m298); (case m298 => rfl)); (with_reducible (refine WE.binopU (by assumption) (by assumption) ?_; refine WE.binopU (by assumption) (by assumption) ?_)); ((with_reducible refine' WE.cell' (by assumption) ?lk299 ?_ ?k299 ?d299); (case k299 => rfl); (case d299 => decide); (case lk299 => walk_at "lk")); ((with_reducible refine' WE.local' (by assumption) ?lk300 ?_ ?k300 ?d300); (case k300 => rfl); (case d300 => decide); (case lk300 => walk_at "lk"))
          refine Ope.shr_int (by lia) ?_
          (with_reducible refine WE.const_int (by assumption) ?_)
          refine Ope.and_int ?_
          (with_reducible refine WE.const_int (by assumption) ?_)
          refine OpeB.eq rfl rfl ⟨fun hb => ?_, fun hb => ?_⟩
          · ((with_reducible refine WE.lower (by assumption) ?_ ?a301); (case a301 => rfl)); ((with_reducible refine' WE.local' (by assumption) ?lk302 ?_ ?k302 ?d302); (case k302 => rfl); (case d302 => decide); (case lk302 => walk_at "lk"))
            refine ⟨_, rfl, by show (1 : Nat) ≤ _; lia, _, rfl, i + 1, js ++ [cc + 32], _, rfl, by have : i < v.cps.size := (by simpa using hlt); exact this, rfl, ?_, ?_, by walk_at "lk"⟩
            · rw [List.map_append, ejs, etk]
              simp [upperC]; lia
            · have : Txt.lower ⟨#[cc]⟩ = ⟨#[cc + 32]⟩ := by
                rw [lower_ascii (by intro c hc; simp at hc; lia)]
                simp [lo1, hcl]
              rw [this]; simp
          · ((with_reducible refine' WE.local' (by assumption) ?lk303 ?_ ?k303 ?d303); (case k303 => rfl); (case d303 => decide); (case lk303 => walk_at "lk"))
            refine ⟨_, rfl, i + 1, js ++ [cc], _, rfl, by have : i < v.cps.size := (by simpa using hlt); exact this, rfl, ?_, by simp, by walk_at "lk"⟩
            rw [List.map_append, ejs, etk]
            simp [upperC]; lia

end
section


noncomputable def PoolsOk : List KeyT → List (List PyData) → Prop
  | [], [] => True
  | k :: ks, d :: ds => d.length = 3 ∧ (∀ x ∈ d, WorthOk (isNum k.1) x) ∧ PoolsOk ks ds
  | _, _ => False
theorem PoolsOk.snoc : ∀ {ks : List KeyT} {ds : List (List PyData)} {k : KeyT} {d : List PyData}, PoolsOk ks ds → d.length = 3 → (∀ x ∈ d, WorthOk (isNum k.1) x) → PoolsOk (ks ++ [k]) (ds ++ [d])
  | [], [], _, _, _, h1, h2 => ⟨h1, h2, trivial⟩
  | _ :: _, _ :: _, _, _, h, h1, h2 => ⟨h.1, h.2.1, PoolsOk.snoc h.2.2 h1 h2⟩
  | [], _ :: _, _, _, h, _, _ => h.elim
  | _ :: _, [], _, _, h, _, _ => h.elim
theorem PoolsOk.len : ∀ {ks : List KeyT} {ds : List (List PyData)}, PoolsOk ks ds → ks.length = ds.length
  | [], [], _ => rfl
  | _ :: _, _ :: _, h => congrArg (· + 1) h.2.2.len
  | [], _ :: _, h => h.elim
  | _ :: _, [], h => h.elim
theorem PoolsOk.get : ∀ {ks : List KeyT} {ds : List (List PyData)}, PoolsOk ks ds → ∀ (i : Nat) {k : KeyT} {d : List PyData}, ks[i]? = some k → ds[i]? = some d → d.length = 3 ∧ ∀ x ∈ d, WorthOk (isNum k.1) x
  | [], [], _, i, k, d, e, _ => by simp at e
  | _ :: _, d :: _, h, 0, k, d', e, e' => by simp at e e'; subst e; subst e'; exact ⟨h.1, h.2.1⟩
  | _ :: _, _ :: _, h, i + 1, k, d, e, e' => h.2.2.get i (by simpa using e) (by simpa using e')
  | [], _ :: _, h, _, _, _, _, _ => h.elim
  | _ :: _, [], h, _, _, _, _, _ => h.elim
theorem WsOk.snoc : ∀ {ks : List KeyT} {ds : List PyData} {k : KeyT} {d : PyData}, WsOk ks ds → WorthOk (isNum k.1) d → WsOk (ks ++ [k]) (ds ++ [d])
  | [], [], _, _, _, h1 => ⟨h1, trivial⟩
  | _ :: _, _ :: _, _, _, h, h1 => ⟨h.1, WsOk.snoc h.2 h1⟩
  | [], _ :: _, _, _, h, _ => h.elim
  | _ :: _, [], _, _, h, _ => h.elim
theorem names_shaped : ∀ v ∈ lawNames, SeqAt.shaped (.str v) = true := by decide +kernel
structure RowsOk (ks : List KeyT) (rows : List RowT) (m : Int) : Prop where
  ws : ∀ r ∈ rows, WsOk ks r.2
  lo : ∀ r ∈ rows, 1 ≤ r.1 ∧ r.1 ≤ m
  nd : (rows.map (·.1)).Nodup

theorem rows_spec (hW : IsW W) {p c : Addr} {T n : Nat} {ks : List KeyT} {mu : Mu} (hk : ks.length ≤ 9) (hks : KeysOk ks) (hn : n ≤ 7) (hT : T ≤ 90000) (hp : PenMu p c T mu) :
    Calls W 13 (.ref 148) [.ref p, .dat (.list (ks.map keyD)), .dat (.int (n : Nat))] mu fun x mu' => Ex2 fun (rows : List RowT) (T' : Nat) => A5 (x = .dat (.list (rows.map rowD))) (rows.length = n) (RowsOk ks rows 35000) (T' ≤ T + 500) (PenMu p c T' mu') := by
  obtain ⟨fd, D⟩ := D_law_rows hW
  obtain ⟨fd2, D2⟩ := D_law_worth hW
  refine Calls.named fun Q hQ => ?_
  refine Calls.introU D rfl fun A L h₀ l s₀ hC hr' => ?_
  have hr := hr'.mono (d' := 10) (by decide)
  have hr1 := hr'.mono (d' := 11) (by decide)
  have hsz : 2100 ≤ sizeLine := by decide
  conv in bodyAt 24 => whnf
  (with_reducible refine WX.consU ?_)
  refine WS.assignComp hC (by walk_at "can") ?_ rfl rfl rfl (by decide) (by intro _; rfl)
  unfold CompH
  refine WI.list hC hr ?_
  ((with_reducible refine' WE.local' (by assumption) ?lk304 ?_ ?k304 ?d304); (case k304 => rfl); (case d304 => decide); (case lk304 => walk_at "lk"))
  refine ⟨_, rfl, by simp; lia, [(Str.ofString "pen", .ref p)], .cons rfl (by walk_at "lk") rfl rfl rfl .nil, fun Cl h₀ l hCi => ?_⟩
  let J10 : List PyData → List PyData → St → Prop := fun xs acc σ => Ex6 fun (done rem : List KeyT) (pl : List (List PyData)) (T' : Nat) (mu' : Mu) (loc : List (Str × V)) => A8 (σ = ⟨loc, mu'⟩) (PenMu p c T' mu') (T' + 24 * rem.length ≤ T + 216) (ks = done ++ rem) (xs = rem.map keyD) (acc = pl.map .list) (PoolsOk done pl) (loc.lookup (Str.ofString "pen") = some (.ref p))
  refine CompW.gen J10 ?_ ?_ _ _ _ ⟨[], ks, [], T, mu, _, rfl, hp, by lia, rfl, rfl, rfl, trivial, by walk_at "lk"⟩
  · rintro acc σ ⟨done, rem, pl, T', mu', loc, rfl, hp', hT', ek, ex, rfl, hpl, hlk⟩
    obtain rfl : rem = [] := by cases rem <;> first | rfl | cases ex
    rw [List.append_nil] at ek
    subst ek
    refine FinC.dat ?_
    have hpl2 := hpl.len
    (with_reducible refine WX.consU ?_); ((with_reducible refine' WS.assignSwapU (by assumption) (by assumption) ?c305 ?_ ?s305 ?w305); (case w305 => rfl); (case s305 => rfl); (case c305 => (repeat (first | exact .nil | refine .cons (.loc rfl) ?_)))); ((with_reducible refine WEs.cons ?_ ?he306); (case he306 => rfl))
    refine WE.listU hC ?_
    (with_reducible (refine WEs.nil ?_; refine Dats.nil ⟨Nat.le_of_ble_eq_true rfl, ?_⟩)); ((with_reducible refine WEs.cons ?_ ?he307); (case he307 => rfl)); (with_reducible (refine WE.const_int (by assumption) ?_; refine WEs.nil ?_)); ((with_reducible refine SwapK.mk ?a308 ?b308 ?_); (case a308 => exact Nat.le_of_ble_eq_true rfl); (case b308 => rfl)); (with_reducible refine WX.consU ?_); ((with_reducible refine WS.for (by assumption) ?_ ?s309); (case s309 => (intro _; rfl))); ((with_reducible refine WI.range1 (by assumption) (by assumption) ?b310 ?_ ?x310 ?h310); (case b310 => exact blt_range (by assumption)); (case x310 => rfl); (case h310 => rfl)); ((with_reducible refine' WE.local' (by assumption) ?lk311 ?_ ?k311 ?d311); (case k311 => rfl); (case d311 => decide); (case lk311 => walk_at "lk"))
    refine ⟨_, rfl, by lia, by lia, ?_⟩
    let J11 : List PyData → St → Prop := fun xs σ => Ex5 fun (rows : List RowT) (num : Int) (T' : Nat) (mu' : Mu) (loc : List (Str × V)) => A11 (σ = ⟨loc, mu'⟩) (PenMu p c T' mu') (T' + 12 * xs.length ≤ T + 300) (rows.length + xs.length = n) (0 ≤ num) (num ≤ 5000 * rows.length) (RowsOk ks rows num) (loc.lookup (Str.ofString "pen") = some (.ref p)) (loc.lookup (Str.ofString "pools") = some (.dat (.list (pl.map .list)))) (loc.lookup (Str.ofString "rows") = some (.dat (.list (rows.map rowD)))) (loc.lookup (Str.ofString "number") = some (.dat (.int num)))
    refine LoopW.gen J11
      ?_ ?_ _ _ ⟨[], 0, T', mu', _, rfl, hp', by simp [rangeD]; simp at hT'; lia, by simp [rangeD], by lia, by simp, ⟨(by intro _ h; cases h), (by intro _ h; cases h), .nil⟩, by walk_at "lk", by walk_at "lk", by walk_at "lk", by walk_at "lk"⟩
    · rintro σ ⟨rows, num, T', mu', loc, rfl, hp', hT', hrl, hn0, hn1, hro, l1, l2, l3, l4⟩
      simp at hT' hrl
      (with_reducible (refine WX.consU ?_; refine WS.ret ?_)); ((with_reducible refine' WE.local' (by assumption) ?lk312 ?_ ?k312 ?d312); (case k312 => rfl); (case d312 => decide); (case lk312 => walk_at "lk"))
      refine .ret (hQ _ _ ⟨rows, T', rfl, hrl, ⟨hro.ws, fun r hr => ⟨(hro.lo r hr).1, ?_⟩, hro.nd⟩, by lia, hp'⟩)
      have := (hro.lo r hr).2
      lia
    · rintro x xs σ ⟨rows, num, T', mu', loc, rfl, hp', hT', hrl, hn0, hn1, hro, l1, l2, l3, l4⟩ h₀ l hC
      simp at hT' hrl
      ((with_reducible refine WA.name (by assumption) ?c313 ?_); (case c313 => walk_at "can")); (with_reducible refine WX.consU ?_); ((with_reducible refine WS.assign (by assumption) ?c314 ?_ ?s314); (case c314 => walk_at "can"); (case s314 => rfl)); (with_reducible (refine WE.binopU (by assumption) (by assumption) ?_; refine WE.binopU (by assumption) (by assumption) ?_)); ((with_reducible refine' WE.local' (by assumption) ?lk315 ?_ ?k315 ?d315); (case k315 => rfl); (case d315 => decide); (case lk315 => walk_at "lk")); (with_reducible (refine WE.const_int (by assumption) ?_; refine Ope.add_int ?_))
      refine WE.drawn p c hW hC hr1 ?_ rfl rfl
      ((with_reducible refine WEs.cons ?_ ?he316); (case he316 => rfl)); ((with_reducible refine' WE.cell' (by assumption) ?lk317 ?_ ?k317 ?d317); (case k317 => rfl); (case d317 => decide); (case lk317 => walk_at "lk")); ((with_reducible refine WEs.cons ?_ ?he318); (case he318 => rfl)); ((with_reducible refine WE.subU (by assumption) (by assumption) ?_ ?s319); (case s319 => (intro _ _; rfl))); (with_reducible refine WE.tupleU (by assumption) ?_); ((with_reducible refine WEs.cons ?_ ?he320); (case he320 => rfl)); (with_reducible refine WE.const_int (by assumption) ?_); ((with_reducible refine WEs.cons ?_ ?he321); (case he321 => rfl)); (with_reducible refine WE.const_int (by assumption) ?_); ((with_reducible refine WEs.cons ?_ ?he322); (case he322 => rfl)); (with_reducible refine WE.const_int (by assumption) ?_); ((with_reducible refine WEs.cons ?_ ?he323); (case he323 => rfl)); (with_reducible (refine WE.const_int (by assumption) ?_; refine WEs.nil ?_; refine Dats.cons ?_; refine Dats.cons ?_; refine Dats.cons ?_; refine Dats.cons ?_; refine Dats.nil ⟨Nat.le_of_ble_eq_true rfl, ?_⟩))
      refine WE.drawn p c hW hC hr1 ?_ rfl rfl
      ((with_reducible refine WEs.cons ?_ ?he324); (case he324 => rfl)); ((with_reducible refine' WE.cell' (by assumption) ?lk325 ?_ ?k325 ?d325); (case k325 => rfl); (case d325 => decide); (case lk325 => walk_at "lk")); ((with_reducible refine WEs.cons ?_ ?he326); (case he326 => rfl)); (with_reducible (refine WE.const_int (by assumption) ?_; refine WEs.nil ?_))
      refine ⟨[], mu', T', 4, rfl, rfl, hp', by lia, by lia, by lia, fun r1 mu1 h01 h11 hp1 => ?_⟩
      obtain ⟨m, hm, m1, m2⟩ : ∃ m : Int, A3 (([PyData.int 2, PyData.int 10, PyData.int 100, PyData.int 5000])[r1.toNat]? = some (.int m)) (1 ≤ m) (m ≤ 5000) := by
        rcases (by lia : r1 = 0 ∨ r1 = 1 ∨ r1 = 2 ∨ r1 = 3) with rfl | rfl | rfl | rfl
        · exact ⟨2, rfl, by lia, by lia⟩
        · exact ⟨10, rfl, by lia, by lia⟩
        · exact ⟨100, rfl, by lia, by lia⟩
        · exact ⟨5000, rfl, by lia, by lia⟩
      refine ⟨_, .tup h01 (by lia) hm, ?_⟩
      (with_reducible refine WEs.nil ?_)
      refine ⟨[], mu1, _, m, rfl, rfl, hp1, by lia, by lia, by lia, fun r2 mu2 h02 h12 hp2 => ?_⟩
      (with_reducible (refine Ope.add_int ?_; refine WX.consU ?_))
      refine WS.assignComp hC (by walk_at "can") ?_ rfl rfl rfl (by decide) (by intro _; rfl)
      unfold CompH
      refine WI.list hC hr ?_
      ((with_reducible refine' WE.local' (by assumption) ?lk327 ?_ ?k327 ?d327); (case k327 => rfl); (case d327 => decide); (case lk327 => walk_at "lk"))
      refine ⟨_, rfl, by simp; lia, [(Str.ofString "pen", .ref p)], .cons rfl (by walk_at "lk") rfl rfl rfl .nil, fun Cl h₀ l hCi => ?_⟩
      let J12 : List PyData → List PyData → St → Prop := fun xs acc σ => Ex4 fun (i : Nat) (T3 : Nat) (mu3 : Mu) (loc3 : List (Str × V)) => A7 (σ = ⟨loc3, mu3⟩) (PenMu p c T3 mu3) (T3 + (pl.length - i) ≤ T' + 11) (i ≤ pl.length) (xs = (pl.drop i).map .list) (WsOk (ks.take i) acc) (loc3.lookup (Str.ofString "pen") = some (.ref p))
      refine CompW.gen J12 ?_ ?_ _ _ _ ⟨0, _, mu2, _, rfl, hp2, by lia, Nat.zero_le _, rfl, trivial, rfl⟩
      · rintro acc σ ⟨i, T3, mu3, loc3, rfl, hp3, hT3, hi, ex, hacc, hlk⟩
        have hge : pl.length ≤ i := by
          have := congrArg List.length ex
          simp at this
          lia
        rw [List.take_of_length_le (by lia)] at hacc
        refine FinC.dat ?_
        (with_reducible refine WX.consU ?_); ((with_reducible refine WS.assign (by assumption) ?c328 ?_ ?s328); (case c328 => walk_at "can"); (case s328 => rfl)); (with_reducible refine WE.binopU (by assumption) (by assumption) ?_)
        refine WE.drawn p c hW hC hr1 ?_ rfl rfl
        ((with_reducible refine WEs.cons ?_ ?he329); (case he329 => rfl)); ((with_reducible refine' WE.cell' (by assumption) ?lk330 ?_ ?k330 ?d330); (case k330 => rfl); (case d330 => decide); (case lk330 => walk_at "lk")); ((with_reducible refine WEs.cons ?_ ?he331); (case he331 => rfl)); (with_reducible (refine WE.const_int (by assumption) ?_; refine WEs.nil ?_))
        refine ⟨[], mu3, T3, 7, rfl, rfl, hp3, by lia, by lia, by lia, fun r4 mu4 h04 h14 hp4 => ?_⟩
        (with_reducible refine WE.binopU (by assumption) (by assumption) ?_); ((with_reducible refine WE.len (by assumption) ?b332 ?_ ?x332 ?h332); (case b332 => exact blt_len (by assumption)); (case x332 => rfl); (case h332 => rfl)); ((with_reducible refine' WE.local' (by assumption) ?lk333 ?_ ?k333 ?d333); (case k333 => rfl); (case d333 => decide); (case lk333 => walk_at "lk"))
        refine ⟨_, .list, by simp; lia, ?_⟩
        (with_reducible (refine WE.const_int (by assumption) ?_; refine Ope.add_int ?_)); ((with_reducible refine Ope.mod_int ?m334 ?_); (case m334 => lia)); (with_reducible refine WX.consU ?_); ((with_reducible refine WS.assign (by assumption) ?c335 ?_ ?s335); (case c335 => walk_at "can"); (case s335 => rfl)); (with_reducible (refine WE.binopU (by assumption) (by assumption) ?_; refine WE.binopU (by assumption) (by assumption) ?_)); ((with_reducible refine WE.sliceTo (by assumption) ?_ ?a336); (case a336 => (intro _ _; rfl))); ((with_reducible refine' WE.local' (by assumption) ?lk337 ?_ ?k337 ?d337); (case k337 => rfl); (case d337 => decide); (case lk337 => walk_at "lk")); ((with_reducible refine' WE.local' (by assumption) ?lk338 ?_ ?k338 ?d338); (case k338 => rfl); (case d338 => decide); (case lk338 => walk_at "lk"))
        have hat : ∃ j : Nat, r4.fmod (((rows.map rowD).length : Nat) + 1) = (j : Int) ∧ j ≤ rows.length := by
          rw [List.length_map]
          have h1 := Int.fmod_nonneg_of_pos r4 (b := (rows.length : Nat) + 1) (by lia)
          have h2 := Int.fmod_lt_of_pos r4 (b := (rows.length : Nat) + 1) (by lia)
          exact ⟨(r4.fmod ((rows.length : Nat) + 1)).toNat, by lia, by lia⟩
        obtain ⟨j, ej, hj⟩ := hat
        rw [ej]
        have hlr : (rows.map rowD).length ≤ sizeLine := by simp; lia
        refine ⟨_, _, rfl, rfl, by lia, hlr, ?_⟩
        refine WE.listU (by assumption) ?_
        ((with_reducible refine WEs.cons ?_ ?he339); (case he339 => rfl)); (with_reducible refine WE.tupleU (by assumption) ?_); ((with_reducible refine WEs.cons ?_ ?he340); (case he340 => rfl)); ((with_reducible refine' WE.local' (by assumption) ?lk341 ?_ ?k341 ?d341); (case k341 => rfl); (case d341 => decide); (case lk341 => walk_at "lk")); ((with_reducible refine WEs.cons ?_ ?he342); (case he342 => rfl)); ((with_reducible refine' WE.local' (by assumption) ?lk343 ?_ ?k343 ?d343); (case k343 => rfl); (case d343 => decide); (case lk343 => walk_at "lk")); (with_reducible (refine WEs.nil ?_; refine Dats.cons ?_; refine Dats.cons ?_; refine Dats.nil ⟨Nat.le_of_ble_eq_true rfl, ?_⟩; refine WEs.nil ?_; refine Dats.cons ?_; refine Dats.nil ⟨Nat.le_of_ble_eq_true rfl, ?_⟩))
        refine Ope.add_list (by simp; lia) ?_
        ((with_reducible refine WE.sliceFrom (by assumption) ?_ ?a344); (case a344 => (intro _ _; rfl))); ((with_reducible refine' WE.local' (by assumption) ?lk345 ?_ ?k345 ?d345); (case k345 => rfl); (case d345 => decide); (case lk345 => walk_at "lk")); ((with_reducible refine' WE.local' (by assumption) ?lk346 ?_ ?k346 ?d346); (case k346 => rfl); (case d346 => decide); (case lk346 => walk_at "lk"))
        refine ⟨_, _, rfl, rfl, by lia, by simp; exact hj, hlr, ?_⟩
        refine Ope.add_list (by simp; lia) ?_
        (with_reducible refine WX.nil ?_)
        have e1 : (rows.map rowD).take (j : Int).toNat ++ [PyData.tuple [.int (num + 1 + r2), .list acc]] ++ (rows.map rowD).drop (j : Int).toNat = (rows.take j ++ [(num + 1 + r2, acc)] ++ rows.drop j).map rowD := by
          simp [rowD]
        rw [e1]
        have hmem : ∀ r ∈ rows.take j ++ [(num + 1 + r2, acc)] ++ rows.drop j, r ∈ rows ∨ r = (num + 1 + r2, acc) := fun r hr => by
          simp only [List.mem_append, List.mem_singleton] at hr
          rcases hr with (h | h) | h
          · exact .inl (List.mem_of_mem_take h)
          · exact .inr h
          · exact .inl (List.mem_of_mem_drop h)
        refine ⟨rows.take j ++ [(num + 1 + r2, acc)] ++ rows.drop j, num + 1 + r2, _, mu4, _, rfl, hp4, by lia, by simp; lia, by lia, by simp; lia, ⟨fun r hr => ?_, fun r hr => ?_, ?_⟩, by walk_at "lk", by walk_at "lk", by walk_at "lk", by walk_at "lk"⟩
        · rcases hmem r hr with h | rfl
          · exact hro.ws r h
          · exact hacc
        · rcases hmem r hr with h | rfl
          · have := hro.lo r h; lia
          · simp; lia
        · have hnd := hro.nd
          have hnew : ∀ r ∈ rows, r.1 ≠ num + 1 + r2 := fun r hr => by have := hro.lo r hr; lia
          rw [List.map_append, List.map_append]
          have : ((rows.take j).map (·.1) ++ (rows.drop j).map (·.1)).Nodup := by rw [← List.map_append, List.take_append_drop]; exact hnd
          rw [List.append_assoc, List.map_singleton, List.singleton_append]
          refine List.perm_middle.nodup_iff.mpr (List.nodup_cons.mpr ⟨fun hm => ?_, this⟩)
          rw [← List.map_append, List.take_append_drop] at hm
          obtain ⟨r, hr, e⟩ := List.mem_map.mp hm
          exact hnew r hr e
      · rintro x xs acc σ ⟨i, T3, mu3, loc3, rfl, hp3, hT3, hi, ex, hacc, hlk⟩ h₀ l hC
        have hlt : i < pl.length := by
          apply Nat.lt_of_not_le
          intro h
          rw [List.drop_eq_nil_of_le h] at ex
          simp at ex
        rw [List.drop_eq_getElem_cons hlt] at ex
        simp only [List.map_cons, List.cons.injEq] at ex
        obtain ⟨rfl, rfl⟩ := ex
        have hlk' : i < ks.length := by lia
        obtain ⟨hp3l, hpw⟩ := hpl.get i (List.getElem?_eq_getElem hlk') (List.getElem?_eq_getElem hlt)
        ((with_reducible refine WA.name (by assumption) ?c347 ?_); (case c347 => walk_at "can")); ((with_reducible refine WE.subU (by assumption) (by assumption) ?_ ?s348); (case s348 => (intro _ _; rfl))); ((with_reducible refine' WE.local' (by assumption) ?lk349 ?_ ?k349 ?d349); (case k349 => rfl); (case d349 => decide); (case lk349 => walk_at "lk"))
        refine WE.drawn p c hW hC hr1 ?_ rfl rfl
        ((with_reducible refine WEs.cons ?_ ?he350); (case he350 => rfl)); ((with_reducible refine' WE.cell' (by assumption) ?lk351 ?_ ?k351 ?d351); (case k351 => rfl); (case d351 => decide); (case lk351 => walk_at "lk")); ((with_reducible refine WEs.cons ?_ ?he352); (case he352 => rfl)); (with_reducible (refine WE.const_int (by assumption) ?_; refine WEs.nil ?_))
        refine ⟨[], mu3, T3, 3, rfl, rfl, hp3, by lia, by lia, by lia, fun r4 mu4 h04 h14 hp4 => ?_⟩
        have hr4 : r4.toNat < (pl[i]).length := by lia
        refine ⟨_, .list h04 (by lia) (List.getElem?_eq_getElem hr4), _, rfl, i + 1, _, mu4, _, rfl, hp4, by lia, hlt, rfl, ?_, by walk_at "lk"⟩
        rw [List.take_succ_eq_append_getElem hlk']
        exact hacc.snoc (hpw _ (List.getElem_mem hr4))
  · rintro x xs acc σ ⟨done, rem, pl, T', mu', loc, rfl, hp', hT', ek, ex, rfl, hpl, hlk⟩ h₀ l hC
    obtain ⟨k, rem, rfl, rfl, rfl⟩ : Ex2 fun v rem' => A3 (rem = v :: rem') (x = keyD v) (xs = rem'.map keyD) := by
      cases rem with
      | nil => cases ex
      | cons v rest => cases ex; exact ⟨v, rest, rfl, rfl, rfl⟩
    have hkn : k.1 ∈ lawNames := hks k (by rw [ek]; simp)
    simp at hT'
    refine WA.pair rfl hC hr ?_
    ((with_reducible refine WA.name (by assumption) ?c353 ?_); (case c353 => walk_at "can")); ((with_reducible refine WA.name (by assumption) ?c354 ?_); (case c354 => walk_at "can"))
    refine WE.comp hC ?_ rfl rfl (by decide) (by intro _; rfl)
    unfold CompH
    ((with_reducible refine WI.range1 (by assumption) (by assumption) ?b355 ?_ ?x355 ?h355); (case b355 => exact blt_range (by assumption)); (case x355 => rfl); (case h355 => rfl)); (with_reducible refine WE.const_int (by assumption) ?_)
    refine ⟨3, rfl, by lia, by lia, by simp [rangeD], [(Str.ofString "word", .dat (.str k.1)), (Str.ofString "pen", .ref p)], ?_, fun Cl h₀ l hCi => ?_⟩
    · exact .cons rfl (by walk_at "lk") rfl rfl rfl (.cons rfl (by walk_at "lk") rfl rfl rfl .nil)
    let J13 : List PyData → List PyData → St → Prop := fun xs acc2 σ => Ex3 fun (T2 : Nat) (mu2 : Mu) (loc2 : List (Str × V)) => A7 (σ = ⟨loc2, mu2⟩) (PenMu p c T2 mu2) (T2 + 8 * xs.length ≤ T' + 24) (acc2.length + xs.length = 3) ((∀ x ∈ acc2, WorthOk (isNum k.1) x)) (loc2.lookup (Str.ofString "pen") = some (.ref p)) (loc2.lookup (Str.ofString "word") = some (.dat (.str k.1)))
    refine CompW.gen J13 ?_ ?_ _ _ _ ⟨T', mu', _, rfl, hp', by simp [rangeD], by simp [rangeD], (by intro _ h; cases h), rfl, rfl⟩
    · rintro acc2 σ ⟨T2, mu2, loc2, rfl, hp2, hT2, hl2, hx2, l1, l2⟩
      simp at hT2 hl2
      refine FinC.dat ⟨_, rfl, done ++ [k], rem, pl ++ [acc2], T2, mu2, _, rfl, hp2, by lia, by simp [ek], rfl, by simp, hpl.snoc hl2 hx2, by walk_at "lk"⟩
    · rintro x xs acc2 σ ⟨T2, mu2, loc2, rfl, hp2, hT2, hl2, hx2, l1, l2⟩ h₀ l hC
      simp at hT2 hl2
      ((with_reducible refine WA.name (by assumption) ?c356 ?_); (case c356 => walk_at "can"))
      refine WE.callFn 12 hC hr' D2.fn ?_ rfl (by decide) rfl
      ((with_reducible refine WEs.cons ?_ ?he357); (case he357 => rfl)); ((with_reducible refine' WE.cell' (by assumption) ?lk358 ?_ ?k358 ?d358); (case k358 => rfl); (case d358 => decide); (case lk358 => walk_at "lk")); ((with_reducible refine WEs.cons ?_ ?he359); (case he359 => rfl)); ((with_reducible refine' WE.cell' (by assumption) ?lk360 ?_ ?k360 ?d360); (case k360 => rfl); (case d360 => decide); (case lk360 => walk_at "lk")); (with_reducible refine WEs.nil ?_)
      refine ⟨[], mu2, _, rfl, worth_spec hW (names_shaped _ hkn) (by lia) hp2, ?_⟩
      rintro x mu3 ⟨d, T3, rfl, hd, hT3, hp3⟩
      refine ⟨d, rfl, T3, mu3, _, rfl, hp3, by lia, by simp; lia, fun y hy => ?_, by walk_at "lk", by walk_at "lk"⟩
      rcases List.mem_append.mp hy with h | h
      · exact hx2 y h
      · rw [List.mem_singleton.mp h]; exact hd

end
section


theorem WT.ifexp {C : Act} {σ : St} {t a b : Expr} {pos : Pos} {kb : Bool → St → Prop} (h : WT W A C t σ fun c σ1 => (c = true → WT W A C a σ1 kb) ∧ (c = false → WT W A C b σ1 kb)) : WT W A C (.IfExp t a b pos) σ kb := fun s H => by
  refine isTrue_IfExp (wpAny_mono (h s H) (fun c s1 hqq => ?_) fun _ _ e => e)
  obtain ⟨σ1, ⟨ht, hf⟩, sm1, H1, le1⟩ := hqq
  cases c with
  | false => rw [if_neg Bool.false_ne_true]; exact wpAny_mono (hf rfl s1 H1) (fun b s2 p => p.lift sm1 le1) fun _ _ e => e
  | true => rw [if_pos rfl]; exact wpAny_mono (ht rfl s1 H1) (fun b s2 p => p.lift sm1 le1) fun _ _ e => e
noncomputable def worthAt (r : RowT) (i : Nat) : PyData := r.2.getD i .none
noncomputable def codeD : PyData → PyData
  | .str s => .list ((s.cps.toList.map fun c : Nat => (c : Int)).map .int)
  | d => d
noncomputable def itemsD : PyData → List PyData
  | .tuple l => l
  | .list l => l
  | _ => []
noncomputable def intD : PyData → Int
  | .int i => i
  | _ => 0
noncomputable def gD (i : Nat) (d : PyData) : PyData := codeD ((itemsD ((itemsD d).getD 1 .none)).getD i .none)
noncomputable def isBefore (rev : Bool) (a b : PyData) : Bool := if rev then ltD b a else ltD a b
noncomputable def cnt (rows : List RowT) (k : KeyT) (i : Nat) (r : RowT) : Nat := (rows.filter fun o => isBefore k.2 (worthAt o i) (worthAt r i)).length
noncomputable def wtGo (rows : List RowT) : Nat → List KeyT → RowT → Int → Int
  | _, [], _, acc => acc
  | i, k :: ks, r, acc => wtGo rows (i + 1) ks r (10 * acc + (cnt rows k i r : Nat))
noncomputable def weight (rows : List RowT) (ks : List KeyT) (r : RowT) : Int := 100000 * wtGo rows 0 ks r 0 + r.1
theorem wtGo_snoc (rows : List RowT) : ∀ (ks : List KeyT) (i : Nat) (k : KeyT) (r : RowT) (acc : Int), wtGo rows i (ks ++ [k]) r acc = 10 * wtGo rows i ks r acc + (cnt rows k (i + ks.length) r : Nat)
  | [], i, k, r, acc => by simp [wtGo]
  | _ :: ks, i, k, r, acc => by
    simp only [List.cons_append, wtGo, List.length_cons]
    rw [wtGo_snoc rows ks (i + 1) k r]
    rw [show i + 1 + ks.length = i + (ks.length + 1) by lia]
theorem map_lt : ∀ (a b : List Nat), (a.map fun c : Nat => (c : Int)) < (b.map fun c : Nat => (c : Int)) ↔ a < b
  | [], [] => by simp
  | [], _ :: _ => by simp
  | _ :: _, [] => by simp
  | x :: xs, y :: ys => by
    rw [List.map_cons, List.map_cons, List.cons_lt_cons_iff, List.cons_lt_cons_iff, map_lt xs ys]
    constructor
    · rintro (h | ⟨h, q⟩)
      · exact .inl (by lia)
      · exact .inr ⟨by lia, q⟩
    · rintro (h | ⟨h, q⟩)
      · exact .inl (by lia)
      · exact .inr ⟨by lia, q⟩
theorem lt_code {b : Bool} {d1 d2 : PyData} {k : Bool → Prop} (w1 : WorthOk b d1) (w2 : WorthOk b d2) (h : k (ltD d1 d2)) : OpeB W (compareOp .Lt) (.dat (codeD d1)) (.dat (codeD d2)) k := by
  cases b with
  | true => obtain ⟨i, rfl⟩ := w1; obtain ⟨j, rfl⟩ := w2; exact OpeB.lt_int h
  | false =>
    obtain ⟨i, rfl, _⟩ := w1; obtain ⟨j, rfl, _⟩ := w2
    refine OpeB.mk Op2.lt_ints ?_
    have : decide ((i.cps.toList.map fun c : Nat => (c : Int)) < (j.cps.toList.map fun c : Nat => (c : Int))) = ltD (.str i) (.str j) := by
      simp only [ltD]; rw [decide_eq_decide]; exact map_lt _ _
    rw [this]; exact h

noncomputable def wD (d : PyData) : PyData := .int (100000 * intD ((itemsD d).getD 0 .none) + intD ((itemsD ((itemsD d).getD 1 .none)).getD 0 .none))
theorem weights_spec (hW : IsW W) {ks : List KeyT} {rows : List RowT} {mu : Mu} (hk : ks.length ≤ 9) (hw : ∀ r ∈ rows, WsOk ks r.2) (hl : rows.length ≤ 7) :
    Calls W 11 (.ref 153) [.dat (.list (ks.map keyD)), .dat (.list (rows.map rowD))] mu fun x mu' => ∃ a, x = .ref a ∧ mu' = (a, intsV (rows.map (weight rows ks))) :: mu := by
  obtain ⟨fd, D⟩ := D_law_weights hW
  refine Calls.named fun Q hQ => ?_
  refine Calls.introU D rfl fun A L h₀ l s₀ hC hr => ?_
  have hsz : 2100 ≤ sizeLine := by decide
  conv in bodyAt 25 => whnf
  (with_reducible refine WX.consU ?_)
  refine WS.assignComp hC (by walk_at "can") ?_ rfl rfl rfl (by decide) (by intro _; rfl)
  unfold CompH
  refine WI.list hC hr ?_
  ((with_reducible refine' WE.local' (by assumption) ?lk361 ?_ ?k361 ?d361); (case k361 => rfl); (case d361 => decide); (case lk361 => walk_at "lk"))
  refine ⟨_, rfl, by simp; lia, [], .nil, fun Cl h₀ l hCi => ?_⟩
  refine CompW.map (fun _ => .int 0) (fun σ => σ.mu = mu) rfl (fun σ' e => ?_) fun x hx σ hσ h₀' l' hC' => ?_
  · refine FinC.mu fun f => ?_
    rw [e]
    (with_reducible refine WX.consU ?_); ((with_reducible refine WS.for (by assumption) ?_ ?s362); (case s362 => (intro _; rfl)))
    refine WI.enumList hC hr (blt_enumerate hW) ?_ rfl rfl
    ((with_reducible refine' WE.local' (by assumption) ?lk363 ?_ ?k363 ?d363); (case k363 => rfl); (case d363 => decide); (case lk363 => walk_at "lk"))
    let J14 : List PyData → St → Prop := fun xs σ => Ex3 fun (i : Nat) (loc : List (Str × V)) (y : List V) => A6 (σ = ⟨loc, (f, y) :: mu⟩) (y = intsV (rows.map fun r => wtGo rows 0 (ks.take i) r 0)) (i ≤ ks.length) (xs = (((ks.drop i).map keyD).zipIdx i).map (fun p => .tuple [.int (p.2 : Nat), p.1])) (loc.lookup (Str.ofString "found") = some (.ref f)) (loc.lookup (Str.ofString "rows") = some (.dat (.list (rows.map rowD))))
    refine ⟨_, rfl, LoopW.gen J14 ?_ ?_ _ _ ⟨0, _, _, rfl, by simp [intsV, wtGo], Nat.zero_le _, rfl, by walk_at "lk", by walk_at "lk"⟩⟩
    · rintro σ ⟨i, loc, y, rfl, rfl, hi, ex, l1, l2⟩
      have hge : ks.length ≤ i := by
        have := congrArg List.length ex
        simp at this
        lia
      rw [List.take_of_length_le hge]
      refine WX.nd fun nd => ?_
      have hf := (List.nodup_cons.mp nd).1
      (with_reducible (refine WX.consU ?_; refine WS.ret ?_))
      refine WE.comp hC ?_ rfl rfl (by decide) (by intro _; rfl)
      unfold CompH
      refine WI.zip hC hr (blt_zip hW) ?_ rfl rfl rfl
      ((with_reducible refine WEs.cons ?_ ?he364); (case he364 => rfl))
      refine WE.frozen hC ?_
      ((with_reducible refine' WE.local' (by assumption) ?lk365 ?_ ?k365 ?d365); (case k365 => rfl); (case d365 => decide); (case lk365 => walk_at "lk"))
      refine ⟨f, (rows.map fun r => wtGo rows 0 ks r 0).map .int, rfl, ?_, ?_⟩
      · have : intsV (rows.map fun r => wtGo rows 0 ks r 0) = ((rows.map fun r => wtGo rows 0 ks r 0).map PyData.int).map V.dat := by simp [intsV]
        rw [← this]; exact .head _
      ((with_reducible refine WEs.cons ?_ ?he366); (case he366 => rfl))
      refine WE.local' (v := .dat (.list (rows.map rowD))) hC ?_ ?_ rfl (by decide)
      · show (loc.map fun p => (p.1, thaw f _ p.2)).lookup _ = _
        rw [lookup_map, l2]; rfl
      (with_reducible refine WEs.nil ?_)
      refine ⟨_, _, rfl, by simp, by simp [zipD]; lia, [], .nil, fun Cl h₀ l hCi => ?_⟩
      have em := freeze_mu (loc := loc) (ys := intsV (rows.map fun r => wtGo rows 0 ks r 0)) (d := .list ((rows.map fun r => wtGo rows 0 ks r 0).map .int)) hf
      have ez : zipD ((rows.map fun r => wtGo rows 0 ks r 0).map PyData.int) (rows.map rowD) = rows.map fun r => .tuple [.int (wtGo rows 0 ks r 0), rowD r] := by
        simp [zipD, List.zip_map', List.map_map]
      rw [ez]
      refine CompW.map wD (fun σ => σ.mu = mu) em (fun σ' e => ?_) fun x hx σ hσ h₀' l' hC' => ?_
      · refine FinC.mu fun a => .ret (hQ _ _ ⟨a, rfl, ?_⟩)
        rw [e]
        simp [wD, itemsD, intD, rowD, weight, intsV]
      · obtain ⟨r, hr1, rfl⟩ := List.mem_map.mp hx
        refine WA.pair rfl hC' hr ?_
        ((with_reducible refine WA.name (by assumption) ?c367 ?_); (case c367 => walk_at "can")); ((with_reducible refine WA.name (by assumption) ?c368 ?_); (case c368 => walk_at "can")); (with_reducible (refine WE.binopU (by assumption) (by assumption) ?_; refine WE.binopU (by assumption) (by assumption) ?_; refine WE.const_int (by assumption) ?_)); ((with_reducible refine' WE.local' (by assumption) ?lk369 ?_ ?k369 ?d369); (case k369 => rfl); (case d369 => decide); (case lk369 => walk_at "lk")); ((with_reducible refine Ope.mul_int ?m370 ?_); (case m370 => mul_fits)); ((with_reducible refine WE.subU (by assumption) (by assumption) ?_ ?s371); (case s371 => (intro _ _; rfl))); ((with_reducible refine' WE.local' (by assumption) ?lk372 ?_ ?k372 ?d372); (case k372 => rfl); (case d372 => decide); (case lk372 => walk_at "lk")); (with_reducible refine WE.const_int (by assumption) ?_)
        refine ⟨_, .tup (i := 0) (by lia) (by lia) rfl, ?_⟩
        (with_reducible refine Ope.add_int ?_)
        exact ⟨rfl, hσ⟩
    · rintro x xs σ ⟨i, loc, y, rfl, rfl, hi, ex, l1, l2⟩ h₀ l hC
      have hlt : i < ks.length := by
        apply Nat.lt_of_not_le
        intro h
        rw [List.drop_eq_nil_of_le h] at ex
        simp at ex
      rw [List.drop_eq_getElem_cons hlt] at ex
      simp only [List.map_cons, List.zipIdx_cons, List.cons.injEq] at ex
      obtain ⟨rfl, rfl⟩ := ex
      have hk' := List.getElem?_eq_getElem hlt
      generalize ks[i] = k at *
      refine WA.pair rfl hC hr ?_
      ((with_reducible refine WA.name (by assumption) ?c373 ?_); (case c373 => walk_at "can"))
      refine WA.pair rfl hC hr ?_
      ((with_reducible refine WA.name (by assumption) ?c374 ?_); (case c374 => walk_at "can")); ((with_reducible refine WA.name (by assumption) ?c375 ?_); (case c375 => walk_at "can")); (with_reducible refine WX.consU ?_)
      refine WS.assignComp hC (by walk_at "can") ?_ rfl rfl rfl (by decide) (by intro _; rfl)
      unfold CompH
      refine WI.list hC hr ?_
      ((with_reducible refine' WE.local' (by assumption) ?lk376 ?_ ?k376 ?d376); (case k376 => rfl); (case d376 => decide); (case lk376 => walk_at "lk"))
      refine ⟨_, rfl, by simp; lia, [(Str.ofString "at", .dat (.int (i : Nat)))], .cons rfl (by walk_at "lk") rfl rfl rfl .nil, fun Cl h₀ l hCi => ?_⟩
      let J15 : St → Prop := fun σ => ∃ loc, σ = ⟨loc, (f, intsV (rows.map fun r => wtGo rows 0 (ks.take i) r 0)) :: mu⟩ ∧ loc.lookup (Str.ofString "at") = some (.dat (.int (i : Nat)))
      refine CompW.map (gD i) J15 ⟨_, rfl, rfl⟩ (fun σ' ⟨loc', e, hlk⟩ => ?_) fun x hx σ ⟨loc', e, hlk⟩ h₀' l' hC' => ?_
      · subst e
        refine FinC.dat ?_
        have eg : (rows.map rowD).map (gD i) = rows.map fun r => codeD (worthAt r i) := by simp [gD, itemsD, rowD, worthAt]
        rw [eg]
        (with_reducible refine WX.consU ?_); ((with_reducible refine WS.for (by assumption) ?_ ?s377); (case s377 => (intro _; rfl)))
        refine WI.enumList hC hr (blt_enumerate hW) ?_ rfl rfl
        ((with_reducible refine' WE.local' (by assumption) ?lk378 ?_ ?k378 ?d378); (case k378 => rfl); (case d378 => decide); (case lk378 => walk_at "lk"))
        let J16 : List PyData → St → Prop := fun xs σ => Ex3 fun (j : Nat) (loc : List (Str × V)) (y : List V) => A8 (σ = ⟨loc, (f, y) :: mu⟩) (y = intsV ((rows.take j).map (fun r => 10 * wtGo rows 0 (ks.take i) r 0 + (cnt rows k i r : Nat)) ++ (rows.drop j).map fun r => wtGo rows 0 (ks.take i) r 0)) (j ≤ rows.length) (xs = (((rows.drop j).map fun r => codeD (worthAt r i)).zipIdx j).map (fun p => .tuple [.int (p.2 : Nat), p.1])) (loc.lookup (Str.ofString "found") = some (.ref f)) (loc.lookup (Str.ofString "rows") = some (.dat (.list (rows.map rowD)))) (loc.lookup (Str.ofString "is_reverse") = some (.dat (.bool k.2))) (loc.lookup (Str.ofString "codes") = some (.dat (.list (rows.map fun r => codeD (worthAt r i)))))
        refine ⟨_, rfl, LoopW.gen J16 ?_ ?_ _ _ ⟨0, _, _, rfl, rfl, Nat.zero_le _, rfl, by walk_at "lk", by walk_at "lk", by walk_at "lk", by walk_at "lk"⟩⟩
        · rintro σ ⟨j, loc, y, rfl, rfl, hj, ex, l1, l2, l3, l4⟩
          have hge : rows.length ≤ j := by
            have := congrArg List.length ex
            simp at this
            lia
          rw [List.take_of_length_le hge, List.drop_eq_nil_of_le hge, List.map_nil, List.append_nil]
          (with_reducible refine WX.nil ?_)
          refine ⟨i + 1, _, _, rfl, ?_, hlt, rfl, by walk_at "lk", by walk_at "lk"⟩
          congr 1
          apply List.map_congr_left
          intro r hr
          have et : ks.take (i + 1) = ks.take i ++ [k] := by
            rw [List.take_add_one, hk']; rfl
          rw [et, wtGo_snoc, List.length_take, Nat.min_eq_left (Nat.le_of_lt hlt), Nat.zero_add]
        · rintro x xs σ ⟨j, loc, y, rfl, rfl, hj, ex, l1, l2, l3, l4⟩ h₀ l hC
          have hltj : j < rows.length := by
            apply Nat.lt_of_not_le
            intro h
            rw [List.drop_eq_nil_of_le h] at ex
            simp at ex
          have hdj := List.drop_eq_getElem_cons hltj
          rw [hdj] at ex
          simp only [List.map_cons, List.zipIdx_cons, List.cons.injEq] at ex
          obtain ⟨rfl, rfl⟩ := ex
          have hrj := List.getElem?_eq_getElem hltj
          have hrm := List.getElem_mem hltj
          generalize hrr : rows[j] = r at *
          have hwr : ∀ r ∈ rows, WorthOk (isNum k.1) (worthAt r i) := fun r hr => by
            obtain ⟨d, hd, hwd⟩ := (hw r hr).get i hk'
            simpa [worthAt, List.getD, hd] using hwd
          refine WA.pair rfl hC hr ?_
          ((with_reducible refine WA.name (by assumption) ?c379 ?_); (case c379 => walk_at "can")); ((with_reducible refine WA.name (by assumption) ?c380 ?_); (case c380 => walk_at "can")); (with_reducible refine WX.consU ?_)
          refine WS.assignComp hC (by walk_at "can") ?_ rfl rfl rfl (by decide) (by intro _; rfl)
          unfold CompH
          refine WI.list hC hr ?_
          ((with_reducible refine' WE.local' (by assumption) ?lk381 ?_ ?k381 ?d381); (case k381 => rfl); (case d381 => decide); (case lk381 => walk_at "lk"))
          refine ⟨_, rfl, by simp; lia, ?locI, ?seen, fun Cl h₀ l hCi => ?_⟩
          case locI => exact [(Str.ofString "is_reverse", .dat (.bool k.2)), (Str.ofString "code", .dat (codeD (worthAt r i)))]
          case seen => exact .cons rfl (by walk_at "lk") rfl rfl rfl (.cons rfl (by walk_at "lk") rfl rfl rfl .nil)
          let J17 : List PyData → List PyData → St → Prop := fun xs acc σ => Ex3 fun (done rem : List RowT) (loc : List (Str × V)) => A6 (σ = ⟨loc, (f, intsV ((rows.take j).map (fun r => 10 * wtGo rows 0 (ks.take i) r 0 + (cnt rows k i r : Nat)) ++ (rows.drop j).map fun r => wtGo rows 0 (ks.take i) r 0)) :: mu⟩) (rows = done ++ rem) (xs = rem.map (fun r => codeD (worthAt r i))) (acc.length = (done.filter fun o => isBefore k.2 (worthAt o i) (worthAt r i)).length) (loc.lookup (Str.ofString "is_reverse") = some (.dat (.bool k.2))) (loc.lookup (Str.ofString "code") = some (.dat (codeD (worthAt r i))))
          refine CompW.gen1 J17 ?_ ?_ _ _ _ ⟨[], rows, _, rfl, rfl, rfl, rfl, rfl, rfl⟩
          · rintro acc σ ⟨done, rem, loc', rfl, er, ex, ea, m1, m2⟩
            obtain rfl : rem = [] := by cases rem <;> first | rfl | cases ex
            rw [List.append_nil] at er
            subst er
            refine FinC.dat ?_
            (with_reducible refine WX.consU ?_); ((with_reducible refine WS.setItem (by assumption) ?_ ?s382); (case s382 => rfl)); (with_reducible (refine WE.binopU (by assumption) (by assumption) ?_; refine WE.binopU (by assumption) (by assumption) ?_; refine WE.const_int (by assumption) ?_)); ((with_reducible refine WE.subU (by assumption) (by assumption) ?_ ?s383); (case s383 => (intro _ _; rfl))); ((with_reducible refine' WE.local' (by assumption) ?lk384 ?_ ?k384 ?d384); (case k384 => rfl); (case d384 => decide); (case lk384 => walk_at "lk")); ((with_reducible refine' WE.local' (by assumption) ?lk385 ?_ ?k385 ?d385); (case k385 => rfl); (case d385 => decide); (case lk385 => walk_at "lk"))
            have hg : (intsV ((rows.take j).map (fun r => 10 * wtGo rows 0 (ks.take i) r 0 + (cnt rows k i r : Nat)) ++ (rows.drop j).map fun r => wtGo rows 0 (ks.take i) r 0))[(j : Int).toNat]? = some (.dat (.int (wtGo rows 0 (ks.take i) r 0))) := by
              rw [hdj]
              simp [intsV, List.getElem?_append, Nat.min_eq_left (Nat.le_of_lt hltj)]
            refine ⟨_, .mu (.head _) (by lia) (by lia) hg, ?_⟩
            ((with_reducible refine Ope.mul_int ?m386 ?_); (case m386 => mul_fits)); ((with_reducible refine WE.len (by assumption) ?b387 ?_ ?x387 ?h387); (case b387 => exact blt_len (by assumption)); (case x387 => rfl); (case h387 => rfl)); ((with_reducible refine' WE.local' (by assumption) ?lk388 ?_ ?k388 ?d388); (case k388 => rfl); (case d388 => decide); (case lk388 => walk_at "lk"))
            refine ⟨_, .list, ?_, ?_⟩
            · have := List.length_filter_le (fun o => isBefore k.2 (worthAt o i) (worthAt r i)) rows
              lia
            (with_reducible refine Ope.add_int ?_); ((with_reducible refine' WE.local' (by assumption) ?lk389 ?_ ?k389 ?d389); (case k389 => rfl); (case d389 => decide); (case lk389 => walk_at "lk")); ((with_reducible refine' WE.local' (by assumption) ?lk390 ?_ ?k390 ?d390); (case k390 => rfl); (case d390 => decide); (case lk390 => walk_at "lk"))
            refine ⟨f, _, _, rfl, rfl, .head _, by lia, by lia, ?_, ?_⟩
            · simp [intsV]; lia
            refine WX.nd fun nd => ?_
            refine WX.muEq (setMu_hit (List.nodup_cons.mp (by rw [setMu_keys] at nd; exact nd)).1) ?_
            (with_reducible refine WX.nil ?_)
            refine ⟨j + 1, _, _, rfl, ?_, hltj, rfl, by walk_at "lk", by walk_at "lk", by walk_at "lk", by walk_at "lk"⟩
            rw [ea]
            have et : rows.take (j + 1) = rows.take j ++ [r] := by rw [List.take_add_one, hrj]; rfl
            rw [et, hdj]
            have el : ((rows.take j).map fun r => 10 * wtGo rows 0 (ks.take i) r 0 + (cnt rows k i r : Nat)).length = j := by simp; lia
            simp only [intsV, Int.toNat_natCast, List.map_append, List.map_cons, List.map_nil]
            rw [List.set_append_right _ _ (by simp; lia)]
            simp only [List.length_map, List.length_take, Nat.min_eq_left (Nat.le_of_lt hltj), Nat.sub_self, List.set_cons_zero]
            simp [cnt]
          · rintro x xs acc σ ⟨done, rem, loc', rfl, er, ex, ea, m1, m2⟩ h₀ l hC
            obtain ⟨o, rem, rfl, rfl, rfl⟩ : Ex2 fun v rem' => A3 (rem = v :: rem') (x = codeD (worthAt v i)) (xs = rem'.map (fun r => codeD (worthAt r i))) := by
              cases rem with
              | nil => cases ex
              | cons v rest => cases ex; exact ⟨v, rest, rfl, rfl, rfl⟩
            have ho : o ∈ rows := by rw [er]; simp
            ((with_reducible refine WA.name (by assumption) ?c391 ?_); (case c391 => walk_at "can"))
            refine WT.same (isBefore k.2 (worthAt o i) (worthAt r i)) ?_ ?_
            · refine WT.ifexp ?_
              ((with_reducible refine WT.plainU ?_ ?p392); (case p392 => rfl)); ((with_reducible refine' WE.cell' (by assumption) ?lk393 ?_ ?k393 ?d393); (case k393 => rfl); (case d393 => decide); (case lk393 => walk_at "lk")); (with_reducible refine BoolV.mk ?_)
              refine ⟨fun hb => ?_, fun hb => ?_⟩
              · ((with_reducible refine WT.cmpU (by assumption) (by assumption) ?_ ?m394); (case m394 => rfl)); ((with_reducible refine' WE.cell' (by assumption) ?lk395 ?_ ?k395 ?d395); (case k395 => rfl); (case d395 => decide); (case lk395 => walk_at "lk")); ((with_reducible refine' WE.local' (by assumption) ?lk396 ?_ ?k396 ?d396); (case k396 => rfl); (case d396 => decide); (case lk396 => walk_at "lk"))
                refine lt_code (hwr r hrm) (hwr o ho) ⟨?_, rfl⟩
                simp [isBefore, hb]
              · ((with_reducible refine WT.cmpU (by assumption) (by assumption) ?_ ?m397); (case m397 => rfl)); ((with_reducible refine' WE.local' (by assumption) ?lk398 ?_ ?k398 ?d398); (case k398 => rfl); (case d398 => decide); (case lk398 => walk_at "lk")); ((with_reducible refine' WE.cell' (by assumption) ?lk399 ?_ ?k399 ?d399); (case k399 => rfl); (case d399 => decide); (case lk399 => walk_at "lk"))
                refine lt_code (hwr o ho) (hwr r hrm) ⟨?_, rfl⟩
                simp [isBefore, hb]
            · refine ⟨fun hb => ?_, fun hb => ?_⟩
              · exact ⟨done ++ [o], rem, _, rfl, by simp [er], rfl, by rw [ea]; simp [hb], by walk_at "lk", by walk_at "lk"⟩
              · ((with_reducible refine' WE.local' (by assumption) ?lk400 ?_ ?k400 ?d400); (case k400 => rfl); (case d400 => decide); (case lk400 => walk_at "lk"))
                exact ⟨_, rfl, done ++ [o], rem, _, rfl, by simp [er], rfl, by simp [ea, hb], by walk_at "lk", by walk_at "lk"⟩
      · subst e
        obtain ⟨r, hr1, rfl⟩ := List.mem_map.mp hx
        obtain ⟨d, hd, hwd⟩ := (hw r hr1).get i hk'
        have hwa : worthAt r i = d := by simp [worthAt, List.getD, hd]
        have hios : IntOrStr d := by
          cases hb : isNum k.1 with
          | true => rw [hb] at hwd; exact .inl hwd
          | false => rw [hb] at hwd; obtain ⟨s, e, _⟩ := hwd; exact .inr ⟨s, e⟩
        ((with_reducible refine WA.name (by assumption) ?c401 ?_); (case c401 => walk_at "can")); (with_reducible refine WE.ifexp ?_); ((with_reducible refine WT.plainU ?_ ?p402); (case p402 => rfl)); ((with_reducible refine WE.isinstance_int (by assumption) ?b403 ?b2403 ?_ ?x403 ?x2403 ?h403); (case b403 => exact blt_isinstance (by assumption)); (case b2403 => exact blt_int (by assumption)); (case x403 => rfl); (case x2403 => rfl); (case h403 => rfl)); ((with_reducible refine WE.subU (by assumption) (by assumption) ?_ ?s404); (case s404 => (intro _ _; rfl))); ((with_reducible refine WE.subU (by assumption) (by assumption) ?_ ?s405); (case s405 => (intro _ _; rfl))); ((with_reducible refine' WE.local' (by assumption) ?lk406 ?_ ?k406 ?d406); (case k406 => rfl); (case d406 => decide); (case lk406 => walk_at "lk")); (with_reducible refine WE.const_int (by assumption) ?_)
        refine ⟨_, .tup (i := 1) (by lia) (by lia) rfl, ?_⟩
        ((with_reducible refine' WE.cell' (by assumption) ?lk407 ?_ ?k407 ?d407); (case k407 => rfl); (case d407 => decide); (case lk407 => walk_at "lk"))
        refine ⟨_, .list (i := (i : Int)) (d := d) (by lia) (by lia) (by simpa using hd), d, rfl, hios, ?_⟩
        (with_reducible refine BoolV.mk ?_)
        refine ⟨fun hb => ?_, fun hb => ?_⟩
        · ((with_reducible refine WE.subU (by assumption) (by assumption) ?_ ?s408); (case s408 => (intro _ _; rfl))); ((with_reducible refine WE.subU (by assumption) (by assumption) ?_ ?s409); (case s409 => (intro _ _; rfl))); ((with_reducible refine' WE.local' (by assumption) ?lk410 ?_ ?k410 ?d410); (case k410 => rfl); (case d410 => decide); (case lk410 => walk_at "lk")); (with_reducible refine WE.const_int (by assumption) ?_)
          refine ⟨_, .tup (i := 1) (by lia) (by lia) rfl, ?_⟩
          ((with_reducible refine' WE.cell' (by assumption) ?lk411 ?_ ?k411 ?d411); (case k411 => rfl); (case d411 => decide); (case lk411 => walk_at "lk"))
          refine ⟨_, .list (i := (i : Int)) (d := d) (by lia) (by lia) (by simpa using hd), ?_, _, rfl, by walk_at "lk"⟩
          rcases hios with ⟨n, rfl⟩ | ⟨s, rfl⟩
          · show _ = V.dat (codeD (worthAt r i)); rw [hwa]; rfl
          · cases hb
        · rcases hios with ⟨n, rfl⟩ | ⟨s, rfl⟩
          · cases hb
          refine WE.comp (by assumption) ?_ rfl rfl (by decide) (by intro _; rfl)
          unfold CompH
          refine WI.str (by assumption) hr ?_
          ((with_reducible refine WE.subU (by assumption) (by assumption) ?_ ?s412); (case s412 => (intro _ _; rfl))); ((with_reducible refine WE.subU (by assumption) (by assumption) ?_ ?s413); (case s413 => (intro _ _; rfl))); ((with_reducible refine' WE.local' (by assumption) ?lk414 ?_ ?k414 ?d414); (case k414 => rfl); (case d414 => decide); (case lk414 => walk_at "lk")); (with_reducible refine WE.const_int (by assumption) ?_)
          refine ⟨_, .tup (i := 1) (by lia) (by lia) rfl, ?_⟩
          ((with_reducible refine' WE.cell' (by assumption) ?lk415 ?_ ?k415 ?d415); (case k415 => rfl); (case d415 => decide); (case lk415 => walk_at "lk"))
          refine ⟨_, .list (i := (i : Int)) (d := .str s) (by lia) (by lia) (by simpa using hd), s, rfl, ?_, [], .nil, fun Cl h₀ l hCi => ?_⟩
          · rw [signsD_length]
            cases hb : isNum k.1 with
            | true => rw [hb] at hwd; obtain ⟨_, e⟩ := hwd; cases e
            | false =>
              rw [hb] at hwd
              obtain ⟨s', e, hs, _⟩ := hwd
              cases e
              exact Nat.le_trans hs (by decide)
          · refine CompW.map (fun d => match d with | .str s => .int (s.cps.toList.getD 0 0 : Nat) | d => d) (fun σ => σ.mu = (f, intsV (rows.map fun r => wtGo rows 0 (ks.take i) r 0)) :: mu) rfl (fun σ' e => ?_) fun x hx σ hσ h₀' l' hC' => ?_
            · refine FinC.dat ⟨?_, _, by rw [e], by walk_at "lk"⟩
              show _ = V.dat (codeD (worthAt r i))
              rw [hwa]
              simp [codeD, signsD]
            · obtain ⟨c, -, rfl⟩ := List.mem_map.mp hx
              ((with_reducible refine WA.name (by assumption) ?c416 ?_); (case c416 => walk_at "can")); ((with_reducible refine WE.ord (by assumption) ?b417 ?_ ?x417 ?h417); (case b417 => exact blt_ord (by assumption)); (case x417 => rfl); (case h417 => rfl)); ((with_reducible refine' WE.local' (by assumption) ?lk418 ?_ ?k418 ?d418); (case k418 => rfl); (case d418 => decide); (case lk418 => walk_at "lk"))
              exact ⟨c, rfl, rfl, hσ⟩
  · ((with_reducible refine WA.name (by assumption) ?c419 ?_); (case c419 => walk_at "can")); (with_reducible refine WE.const_int (by assumption) ?_)
    exact ⟨rfl, hσ⟩

end
section


theorem eqvR : ∀ d : PyData, d.canLay0 = true → PyData.eqv d d = true := PySem.SeqAt.eqv_refl
noncomputable def Sh (n : Nat) (d : PyData) : Prop := d.canLay0 = true ∧ d.depth ≤ n
theorem canAll : ∀ {xs : List PyData}, (∀ x ∈ xs, x.canLay0 = true) → PyData.canLayAll0 xs = true
  | [], _ => by simp [PyData.canLayAll0]
  | x :: xs, h => by simp [PyData.canLayAll0, h x (.head _), canAll (xs := xs) fun y hy => h y (.tail _ hy)]
theorem depAll {n : Nat} : ∀ {xs : List PyData}, (∀ x ∈ xs, x.depth ≤ n) → PyData.depthAll xs ≤ n
  | [], _ => by simp [PyData.depthAll]
  | x :: xs, h => by simp only [PyData.depthAll]; exact Nat.max_le.mpr ⟨h x (.head _), depAll (xs := xs) fun y hy => h y (.tail _ hy)⟩
theorem Sh.list {n : Nat} {xs : List PyData} (h : ∀ x ∈ xs, Sh n x) : Sh (n + 1) (.list xs) := ⟨by simp only [PyData.canLay0]; exact canAll fun x hx => (h x hx).1, by simp only [PyData.depth]; exact Nat.succ_le_succ (depAll fun x hx => (h x hx).2)⟩
theorem Sh.tuple {n : Nat} {xs : List PyData} (h : ∀ x ∈ xs, Sh n x) : Sh (n + 1) (.tuple xs) := ⟨by simp only [PyData.canLay0]; exact canAll fun x hx => (h x hx).1, by simp only [PyData.depth]; exact Nat.succ_le_succ (depAll fun x hx => (h x hx).2)⟩
theorem Sh.int {n : Nat} {i : Int} : Sh n (.int i) := ⟨rfl, Nat.zero_le _⟩
theorem Sh.bool {n : Nat} {i : Bool} : Sh n (.bool i) := ⟨rfl, Nat.zero_le _⟩
theorem Sh.mono {n m : Nat} {d : PyData} (h : Sh n d) (k : n ≤ m) : Sh m d := ⟨h.1, Nat.le_trans h.2 k⟩
theorem Sh.shaped {n : Nat} {d : PyData} (h : Sh n d) (k : n ≤ 64) : SeqAt.shaped d = true := by
  unfold SeqAt.shaped
  rw [h.1, Bool.true_and]; exact decide_eq_true (Nat.le_trans h.2 k)
theorem Sh.refl {n : Nat} {d : PyData} (h : Sh n d) : PyData.eqv d d = true := eqvR d h.1
theorem WorthOk.sh {b : Bool} {d : PyData} (h : WorthOk b d) : Sh 0 d := by
  have := h.shaped
  refine ⟨SeqAt.canLay_of_shaped this, ?_⟩
  cases b with
  | true => obtain ⟨i, rfl⟩ := h; exact Nat.le_refl _
  | false => obtain ⟨s, rfl, _⟩ := h; exact Nat.le_refl _
theorem WsOk.sh : ∀ {ks : List KeyT} {ds : List PyData}, WsOk ks ds → ∀ d ∈ ds, Sh 0 d
  | [], [], _, _, h => by cases h
  | _ :: _, d :: ds, h, x, hx => by
    rcases List.mem_cons.mp hx with rfl | hx
    · exact h.1.sh
    · exact h.2.sh x hx
  | [], _ :: _, h, _, _ => h.elim
  | _ :: _, [], h, _, _ => h.elim
theorem row_sh {ks : List KeyT} {r : RowT} (h : WsOk ks r.2) : Sh 2 (rowD r) := Sh.tuple fun x hx => by
  rcases List.mem_cons.mp hx with rfl | hx
  · exact Sh.int
  · rw [List.mem_singleton.mp hx]; exact Sh.list h.sh
theorem rows_sh {ks : List KeyT} {rows : List RowT} (h : ∀ r ∈ rows, WsOk ks r.2) : Sh 3 (.list (rows.map rowD)) := Sh.list fun x hx => by
  obtain ⟨r, hr, rfl⟩ := List.mem_map.mp hx; exact row_sh (h r hr)

inductive Split {α : Type} : List α → List α → List α → Prop where
  | nil : Split [] [] []
  | left {d : α} {ds a b : List α} : Split ds a b → Split (d :: ds) (d :: a) b
  | right {d : α} {ds a b : List α} : Split ds a b → Split (d :: ds) a (d :: b)
theorem Split.snoc1 {α : Type} {d : α} {ds a b : List α} (h : Split ds a b) : Split (ds ++ [d]) (a ++ [d]) b := by
  induction h with
  | nil => exact .left .nil
  | left _ ih => exact .left ih
  | right _ ih => exact .right ih
theorem Split.snoc2 {α : Type} {d : α} {ds a b : List α} (h : Split ds a b) : Split (ds ++ [d]) a (b ++ [d]) := by
  induction h with
  | nil => exact .right .nil
  | left _ ih => exact .left ih
  | right _ ih => exact .right ih
theorem Split.swap {α : Type} {ds a b : List α} (h : Split ds a b) : Split ds b a := by
  induction h with
  | nil => exact .nil
  | left _ ih => exact .right ih
  | right _ ih => exact .left ih
theorem Split.sub1 {α : Type} {ds a b : List α} (h : Split ds a b) : ∀ x ∈ a, x ∈ ds := by
  induction h with
  | nil => exact fun _ h => h
  | left _ ih => exact fun x hx => (List.mem_cons.mp hx).elim (fun q => q ▸ .head _) fun q => .tail _ (ih x q)
  | right _ ih => exact fun x hx => .tail _ (ih x hx)
theorem Split.len {α : Type} {ds a b : List α} (h : Split ds a b) : ds.length = a.length + b.length := by
  induction h with
  | nil => rfl
  | left _ ih => exact (congrArg (· + 1) ih).trans (Nat.succ_add _ _).symm
  | right _ ih => exact congrArg (· + 1) ih
theorem Split.nil1 {α : Type} {ds b : List α} (h : Split ds [] b) : ds = b := by
  have go : ∀ {ds a b : List α}, Split ds a b → a = [] → ds = b := by
    intro ds a b h
    induction h with
    | nil => exact fun _ => rfl
    | left _ _ => exact fun e => by cases e
    | right _ ih => exact fun e => by rw [ih e]
  exact go h rfl
theorem merge_split {ks : List KeyT} {ds a b : List RowT} (h : Split ds a b) : ds.Pairwise (fun x y => ahead ks x y = true ∧ ahead ks y x = false) → mergeR ks a b = ds := by
  induction h with
  | nil => exact fun _ => by simp [mergeR]
  | @left d ds a b h ih =>
    intro p
    obtain ⟨p1, p2⟩ := List.pairwise_cons.mp p
    have ih := ih p2
    cases b with
    | nil => rw [merge_nil_right]; rw [merge_nil_right] at ih; rw [ih]
    | cons e b => rw [mergeR, if_pos (p1 e (h.swap.sub1 e (.head _))).1, ih]
  | @right d ds a b h ih =>
    intro p
    obtain ⟨p1, p2⟩ := List.pairwise_cons.mp p
    have ih := ih p2
    cases a with
    | nil => rw [merge_nil_left]; rw [merge_nil_left] at ih; rw [ih]
    | cons e a => rw [mergeR, if_neg (by rw [(p1 e (h.sub1 e (.head _))).2]; decide), ih]
theorem split_all {α : Type} : ∀ (ds : List α), Split ds ds []
  | [] => .nil
  | _ :: ds => .left (split_all ds)

theorem WX.freeze2 {C : Act} {E : Value → Shared → Prop} {st : List Stmt} {kf : Fl → St → Prop} {loc : List (Str × V)} {a b : Addr} {xs ys : List PyData} {mu : Mu} (hC : ActOk W C) (nd : (keys ((b, ys.map V.dat) :: (a, xs.map V.dat) :: mu)).Nodup)
    (h : ∀ loc2 : List (Str × V), (∀ x v, loc.lookup x = some v → loc2.lookup x = some (thaw b (.list ys) (thaw a (.list xs) v))) → WX W A C E st ⟨loc2, mu⟩ kf) : WX W A C E st ⟨loc, (b, ys.map V.dat) :: (a, xs.map V.dat) :: mu⟩ kf := by
  have e1 := freeze_second (loc := loc) (d := .list xs) nd
  refine WX.view (View.freeze (a := a) (ds := xs) hC (.tail _ (.head _))) ?_
  refine WX.view (View.freeze (a := b) (ds := ys) hC (by rw [e1]; exact .head _)) ?_
  refine WX.muEq (mu' := mu) ?_ (h _ fun x v hv => ?_)
  · show List.filter _ (St.mu _) = _
    rw [e1, List.filter_cons_of_neg (by simp), filter_off (fun q => (List.nodup_cons.mp nd).1 (.tail _ q))]
  · show ((loc.map fun p => (p.1, thaw a _ p.2)).map fun p => (p.1, thaw b _ p.2)).lookup x = _
    rw [lookup_map, lookup_map, hv]; rfl
theorem merged_right_spec (hW : IsW W) {p c : Addr} {T : Nat} {ks : List KeyT} {due : List RowT} {mu : Mu} (hk : ks.length ≤ 9) (hw : ∀ r ∈ due, WsOk ks r.2) (hl : due.length ≤ 7) (hT : T ≤ 90000) (hp : PenMu p c T mu)
    (hs : due.Pairwise (fun x y => ahead ks x y = true ∧ ahead ks y x = false)) :
    Calls W 13 (.ref 174) [.ref p, .dat (.list (ks.map keyD)), .dat (.list (due.map rowD))] mu fun x mu' => x = .dat (.bool true) ∧ ∃ T', PenMu p c T' mu' := by
  obtain ⟨fd, D⟩ := D_law_merged_right hW
  obtain ⟨fd2, D2⟩ := D_merged_rows hW
  refine Calls.named fun Q hQ => ?_
  refine Calls.introU D rfl fun A L h₀ l s₀ hC hr' => ?_
  have hr := hr'.mono (d' := 10) (by decide)
  have hr1 := hr'.mono (d' := 11) (by decide)
  have hsz : 2100 ≤ sizeLine := by decide
  conv in bodyAt 28 => whnf
  (with_reducible refine WX.consU ?_); ((with_reducible refine' WS.assignSwapU (by assumption) (by assumption) ?c420 ?_ ?s420 ?w420); (case w420 => rfl); (case s420 => rfl); (case c420 => (repeat (first | exact .nil | refine .cons (.loc rfl) ?_)))); ((with_reducible refine WEs.cons ?_ ?he421); (case he421 => rfl))
  refine WE.listMu hC (WEs.nil ⟨by decide, fun a => ?_⟩)
  ((with_reducible refine WEs.cons ?_ ?he422); (case he422 => rfl))
  refine WE.listMu hC (WEs.nil ⟨by decide, fun b => ?_⟩)
  (with_reducible refine WEs.nil ?_); ((with_reducible refine SwapK.mk ?a423 ?b423 ?_); (case a423 => exact Nat.le_of_ble_eq_true rfl); (case b423 => rfl)); (with_reducible refine WX.consU ?_); ((with_reducible refine WS.for (by assumption) ?_ ?s424); (case s424 => (intro _; rfl)))
  refine WI.list hC hr ?_
  ((with_reducible refine' WE.local' (by assumption) ?lk425 ?_ ?k425 ?d425); (case k425 => rfl); (case d425 => decide); (case lk425 => walk_at "lk"))
  let J18 : List PyData → St → Prop := fun xs σ => Ex7 fun (done rem one other : List RowT) (T' : Nat) (mu' : Mu) (loc : List (Str × V)) => A11 (σ = ⟨loc, (b, rowsV other) :: (a, rowsV one) :: mu'⟩) (PenMu p c T' mu') (T' + rem.length ≤ T + due.length) (due = done ++ rem) (xs = rem.map rowD) (Split done one other) (loc.lookup (Str.ofString "one") = some (.ref a)) (loc.lookup (Str.ofString "other") = some (.ref b)) (loc.lookup (Str.ofString "pen") = some (.ref p)) (loc.lookup (Str.ofString "keys") = some (.dat (.list (ks.map keyD)))) (loc.lookup (Str.ofString "due") = some (.dat (.list (due.map rowD))))
  refine ⟨_, rfl, LoopW.gen J18
    ?_ ?_ _ _ ⟨[], due, [], [], T, mu, _, rfl, hp, by lia, rfl, rfl, .nil, by walk_at "lk", by walk_at "lk", by walk_at "lk", by walk_at "lk", by walk_at "lk"⟩⟩
  · rintro σ ⟨done, rem, one, other, T', mu', loc, rfl, hp', hT', ed, ex, hsp, l1, l2, l3, l4, l5⟩
    obtain rfl : rem = [] := by cases rem <;> first | rfl | cases ex
    rw [List.append_nil] at ed
    subst ed
    have hln := hsp.len
    have w1 : ∀ r ∈ one, WsOk ks r.2 := fun r hr => hw r (hsp.sub1 r hr)
    have w2 : ∀ r ∈ other, WsOk ks r.2 := fun r hr => hw r (hsp.swap.sub1 r hr)
    refine WX.nd fun nd => ?_
    have hba : b ≠ a := fun q => (List.nodup_cons.mp nd).1 (by subst q; exact .head _)
    rw [rowsV_dat, rowsV_dat] at nd ⊢
    refine WX.freeze2 hC nd fun loc2 hlk => ?_
    have m1 : loc2.lookup (Str.ofString "one") = some (.dat (.list (one.map rowD))) := by rw [hlk _ _ l1]; simp [thaw]
    have m2 : loc2.lookup (Str.ofString "other") = some (.dat (.list (other.map rowD))) := by rw [hlk _ _ l2]; simp [thaw, hba]
    have m4 := hlk _ _ l4
    have m5 := hlk _ _ l5
    clear hlk
    have z1 : SeqAt.shaped (.list (due.map rowD)) = true := (rows_sh hw).shaped (by decide)
    have z2 : PyData.eqv (.list (due.map rowD)) (.list (due.map rowD)) = true := (rows_sh hw).refl
    have g1 := merge_split hsp hs
    have g2 := merge_split hsp.swap hs
    have g3 := merge_nil_right ks due
    have g4 := merge_nil_left ks due
    have s2 : Sh 4 (.tuple [.list (one.map rowD), .list (other.map rowD)]) := Sh.tuple fun x hx => by
      rcases List.mem_cons.mp hx with rfl | hx
      · exact rows_sh w1
      · rw [List.mem_singleton.mp hx]; exact rows_sh w2
    (with_reducible refine WX.consU ?_); ((with_reducible refine WS.assign (by assumption) ?c426 ?_ ?s426); (case c426 => walk_at "can"); (case s426 => rfl)); (with_reducible refine WE.tupleU (by assumption) ?_); ((with_reducible refine WEs.cons ?_ ?he427); (case he427 => rfl)); ((with_reducible refine WE.list_of (by assumption) ?b428 ?_ ?x428 ?h428); (case b428 => exact blt_list (by assumption)); (case x428 => rfl); (case h428 => rfl)); ((with_reducible refine' WE.local' (by assumption) ?lk429 ?_ ?k429 ?d429); (case k429 => rfl); (case d429 => decide); (case lk429 => walk_at "lk"))
    refine ⟨_, .inl rfl, by simp; lia, ?_⟩
    ((with_reducible refine WEs.cons ?_ ?he430); (case he430 => rfl)); ((with_reducible refine WE.list_of (by assumption) ?b431 ?_ ?x431 ?h431); (case b431 => exact blt_list (by assumption)); (case x431 => rfl); (case h431 => rfl)); ((with_reducible refine' WE.local' (by assumption) ?lk432 ?_ ?k432 ?d432); (case k432 => rfl); (case d432 => decide); (case lk432 => walk_at "lk"))
    refine ⟨_, .inl rfl, by simp; lia, ?_⟩
    (with_reducible (refine WEs.nil ?_; refine Dats.cons ?_; refine Dats.cons ?_; refine Dats.nil ⟨Nat.le_of_ble_eq_true rfl, ?_⟩; refine WX.consU ?_; refine WS.ite ?_; refine WT.or ?_)); ((with_reducible refine WT.cmpU (by assumption) (by assumption) ?_ ?m433); (case m433 => rfl))
    refine WE.callPure 12 hC hr' D2.fn ?_ rfl (by decide) rfl
    ((with_reducible refine WEs.cons ?_ ?he434); (case he434 => rfl)); ((with_reducible refine' WE.local' (by assumption) ?lk435 ?_ ?k435 ?d435); (case k435 => rfl); (case d435 => decide); (case lk435 => walk_at "lk")); ((with_reducible refine WEs.cons ?_ ?he436); (case he436 => rfl)); ((with_reducible refine' WE.local' (by assumption) ?lk437 ?_ ?k437 ?d437); (case k437 => rfl); (case d437 => decide); (case lk437 => walk_at "lk")); ((with_reducible refine WEs.cons ?_ ?he438); (case he438 => rfl)); ((with_reducible refine' WE.local' (by assumption) ?lk439 ?_ ?k439 ?d439); (case k439 => rfl); (case d439 => decide); (case lk439 => walk_at "lk")); (with_reducible refine WEs.nil ?_)
    refine ⟨_, merged_spec hW hk w1 w2 (by lia) (by lia), ?_⟩
    ((with_reducible refine' WE.local' (by assumption) ?lk440 ?_ ?k440 ?d440); (case k440 => rfl); (case d440 => decide); (case lk440 => walk_at "lk"))
    rw [g1]
    refine OpeB.ne z1 z1 ?_
    rw [z2]
    refine ⟨fun q => (by cases q), fun _ => ?_⟩
    (with_reducible refine WT.or ?_); ((with_reducible refine WT.cmpU (by assumption) (by assumption) ?_ ?m441); (case m441 => rfl))
    refine WE.callPure 12 hC hr' D2.fn ?_ rfl (by decide) rfl
    ((with_reducible refine WEs.cons ?_ ?he442); (case he442 => rfl)); ((with_reducible refine' WE.local' (by assumption) ?lk443 ?_ ?k443 ?d443); (case k443 => rfl); (case d443 => decide); (case lk443 => walk_at "lk")); ((with_reducible refine WEs.cons ?_ ?he444); (case he444 => rfl)); ((with_reducible refine' WE.local' (by assumption) ?lk445 ?_ ?k445 ?d445); (case k445 => rfl); (case d445 => decide); (case lk445 => walk_at "lk")); ((with_reducible refine WEs.cons ?_ ?he446); (case he446 => rfl)); ((with_reducible refine' WE.local' (by assumption) ?lk447 ?_ ?k447 ?d447); (case k447 => rfl); (case d447 => decide); (case lk447 => walk_at "lk")); (with_reducible refine WEs.nil ?_)
    refine ⟨_, merged_spec hW hk w2 w1 (by lia) (by lia), ?_⟩
    ((with_reducible refine' WE.local' (by assumption) ?lk448 ?_ ?k448 ?d448); (case k448 => rfl); (case d448 => decide); (case lk448 => walk_at "lk"))
    rw [g2]
    refine OpeB.ne z1 z1 ?_
    rw [z2]
    refine ⟨fun q => (by cases q), fun _ => ?_⟩
    (with_reducible refine WT.or_nil ?_)
    refine ⟨fun q => (by cases q), fun _ => ?_⟩
    (with_reducible (refine WX.nil ?_; refine WX.consU ?_; refine WS.ret ?_))
    refine WE.and ?_
    ((with_reducible refine WE.cmpU (by assumption) (by assumption) ?_ ?m449); (case m449 => rfl)); (with_reducible refine WE.tupleU (by assumption) ?_); ((with_reducible refine WEs.cons ?_ ?he450); (case he450 => rfl)); ((with_reducible refine' WE.local' (by assumption) ?lk451 ?_ ?k451 ?d451); (case k451 => rfl); (case d451 => decide); (case lk451 => walk_at "lk")); ((with_reducible refine WEs.cons ?_ ?he452); (case he452 => rfl)); ((with_reducible refine' WE.local' (by assumption) ?lk453 ?_ ?k453 ?d453); (case k453 => rfl); (case d453 => decide); (case lk453 => walk_at "lk")); (with_reducible (refine WEs.nil ?_; refine Dats.cons ?_; refine Dats.cons ?_; refine Dats.nil ⟨Nat.le_of_ble_eq_true rfl, ?_⟩)); ((with_reducible refine' WE.local' (by assumption) ?lk454 ?_ ?k454 ?d454); (case k454 => rfl); (case d454 => decide); (case lk454 => walk_at "lk"))
    refine Ope.eq (s2.shaped (by decide)) (s2.shaped (by decide)) ?_
    rw [s2.refl]
    refine ⟨_, rfl, fun q => (by cases q), fun _ => ?_⟩
    refine WE.and ?_
    ((with_reducible refine WE.cmpU (by assumption) (by assumption) ?_ ?m455); (case m455 => rfl))
    refine WE.callPure 12 hC hr' D2.fn ?_ rfl (by decide) rfl
    ((with_reducible refine WEs.cons ?_ ?he456); (case he456 => rfl)); ((with_reducible refine' WE.local' (by assumption) ?lk457 ?_ ?k457 ?d457); (case k457 => rfl); (case d457 => decide); (case lk457 => walk_at "lk")); ((with_reducible refine WEs.cons ?_ ?he458); (case he458 => rfl)); ((with_reducible refine' WE.local' (by assumption) ?lk459 ?_ ?k459 ?d459); (case k459 => rfl); (case d459 => decide); (case lk459 => walk_at "lk")); ((with_reducible refine WEs.cons ?_ ?he460); (case he460 => rfl))
    refine WE.listU hC ?_
    (with_reducible (refine WEs.nil ?_; refine Dats.nil ⟨Nat.le_of_ble_eq_true rfl, ?_⟩; refine WEs.nil ?_))
    refine ⟨_, merged_spec (other := []) hW hk hw (by intro _ h; cases h) (by lia) (by simp), ?_⟩
    ((with_reducible refine' WE.local' (by assumption) ?lk461 ?_ ?k461 ?d461); (case k461 => rfl); (case d461 => decide); (case lk461 => walk_at "lk"))
    rw [g3]
    refine Ope.eq z1 z1 ?_
    rw [z2]
    refine ⟨_, rfl, fun q => (by cases q), fun _ => ?_⟩
    (with_reducible refine WE.bool_one ?_)
    ((with_reducible refine WE.cmpU (by assumption) (by assumption) ?_ ?m462); (case m462 => rfl))
    refine WE.callPure 12 hC hr' D2.fn ?_ rfl (by decide) rfl
    ((with_reducible refine WEs.cons ?_ ?he463); (case he463 => rfl)); ((with_reducible refine' WE.local' (by assumption) ?lk464 ?_ ?k464 ?d464); (case k464 => rfl); (case d464 => decide); (case lk464 => walk_at "lk")); ((with_reducible refine WEs.cons ?_ ?he465); (case he465 => rfl))
    refine WE.listU hC ?_
    (with_reducible (refine WEs.nil ?_; refine Dats.nil ⟨Nat.le_of_ble_eq_true rfl, ?_⟩)); ((with_reducible refine WEs.cons ?_ ?he466); (case he466 => rfl)); ((with_reducible refine' WE.local' (by assumption) ?lk467 ?_ ?k467 ?d467); (case k467 => rfl); (case d467 => decide); (case lk467 => walk_at "lk")); (with_reducible refine WEs.nil ?_)
    refine ⟨_, merged_spec (one := []) hW hk (by intro _ h; cases h) hw (by simp) (by lia), ?_⟩
    ((with_reducible refine' WE.local' (by assumption) ?lk468 ?_ ?k468 ?d468); (case k468 => rfl); (case d468 => decide); (case lk468 => walk_at "lk"))
    rw [g4]
    refine Ope.eq z1 z1 ?_
    rw [z2]
    exact .ret (hQ _ _ ⟨rfl, T', hp'⟩)
  · rintro x xs σ ⟨done, rem, one, other, T', mu', loc, rfl, hp', hT', ed, ex, hsp, l1, l2, l3, l4, l5⟩ h₀ l hC
    obtain ⟨r, rem, rfl, rfl, rfl⟩ : Ex2 fun v rem' => A3 (rem = v :: rem') (x = rowD v) (xs = rem'.map rowD) := by
      cases rem with
      | nil => cases ex
      | cons v rest => cases ex; exact ⟨v, rest, rfl, rfl, rfl⟩
    have hln := hsp.len
    have hld := congrArg List.length ed
    simp at hT' hld
    ((with_reducible refine WA.name (by assumption) ?c469 ?_); (case c469 => walk_at "can")); (with_reducible (refine WX.consU ?_; refine WS.ite ?_)); ((with_reducible refine WT.cmpU (by assumption) (by assumption) ?_ ?m470); (case m470 => rfl))
    refine WE.drawn p c hW hC hr1 ?_ rfl rfl
    ((with_reducible refine WEs.cons ?_ ?he471); (case he471 => rfl)); ((with_reducible refine' WE.local' (by assumption) ?lk472 ?_ ?k472 ?d472); (case k472 => rfl); (case d472 => decide); (case lk472 => walk_at "lk")); ((with_reducible refine WEs.cons ?_ ?he473); (case he473 => rfl)); (with_reducible (refine WE.const_int (by assumption) ?_; refine WEs.nil ?_))
    refine ⟨[_, _], mu', T', 2, rfl, rfl, hp', by lia, by lia, by lia, fun r1 mu1 h01 h11 hp1 => ?_⟩
    (with_reducible refine WE.const_int (by assumption) ?_)
    refine OpeB.eq rfl rfl ⟨fun hb => ?_, fun hb => ?_⟩
    · (with_reducible refine WX.consU ?_); ((with_reducible refine WS.expr ?_ ?a474 ?b474); (case a474 => rfl); (case b474 => rfl)); ((with_reducible refine WE.append (by assumption) ?_ ?a475 ?b475); (case a475 => rfl); (case b475 => rfl)); ((with_reducible refine' WE.local' (by assumption) ?lk476 ?_ ?k476 ?d476); (case k476 => rfl); (case d476 => decide); (case lk476 => walk_at "lk"))
      refine ⟨a, rfl, ⟨_, .tail _ (.head _)⟩, ?_⟩
      ((with_reducible refine' WE.local' (by assumption) ?lk477 ?_ ?k477 ?d477); (case k477 => rfl); (case d477 => decide); (case lk477 => walk_at "lk"))
      refine ⟨_, .tail _ (.head _), by simp [rowsV]; lia, rfl, ?_⟩
      refine WX.nd fun nd => ?_
      rw [setMu_keys] at nd
      obtain ⟨n1, n2⟩ := List.nodup_cons.mp nd
      have hba : b ≠ a := fun q => n1 (by subst q; exact .head _)
      refine WX.muEq ((setMu_skip hba).trans (congrArg _ (setMu_hit (List.nodup_cons.mp n2).1))) ?_
      (with_reducible (refine WX.nil ?_; refine WX.nil ?_))
      exact ⟨done ++ [r], rem, one ++ [r], other, _, mu1, _, congrArg (fun z => St.mk _ ((b, _) :: (a, z) :: mu1)) (show rowsV one ++ [_] = rowsV (one ++ [_]) by simp [rowsV]), hp1, by lia, by simp [ed], rfl, hsp.snoc1, by walk_at "lk", by walk_at "lk", by walk_at "lk", by walk_at "lk", by walk_at "lk"⟩
    · (with_reducible refine WX.consU ?_); ((with_reducible refine WS.expr ?_ ?a478 ?b478); (case a478 => rfl); (case b478 => rfl)); ((with_reducible refine WE.append (by assumption) ?_ ?a479 ?b479); (case a479 => rfl); (case b479 => rfl)); ((with_reducible refine' WE.local' (by assumption) ?lk480 ?_ ?k480 ?d480); (case k480 => rfl); (case d480 => decide); (case lk480 => walk_at "lk"))
      refine ⟨b, rfl, ⟨_, .head _⟩, ?_⟩
      ((with_reducible refine' WE.local' (by assumption) ?lk481 ?_ ?k481 ?d481); (case k481 => rfl); (case d481 => decide); (case lk481 => walk_at "lk"))
      refine ⟨_, .head _, by simp [rowsV]; lia, rfl, ?_⟩
      refine WX.nd fun nd => ?_
      rw [setMu_keys] at nd
      refine WX.muEq (setMu_hit (List.nodup_cons.mp nd).1) ?_
      (with_reducible (refine WX.nil ?_; refine WX.nil ?_))
      exact ⟨done ++ [r], rem, one, other ++ [r], _, mu1, _, congrArg (fun z => St.mk _ ((b, z) :: (a, _) :: mu1)) (show rowsV other ++ [_] = rowsV (other ++ [_]) by simp [rowsV]), hp1, by lia, by simp [ed], rfl, hsp.snoc2, by walk_at "lk", by walk_at "lk", by walk_at "lk", by walk_at "lk", by walk_at "lk"⟩

end
section
theorem kLt_ltD (a b : PyData) : kLt a b = ltD a b := by cases a <;> cases b <;> rfl
noncomputable def isB (b : Bool) (x y : PyData) : Bool := if b then kLt y x else kLt x y
theorem range_pick {α : Type} [Inhabited α] : ∀ l : List α, (List.range l.length).map (fun i => l.getD i default) = l := fun l => PyProof.Rows.range_getD l default
/-- what a stable sort does to the rows -/
theorem out_pairwise {b : Bool} {rows : List RowT} {f : RowT → PyData} {p : List Nat} {R : RowT → RowT → Prop} (hp : p.Perm (List.range rows.length)) (hs : p.Pairwise (sl (keyLt b (rows.map f)))) (hR : rows.Pairwise R) :
    ∃ rows' : List RowT, A3 (outOf b (rows.map rowD) p = rows'.map rowD) (rows'.Perm rows) (rows'.Pairwise fun x y => isB b (f x) (f y) = true ∨ (isB b (f y) (f x) = false ∧ R x y)) := by
  have len : (katRev b rows).length = rows.length := kat_len b rows
  have mem : ∀ i ∈ p, i < (katRev b rows).length := fun i hi => by rw [len]; simpa using hp.mem_iff.mp hi
  let g : Nat → RowT := fun i => (katRev b rows).getD i (0, [])
  have hg : ∀ i (h : i < (katRev b rows).length), g i = (katRev b rows)[i] := fun i h => by simp [g, List.getD, h]
  refine ⟨katRev b (p.map g), ?_, ?_, ?_⟩
  · unfold outOf
    rw [← kRev_map b rowD, List.map_map]
    congr 1
    refine List.map_congr_left fun i hi => ?_
    have h := mem i hi
    rw [kRev_map]
    simp [List.getD, h, hg i h]
  · have h1 : (p.map g).Perm (katRev b rows) := by
      refine (hp.map g).trans (.of_eq ?_)
      rw [← len]
      exact PyProof.Rows.range_getD _ _
    cases b with
    | false => exact h1
    | true => exact (List.reverse_perm _).trans (h1.trans (List.reverse_perm _))
  · have key : ∀ i ∈ p, keyAt b (rows.map f) i = f (g i) := fun i hi => by
      have h := mem i hi
      unfold keyAt
      rw [kRev_map, hg i h]
      simp [List.getD, h]
    have pw : (p.map g).Pairwise fun x y => kLt (f x) (f y) = true ∨ (kLt (f y) (f x) = false ∧ if b then R y x else R x y) := by
      rw [List.pairwise_map]
      refine List.Pairwise.imp_of_mem (fun {i j} hi hj h => ?_) hs
      unfold sl keyLt at h
      rw [key i hi, key j hj] at h
      refine h.imp id fun ⟨h1, h2⟩ => ⟨h1, ?_⟩
      have hi' := mem i hi
      have hj' := mem j hj
      rw [hg i hi', hg j hj']
      cases b with
      | false => exact List.pairwise_iff_getElem.mp hR i j hi' hj' h2
      | true =>
        have hR' : rows.reverse.Pairwise fun x y => R y x := List.pairwise_reverse.mpr hR
        exact List.pairwise_iff_getElem.mp hR' i j hi' hj' h2
    cases b with
    | false => exact pw
    | true =>
      show ((p.map g).reverse).Pairwise _
      rw [List.pairwise_reverse]
      exact pw

theorem str_eqv {a b : Str} : PyData.eqv (.str a) (.str b) = decide (a = b) := by
  rw [Bool.eq_iff_iff]; simp [PyData.eqv]
theorem int_eqv {a b : Int} : PyData.eqv (.int a) (.int b) = decide (a = b) := by
  rw [Bool.eq_iff_iff]; simp [PyData.eqv]
theorem lt_total {a b : Str} (h1 : ¬ a.cps.toList < b.cps.toList) (h2 : ¬ b.cps.toList < a.cps.toList) : a = b := by
  have e := List.le_antisymm (List.not_lt.mp h2) (List.not_lt.mp h1)
  cases a with | mk a => cases b with | mk b => exact congrArg _ (Array.toList_inj.mp e)
/-- one key ahead of the others -/
theorem ahead_step {n m : Int} {k : KeyT} {ks : List KeyT} {a b : PyData} {as bs : List PyData} {nm : Bool} (wa : WorthOk nm a) (wb : WorthOk nm b)
    (h : isB k.2 a b = true ∨ (isB k.2 b a = false ∧ aheadGo n m ks as bs = true)) : aheadGo n m (k :: ks) (a :: as) (b :: bs) = true := by
  unfold aheadGo
  obtain ⟨kw, kb⟩ := k
  simp only at h ⊢
  cases nm with
  | true =>
    obtain ⟨i, rfl⟩ := wa
    obtain ⟨j, rfl⟩ := wb
    rw [int_eqv]
    by_cases e : i = j
    · subst e
      simp only [decide_true, if_true]
      rcases h with h | h
      · exfalso; revert h; unfold isB kLt; cases kb <;> simp
      · exact h.2
    · simp only [decide_eq_true_eq, if_neg e]
      unfold isB kLt at h
      unfold ltD
      cases kb <;> simp at h ⊢ <;> lia
  | false =>
    obtain ⟨i, rfl, _⟩ := wa
    obtain ⟨j, rfl, _⟩ := wb
    rw [str_eqv]
    by_cases e : i = j
    · subst e
      simp only [decide_true, if_true]
      rcases h with h | h
      · exfalso; revert h; unfold isB kLt; cases kb <;> simp [List.lt_irrefl]
      · exact h.2
    · simp only [decide_eq_true_eq, if_neg e]
      have tot : ¬ j.cps.toList < i.cps.toList → i.cps.toList < j.cps.toList := fun q => Classical.byContradiction fun q2 => e (lt_total q2 q)
      have tot2 : ¬ i.cps.toList < j.cps.toList → j.cps.toList < i.cps.toList := fun q => Classical.byContradiction fun q2 => e (lt_total q q2)
      unfold isB kLt at h
      unfold ltD
      cases kb with
      | false =>
        simp only [Bool.false_eq_true, if_false, decide_eq_true_eq, decide_eq_false_iff_not] at h
        simp only [bne_iff_ne, ne_eq, Bool.not_eq_false, decide_eq_true_eq, bne]
        have hh := h.elim id fun q => tot q.1
        simp [hh]
      | true =>
        simp only [if_true, decide_eq_true_eq, decide_eq_false_iff_not] at h
        have hh := h.elim id fun q => tot2 q.1
        have : ¬ i.cps.toList < j.cps.toList := fun q => List.lt_irrefl _ (List.lt_trans hh q)
        simp [this]
theorem eqv_worth {a b : PyData} {nm : Bool} (wa : WorthOk nm a) (wb : WorthOk nm b) : PyData.eqv a b = PyData.eqv b a ∧ (PyData.eqv a b = false → ltD b a = !ltD a b) := by
  cases nm with
  | true =>
    obtain ⟨i, rfl⟩ := wa
    obtain ⟨j, rfl⟩ := wb
    rw [int_eqv, int_eqv]
    unfold ltD
    refine ⟨by simp [eq_comm], fun h => ?_⟩
    simp at h
    rw [Bool.eq_iff_iff]; simp; lia
  | false =>
    obtain ⟨i, rfl, _⟩ := wa
    obtain ⟨j, rfl, _⟩ := wb
    rw [str_eqv, str_eqv]
    unfold ltD
    refine ⟨by simp [eq_comm], fun h => ?_⟩
    simp at h
    rw [Bool.eq_iff_iff]
    simp only [decide_eq_true_eq, Bool.not_eq_true', decide_eq_false_iff_not]
    exact ⟨fun q q2 => List.lt_irrefl _ (List.lt_trans q q2), fun q => Classical.byContradiction fun q2 => h (lt_total q q2)⟩
theorem ahead_asymm {n m : Int} : ∀ {ks : List KeyT} {as bs : List PyData}, WsOk ks as → WsOk ks bs → n ≠ m → aheadGo m n ks bs as = !aheadGo n m ks as bs
  | [], [], [], _, _, h => by unfold aheadGo; rw [Bool.eq_iff_iff]; simp; lia
  | k :: ks, a :: as, b :: bs, wa, wb, h => by
    obtain ⟨e1, e2⟩ := eqv_worth wa.1 wb.1
    unfold aheadGo
    rw [← e1]
    cases e : PyData.eqv a b with
    | true => simp only [if_true]; exact ahead_asymm wa.2 wb.2 h
    | false =>
      simp only [Bool.false_eq_true, if_false]
      rw [e2 e]
      cases ltD a b <;> cases k.2 <;> rfl
  | [], _ :: _, _, h, _, _ => h.elim
  | [], [], _ :: _, _, h, _ => h.elim
  | _ :: _, [], _, h, _, _ => h.elim
  | _ :: _, _ :: _, [], _, h, _ => h.elim
/-- two rows of one list that are not one -/
theorem ahead_not {ks : List KeyT} {a b : RowT} (wa : WsOk ks a.2) (wb : WsOk ks b.2) (h : a.1 ≠ b.1) : ahead ks b a = !ahead ks a b := ahead_asymm wa wb h

end
section


noncomputable def key0 : PyData → PyData
  | .tuple [.int n, _] => .int n
  | _ => .none
noncomputable def keyW (j : Nat) : PyData → PyData
  | .tuple [_, .list ws] => ws.getD j .none
  | _ => .none
theorem keys0 (rows : List RowT) : (rows.map rowD).map key0 = rows.map fun r => .int r.1 := by
  rw [List.map_map]; rfl
theorem keysW (j : Nat) (rows : List RowT) : (rows.map rowD).map (keyW j) = rows.map fun r => r.2.getD j .none := by
  rw [List.map_map]; rfl
theorem one_kind {nm : Bool} : ∀ {ds : List PyData}, (∀ d ∈ ds, WorthOk nm d) → KeysOne ds := by
  intro ds h
  cases nm with
  | true =>
    have : ∃ ns : List Int, ds = ns.map .int := by
      induction ds with
      | nil => exact ⟨[], rfl⟩
      | cons d ds ih =>
        obtain ⟨ns, e⟩ := ih fun d hd => h d (.tail _ hd)
        obtain ⟨i, rfl⟩ := h d (.head _)
        exact ⟨i :: ns, by rw [e]; rfl⟩
    obtain ⟨ns, rfl⟩ := this
    exact .kInt ns
  | false =>
    have : ∃ ns : List Str, ds = ns.map .str := by
      induction ds with
      | nil => exact ⟨[], rfl⟩
      | cons d ds ih =>
        obtain ⟨ns, e⟩ := ih fun d hd => h d (.tail _ hd)
        obtain ⟨i, rfl, _⟩ := h d (.head _)
        exact ⟨i :: ns, by rw [e]; rfl⟩
    obtain ⟨ns, rfl⟩ := this
    exact .kStr ns

theorem sort_rows_spec (hW : IsW W) {ks : List KeyT} {rows : List RowT} {mu : Mu} (hk : ks.length ≤ 9) (hw : ∀ r ∈ rows, WsOk ks r.2) (hl : rows.length ≤ 7) (hnd : (rows.map (·.1)).Nodup) :
    Calls W 13 (.ref 92) [.dat (.list (ks.map keyD)), .dat (.list (rows.map rowD))] mu fun x mu' => ∃ rows' : List RowT, A4 (x = .dat (.list (rows'.map fun r => .int r.1))) (rows'.Perm rows) (rows'.Pairwise (fun a b => ahead ks a b = true)) (mu' = mu) := by
  obtain ⟨fd, D⟩ := D_sort_rows hW
  refine Calls.named fun Q hQ => ?_
  refine Calls.introU D rfl fun A L h₀ l s₀ hC hr' => ?_
  have hr := hr'.mono (d' := 10) (by decide)
  have hr1 := hr'.mono (d' := 11) (by decide)
  conv in bodyAt 11 => whnf
  (with_reducible refine WX.consU ?_); ((with_reducible refine WS.assign (by assumption) ?c482 ?_ ?s482); (case c482 => walk_at "can"); (case s482 => rfl))
  have cov0 : ∀ d ∈ rows.map rowD, ∃ r ∈ rows, d = rowD r := fun d hd => by obtain ⟨r, h1, h2⟩ := List.mem_map.mp hd; exact ⟨r, h1, h2.symm⟩
  refine WE.sortedKey (x := Str.ofString "row") (cl := []) hC hr' (blt_sorted hW) ?_
  ((with_reducible refine' WE.local' (by assumption) ?lk483 ?_ ?k483 ?d483); (case k483 => rfl); (case d483 => decide); (case lk483 => walk_at "lk"))
  refine ⟨rows.map rowD, key0, [], rfl, by simp; lia, ?_, ⟨rfl, by kernel_rfl, rfl, rfl, fun _ _ _ _ _ => rfl, rfl, rfl, rfl, .nil, rfl⟩, fun f c' L' h₀ l A' mu' d hCl hrl hd => ?_, fun p hp hs => ?_⟩
  · rw [keys0]
    have : (rows.map fun r => PyData.int r.1) = (rows.map (·.1)).map .int := by rw [List.map_map]; rfl
    rw [this]
    exact .kInt _
  · obtain ⟨r, hr3, rfl⟩ := cov0 d hd
    ((with_reducible refine WE.subU (by assumption) (by assumption) ?_ ?s484); (case s484 => (intro _ _; rfl))); ((with_reducible refine' WE.local' (by assumption) ?lk485 ?_ ?k485 ?d485); (case k485 => rfl); (case d485 => decide); (case lk485 => walk_at "lk")); (with_reducible refine WE.const_int (by assumption) ?_)
    refine ⟨_, .tup (i := 0) (by lia) (by lia) rfl, rfl, rfl⟩
  · rw [keys0] at hs
    rw [List.length_map] at hp
    obtain ⟨rows1, e1, p1, w1⟩ := out_pairwise (R := fun _ _ => True) hp hs (List.pairwise_of_forall fun _ _ => trivial)
    rw [e1]
    have w1' : rows1.Pairwise fun a b => aheadGo a.1 b.1 (ks.drop ks.length) (a.2.drop ks.length) (b.2.drop ks.length) = true := by
      have nd1 : (rows1.map (·.1)).Nodup := (p1.map _).nodup_iff.mpr hnd
      rw [List.Nodup, List.pairwise_map] at nd1
      refine List.Pairwise.imp₂ (R := fun a b => isB false (.int a.1) (.int b.1) = true ∨ (isB false (.int b.1) (.int a.1) = false ∧ True)) (S := fun a b => a.1 ≠ b.1) (fun a b h1 h2 => ?_) w1 nd1
      rw [List.drop_length]
      unfold aheadGo
      unfold isB kLt at h1
      simp at h1 ⊢
      lia
    have drop0 : ∀ (a b : RowT), aheadGo a.1 b.1 (ks.drop 0) (a.2.drop 0) (b.2.drop 0) = ahead ks a b := fun _ _ => rfl
    (with_reducible refine WX.consU ?_); ((with_reducible refine WS.for (by assumption) ?_ ?s486); (case s486 => (intro _; rfl)))
    refine WI.rangeDown hC hr (blt_range hW) ?_ rfl rfl rfl
    ((with_reducible refine WEs.cons ?_ ?he487); (case he487 => rfl)); (with_reducible refine WE.binopU (by assumption) (by assumption) ?_); ((with_reducible refine WE.len (by assumption) ?b488 ?_ ?x488 ?h488); (case b488 => exact blt_len (by assumption)); (case x488 => rfl); (case h488 => rfl)); ((with_reducible refine' WE.local' (by assumption) ?lk489 ?_ ?k489 ?d489); (case k489 => rfl); (case d489 => decide); (case lk489 => walk_at "lk"))
    refine ⟨_, .list, by simp; exact Nat.le_trans hk (by decide), ?_⟩
    (with_reducible (refine WE.const_int (by assumption) ?_; refine Ope.sub_int ?_)); ((with_reducible refine WEs.cons ?_ ?he490); (case he490 => rfl)); (with_reducible (refine WE.negU (by assumption) (by assumption) ?_; refine WE.const_int (by assumption) ?_; refine IntV.mk ?_)); ((with_reducible refine WEs.cons ?_ ?he491); (case he491 => rfl)); (with_reducible (refine WE.negU (by assumption) (by assumption) ?_; refine WE.const_int (by assumption) ?_; refine IntV.mk ?_; refine WEs.nil ?_))
    refine ⟨(ks.length : Int) - 1, by simp, by lia, by lia, ?_⟩
    rw [show ((ks.length : Int) - 1 + 1).toNat = ks.length by lia]
    let J19 : List PyData → St → Prop := fun xs σ => Ex3 fun (i : Nat) (rows2 : List RowT) (loc : List (Str × V)) => A7 (σ = ⟨loc, mu⟩) (i ≤ ks.length) (xs = rangeD ((i : Int) - 1) (-1) i) (rows2.Perm rows) (rows2.Pairwise (fun a b => aheadGo a.1 b.1 (ks.drop i) (a.2.drop i) (b.2.drop i) = true)) (loc.lookup (Str.ofString "keys") = some (.dat (.list (ks.map keyD)))) (loc.lookup (Str.ofString "found") = some (.dat (.list (rows2.map rowD))))
    refine LoopW.gen J19 ?_ ?_ _ _ ⟨ks.length, rows1, _, rfl, Nat.le_refl _, rfl, p1, w1', by walk_at "lk", by walk_at "lk"⟩
    · rintro σ ⟨i, rows2, loc, rfl, hi, ex, p2, w2, l1, l2⟩
      obtain rfl : i = 0 := by
        have := congrArg List.length ex
        simpa [rangeD] using this.symm
      (with_reducible (refine WX.consU ?_; refine WS.ret ?_))
      refine WE.comp hC ?_ rfl rfl (by decide) (by intro _; rfl)
      unfold CompH
      refine WI.list hC hr ?_
      ((with_reducible refine' WE.local' (by assumption) ?lk492 ?_ ?k492 ?d492); (case k492 => rfl); (case d492 => decide); (case lk492 => walk_at "lk"))
      have l7 : rows2.length ≤ 7 := by rw [p2.length_eq]; exact hl
      refine ⟨_, rfl, by simp; lia, [], .nil, fun Cl h₀ l hCi => ?_⟩
      refine CompW.map key0 (fun σ => σ.mu = mu) rfl (fun σ' e => ?_) fun x hx σ hσ h₀' l' hC' => ?_
      · refine FinC.dat (.ret (hQ _ _ ⟨rows2, ?_, p2, w2, e⟩))
        rw [keys0]
      · obtain ⟨r, hr3, rfl⟩ := List.mem_map.mp hx
        ((with_reducible refine WA.name (by assumption) ?c493 ?_); (case c493 => walk_at "can")); ((with_reducible refine WE.subU (by assumption) (by assumption) ?_ ?s494); (case s494 => (intro _ _; rfl))); ((with_reducible refine' WE.local' (by assumption) ?lk495 ?_ ?k495 ?d495); (case k495 => rfl); (case d495 => decide); (case lk495 => walk_at "lk")); (with_reducible refine WE.const_int (by assumption) ?_)
        exact ⟨_, .tup (i := 0) (by lia) (by lia) rfl, rfl, hσ⟩
    · rintro x xs σ ⟨i, rows2, loc, rfl, hi, ex, p2, w2, l1, l2⟩ h₀ l hC
      obtain ⟨j, rfl⟩ : ∃ j, i = j + 1 := by
        cases i with
        | zero => cases ex
        | succ j => exact ⟨j, rfl⟩
      have ex' : rangeD (((j + 1 : Nat) : Int) - 1) (-1) (j + 1) = .int (j : Nat) :: rangeD ((j : Int) - 1) (-1) j := by
        unfold rangeD
        rw [List.range_succ_eq_map, List.map_cons, List.map_map]
        congr 1
        · congr 1; lia
        · refine List.map_congr_left fun q _ => ?_
          simp only [Function.comp]
          congr 1; lia
      rw [ex'] at ex
      obtain ⟨rfl, rfl⟩ := List.cons.inj ex
      have hj : j < ks.length := hi
      obtain ⟨kj, hkj⟩ : ∃ kj, ks[j]? = some kj := ⟨_, List.getElem?_eq_getElem hj⟩
      have l7 : rows2.length ≤ 7 := by rw [p2.length_eq]; exact hl
      have hw2 : ∀ r ∈ rows2, WsOk ks r.2 := fun r h => hw r (p2.mem_iff.mp h)
      have wo : ∀ r ∈ rows2, r.2[j]? = some (r.2.getD j .none) ∧ WorthOk (isNum kj.1) (r.2.getD j .none) := fun r h => by
        obtain ⟨d, e, w⟩ := (hw2 r h).get j hkj
        simp only [List.getD, e]
        exact ⟨rfl, w⟩
      have ko : KeysOne ((rows2.map rowD).map (keyW j)) := by
        rw [keysW]
        refine one_kind (nm := isNum kj.1) fun d hd => ?_
        obtain ⟨r, h1, rfl⟩ := List.mem_map.mp hd
        exact (wo r h1).2
      ((with_reducible refine WA.name (by assumption) ?c496 ?_); (case c496 => walk_at "can")); (with_reducible refine WX.consU ?_); ((with_reducible refine WS.assign (by assumption) ?c497 ?_ ?s497); (case c497 => walk_at "can"); (case s497 => rfl))
      refine WE.sortedKeyRev (x := Str.ofString "row") (cl := [(Str.ofString "at", L + 1)]) hC hr' (blt_sorted hW) ?_
      ((with_reducible refine' WE.local' (by assumption) ?lk498 ?_ ?k498 ?d498); (case k498 => rfl); (case d498 => decide); (case lk498 => walk_at "lk"))
      refine ⟨rows2.map rowD, keyW j, [(Str.ofString "at", .dat (.int (j : Nat)))], rfl, by simp; lia, ko, ⟨rfl, by kernel_rfl, rfl, rfl, fun _ _ _ _ _ => rfl, rfl, rfl, rfl, .cons rfl (by walk_at "lk") rfl rfl rfl .nil, rfl⟩, fun f c' L' h₀ l A' mu' d hCl hrl hd => ?_, ?_⟩
      · obtain ⟨r, hr3, rfl⟩ := List.mem_map.mp hd
        ((with_reducible refine WE.subU (by assumption) (by assumption) ?_ ?s499); (case s499 => (intro _ _; rfl))); ((with_reducible refine WE.subU (by assumption) (by assumption) ?_ ?s500); (case s500 => (intro _ _; rfl))); ((with_reducible refine' WE.local' (by assumption) ?lk501 ?_ ?k501 ?d501); (case k501 => rfl); (case d501 => decide); (case lk501 => walk_at "lk")); (with_reducible refine WE.const_int (by assumption) ?_)
        refine ⟨_, .tup (i := 1) (by lia) (by lia) rfl, ?_⟩
        ((with_reducible refine' WE.free' (by assumption) ?lk502 ?_ ?k502 ?d502 ?e502); (case k502 => rfl); (case d502 => decide); (case e502 => decide); (case lk502 => walk_at "lk"))
        exact ⟨_, .list (i := (j : Nat)) (by lia) (by lia) (wo r hr3).1, rfl, rfl⟩
      · ((with_reducible refine WE.subU (by assumption) (by assumption) ?_ ?s503); (case s503 => (intro _ _; rfl))); ((with_reducible refine WE.subU (by assumption) (by assumption) ?_ ?s504); (case s504 => (intro _ _; rfl))); ((with_reducible refine' WE.local' (by assumption) ?lk505 ?_ ?k505 ?d505); (case k505 => rfl); (case d505 => decide); (case lk505 => walk_at "lk")); ((with_reducible refine' WE.cell' (by assumption) ?lk506 ?_ ?k506 ?d506); (case k506 => rfl); (case d506 => decide); (case lk506 => walk_at "lk"))
        refine ⟨_, .list (i := (j : Nat)) (d := keyD kj) (by lia) (by lia) (by simp [hkj]), ?_⟩
        (with_reducible refine WE.const_int (by assumption) ?_)
        refine ⟨_, .tup (i := 1) (by lia) (by lia) rfl, _, rfl, rfl, fun p hp hs => ?_⟩
        rw [keysW] at hs
        rw [List.length_map] at hp
        obtain ⟨rows3, e3, p3, w3⟩ := out_pairwise hp hs w2
        rw [e3]
        (with_reducible refine WX.nil ?_)
        refine ⟨j, rows3, _, rfl, by lia, rfl, p3.trans p2, ?_, by walk_at "lk", by walk_at "lk"⟩
        refine List.Pairwise.imp_of_mem (fun {a b} ha hb h => ?_) w3
        have wa := wo a (p3.mem_iff.mp ha)
        have wb := wo b (p3.mem_iff.mp hb)
        have dr : ∀ {α : Type} (l : List α) (d : α), l[j]? = some d → l.drop j = d :: l.drop (j + 1) := fun l d e => by
          obtain ⟨h1, h2⟩ := List.getElem?_eq_some_iff.mp e
          rw [List.drop_eq_getElem_cons h1, h2]
        rw [dr ks kj hkj, dr a.2 _ wa.1, dr b.2 _ wb.1]
        exact ahead_step wa.2 wb.2 h

end
section


noncomputable def rdGo : Nat → Bool → List KeyT → List Str → Except Int (List KeyT)
  | at_, rev, found, [] => if found.isEmpty || rev then .error (at_ : Nat) else .ok found
  | at_, rev, found, w :: ws => if w = REV then (if rev then .error (at_ : Nat) else rdGo (at_ + 1) true found ws) else if w ∈ sortWords then rdGo (at_ + 1) false (found ++ [(w, rev)]) ws else .error (at_ : Nat)
theorem rdGo_cons (i : Nat) (rev : Bool) (found : List KeyT) (w : Str) (ws : List Str) :
    rdGo i rev found (w :: ws) = if w = REV then (if rev then .error (i : Nat) else rdGo (i + 1) true found ws) else if w ∈ sortWords then rdGo (i + 1) false (found ++ [(w, rev)]) ws else .error (i : Nat) := rfl
noncomputable def WdOk (w : Str) : Prop := w.length ≤ 1000 ∧ ∀ c ∈ w.cps.toList, c ≤ 1114111
theorem str_shaped {w : Str} (h : ∀ c ∈ w.cps.toList, c ≤ 1114111) : SeqAt.shaped (.str w) = true := by
  have : PyData.strOk w = true := by
    unfold PyData.strOk
    rw [Array.all_eq_true']
    intro c hc
    have := h c (Array.mem_toList_iff.mpr hc)
    simp; lia
  unfold SeqAt.shaped
  simp [PyData.canLay0, this, PyData.depth]
theorem upper_ok {w : Str} (h : WdOk w) : SeqAt.shaped (.str (upperS w)) = true := by
  refine str_shaped fun c hc => ?_
  simp only [upperS, Array.toList_map, List.mem_map] at hc
  obtain ⟨a, ha, rfl⟩ := hc
  have := h.2 a ha
  unfold upperC
  split <;> lia
theorem in_words (w : Str) : ((sortWords.map PyData.str).any fun y => PyData.eqv y (.str w)) = decide (w ∈ sortWords) := by
  rw [Bool.eq_iff_iff]
  simp only [List.any_map, List.any_eq_true, Function.comp, str_eqv, decide_eq_true_eq]
  constructor
  · rintro ⟨x, h1, rfl⟩; exact h1
  · intro h; exact ⟨w, h, rfl⟩

theorem words_sh : ∀ w ∈ sortWords, SeqAt.shaped (.str w) = true := by decide +kernel
theorem str_sh {w : Str} (h : SeqAt.shaped (.str w) = true) : Sh 0 (.str w) := ⟨SeqAt.canLay_of_shaped h, Nat.le_refl _⟩
theorem keys_sh {ks : List KeyT} (h : ∀ k ∈ ks, k.1 ∈ sortWords) : Sh 2 (.list (ks.map keyD)) := Sh.list fun x hx => by
  obtain ⟨k, hk, rfl⟩ := List.mem_map.mp hx
  refine Sh.tuple fun y hy => ?_
  rcases List.mem_cons.mp hy with rfl | hy
  · exact str_sh (words_sh _ (h k hk))
  · rw [List.mem_singleton.mp hy]; exact Sh.bool
theorem keys_empty (ks : List KeyT) : PyData.eqv (.list (ks.map keyD)) (.list []) = ks.isEmpty := by
  cases ks <;> simp [PyData.eqv, PyData.eqvAll]
theorem read_spec (hW : IsW W) {ws : List Str} {mu : Mu} (hw : ∀ w ∈ ws, WdOk w) (hl : ws.length ≤ 100) :
    CallsF W 13 (.ref 80) [.dat (.list (ws.map .str))] mu (fun x mu' => ∃ ks, A3 (rdGo 0 false [] (ws.map upperS) = .ok ks) (x = .dat (.list (ks.map keyD))) (mu' = mu)) (fun n mu' => rdGo 0 false [] (ws.map upperS) = .error n ∧ mu' = mu) := by
  obtain ⟨fd, D⟩ := D_read_sort_keys hW
  obtain ⟨fd2, D2⟩ := D_upper_text hW
  obtain ⟨fd3, D3⟩ := D_sort_words hW
  refine CallsF.named fun Q hQ => ?_
  refine CallsF.intro D rfl fun A L h₀ l s₀ fr outer hC F hr' efr => ?_
  have hr := hr'.mono (d' := 10) (by decide)
  conv in bodyAt 9 => whnf
  (with_reducible refine WX.consU ?_); ((with_reducible refine' WS.assignSwapU (by assumption) (by assumption) ?c507 ?_ ?s507 ?w507); (case w507 => rfl); (case s507 => rfl); (case c507 => (repeat (first | exact .nil | refine .cons (.loc rfl) ?_)))); ((with_reducible refine WEs.cons ?_ ?he508); (case he508 => rfl))
  refine WE.listMu hC (WEs.nil ⟨by decide, fun f => ?_⟩)
  ((with_reducible refine WEs.cons ?_ ?he509); (case he509 => rfl)); (with_reducible (refine WE.const_bool (by assumption) ?_; refine WEs.nil ?_)); ((with_reducible refine SwapK.mk ?a510 ?b510 ?_); (case a510 => exact Nat.le_of_ble_eq_true rfl); (case b510 => rfl)); (with_reducible refine WX.consU ?_)
  refine WS.forE hC (RaisedHere.passes hC F) ?_ (by intro _; rfl)
  refine WI.enumList hC hr (blt_enumerate hW) ?_ rfl rfl
  ((with_reducible refine' WE.local' (by assumption) ?lk511 ?_ ?k511 ?d511); (case k511 => rfl); (case d511 => decide); (case lk511 => walk_at "lk"))
  let J20 : List PyData → St → Prop := fun xs σ => Ex5 fun (i : Nat) (found : List KeyT) (rev : Bool) (loc : List (Str × V)) (y : List V) => A10 (σ = ⟨loc, (f, y) :: mu⟩) (y = keysV found) (found.length ≤ i) ((∀ k ∈ found, k.1 ∈ sortWords)) (i ≤ ws.length) (xs = (((ws.drop i).map PyData.str).zipIdx i).map (fun p => .tuple [.int (p.2 : Nat), p.1])) (rdGo 0 false [] (ws.map upperS) = rdGo i rev found ((ws.drop i).map upperS)) (loc.lookup (Str.ofString "words") = some (.dat (.list (ws.map .str)))) (loc.lookup (Str.ofString "found") = some (.ref f)) (loc.lookup (Str.ofString "is_reverse") = some (.dat (.bool rev)))
  refine ⟨_, rfl, LoopE.genR J20 ?_ ?_ _ _ ⟨0, [], false, _, _, rfl, rfl, Nat.le_refl _, (by intro _ h; cases h), Nat.zero_le _, rfl, rfl, by walk_at "lk", by walk_at "lk", by walk_at "lk"⟩⟩
  · rintro σ ⟨i, found, rev, loc, y, rfl, rfl, hfl, hfw, hi, ex, e, l1, l2, l3⟩
    have hge : ws.length ≤ i := by
      have := congrArg List.length ex
      simp at this
      lia
    obtain rfl : i = ws.length := by lia
    rw [List.drop_length] at e
    refine WX.nd fun nd => ?_
    have hf := (List.nodup_cons.mp nd).1
    refine WX.view (View.freeze hC (a := f) (ds := found.map keyD) (by rw [show keysV found = (found.map keyD).map V.dat by simp [keysV]]; exact .head _)) ?_
    have em := freeze_mu (loc := loc) (ys := keysV found) (d := .list (found.map keyD)) hf
    generalize hσ : St.freeze ⟨loc, (f, keysV found) :: mu⟩ f (.list (found.map keyD)) = σ' at *
    have g1 : σ'.loc.lookup (Str.ofString "words") = some (.dat (.list (ws.map .str))) := by
      rw [← hσ]; show (loc.map fun p => (p.1, thaw f _ p.2)).lookup _ = _; rw [lookup_map, l1]; rfl
    have g2 : σ'.loc.lookup (Str.ofString "found") = some (.dat (.list (found.map keyD))) := by
      rw [← hσ]; show (loc.map fun p => (p.1, thaw f _ p.2)).lookup _ = _; rw [lookup_map, l2]; simp [thaw]
    have g3 : σ'.loc.lookup (Str.ofString "is_reverse") = some (.dat (.bool rev)) := by
      rw [← hσ]; show (loc.map fun p => (p.1, thaw f _ p.2)).lookup _ = _; rw [lookup_map, l3]; rfl
    clear hσ
    obtain ⟨loc', mu'⟩ := σ'
    obtain rfl : mu' = mu := em
    (with_reducible (refine WX.consU ?_; refine WS.ite ?_; refine WT.or ?_)); ((with_reducible refine WT.cmpU (by assumption) (by assumption) ?_ ?m512); (case m512 => rfl)); ((with_reducible refine' WE.local' (by assumption) ?lk513 ?_ ?k513 ?d513); (case k513 => rfl); (case d513 => decide); (case lk513 => walk_at "lk"))
    refine WE.listU hC ?_
    (with_reducible (refine WEs.nil ?_; refine Dats.nil ⟨Nat.le_of_ble_eq_true rfl, ?_⟩))
    refine OpeB.eq ((keys_sh hfw).shaped (by decide)) (by decide) ?_
    rw [keys_empty]
    have e' : rdGo 0 false [] (ws.map upperS) = if found.isEmpty || rev then .error (ws.length : Nat) else .ok found := e
    have hsz : 2100 ≤ sizeLine := by decide
    have fault : (found.isEmpty || rev) = true → rdGo 0 false [] (ws.map upperS) = .error ((ws.map PyData.str).length : Nat) := fun h => by rw [e', if_pos h, List.length_map]
    refine ⟨fun h1 => ⟨fun _ => ?_, fun q => by cases q⟩, fun h1 => ?_⟩
    · (with_reducible refine WX.consU ?_)
      refine WS.raise hW hC hr ?_ rfl rfl rfl
      ((with_reducible refine WEs.cons ?_ ?he514); (case he514 => rfl)); (with_reducible refine WE.const_str (by assumption) ?_); ((with_reducible refine WEs.cons ?_ ?he515); (case he515 => rfl)); ((with_reducible refine WE.len (by assumption) ?b516 ?_ ?x516 ?h516); (case b516 => exact blt_len (by assumption)); (case x516 => rfl); (case h516 => rfl)); ((with_reducible refine' WE.local' (by assumption) ?lk517 ?_ ?k517 ?d517); (case k517 => rfl); (case d517 => decide); (case lk517 => walk_at "lk"))
      refine ⟨_, .list, by simp; lia, ?_⟩
      (with_reducible refine WEs.nil ?_)
      exact ⟨_, _, rfl, fault (by rw [h1]; rfl), rfl⟩
    · (with_reducible refine WT.or ?_); ((with_reducible refine WT.plainU ?_ ?p518); (case p518 => rfl)); ((with_reducible refine' WE.local' (by assumption) ?lk519 ?_ ?k519 ?d519); (case k519 => rfl); (case d519 => decide); (case lk519 => walk_at "lk")); (with_reducible refine BoolV.mk ?_)
      refine ⟨fun h2 => ?_, fun h2 => ?_⟩
      · refine ⟨fun _ => ?_, fun q => by cases q⟩
        (with_reducible refine WX.consU ?_)
        refine WS.raise hW hC hr ?_ rfl rfl rfl
        ((with_reducible refine WEs.cons ?_ ?he520); (case he520 => rfl)); (with_reducible refine WE.const_str (by assumption) ?_); ((with_reducible refine WEs.cons ?_ ?he521); (case he521 => rfl)); ((with_reducible refine WE.len (by assumption) ?b522 ?_ ?x522 ?h522); (case b522 => exact blt_len (by assumption)); (case x522 => rfl); (case h522 => rfl)); ((with_reducible refine' WE.local' (by assumption) ?lk523 ?_ ?k523 ?d523); (case k523 => rfl); (case d523 => decide); (case lk523 => walk_at "lk"))
        refine ⟨_, .list, by simp; lia, ?_⟩
        (with_reducible refine WEs.nil ?_)
        exact ⟨_, _, rfl, fault (by rw [h1, h2]; rfl), rfl⟩
      · (with_reducible refine WT.or_nil ?_)
        refine ⟨fun q => (by cases q), fun _ => ?_⟩
        (with_reducible (refine WX.nil ?_; refine WX.consU ?_; refine WS.ret ?_)); ((with_reducible refine' WE.local' (by assumption) ?lk524 ?_ ?k524 ?d524); (case k524 => rfl); (case d524 => decide); (case lk524 => walk_at "lk"))
        exact .ret (hQ _ _ ⟨found, by rw [e', h1, h2]; rfl, rfl, rfl⟩)
  · rintro x xs σ ⟨i, found, rev, loc, y, rfl, rfl, hfl, hfw, hi, ex, e, l1, l2, l3⟩ h₀ l hC
    have hlt : i < ws.length := by
      rcases Nat.lt_or_ge i ws.length with h | h
      · exact h
      · rw [List.drop_eq_nil_of_le h] at ex; cases ex
    have hd : ws.drop i = ws[i] :: ws.drop (i + 1) := List.drop_eq_getElem_cons hlt
    rw [hd] at ex e
    simp only [List.map_cons, List.zipIdx_cons, List.cons.injEq] at ex e
    obtain ⟨rfl, rfl⟩ := ex
    have hwi := hw ws[i] (List.getElem_mem hlt)
    refine WA.pair rfl hC hr ?_
    ((with_reducible refine WA.name (by assumption) ?c525 ?_); (case c525 => walk_at "can")); ((with_reducible refine WA.name (by assumption) ?c526 ?_); (case c526 => walk_at "can")); (with_reducible refine WX.consU ?_); ((with_reducible refine WS.assign (by assumption) ?c527 ?_ ?s527); (case c527 => walk_at "can"); (case s527 => rfl))
    refine WE.callPure 11 hC (hr'.mono (by decide)) D2.fn ?_ rfl (by decide) rfl
    ((with_reducible refine WEs.cons ?_ ?he528); (case he528 => rfl)); ((with_reducible refine' WE.local' (by assumption) ?lk529 ?_ ?k529 ?d529); (case k529 => rfl); (case d529 => decide); (case lk529 => walk_at "lk")); (with_reducible refine WEs.nil ?_)
    refine ⟨_, upper_spec hW hwi.1, ?_⟩
    (with_reducible (refine WX.consU ?_; refine WS.ite ?_)); ((with_reducible refine WT.cmpU (by assumption) (by assumption) ?_ ?m530); (case m530 => rfl)); ((with_reducible refine' WE.local' (by assumption) ?lk531 ?_ ?k531 ?d531); (case k531 => rfl); (case d531 => decide); (case lk531 => walk_at "lk")); (with_reducible refine WE.const_str (by assumption) ?_)
    refine OpeB.eq (upper_ok hwi) (by decide +kernel) ?_
    rw [str_eqv]
    refine ⟨fun hb => ?_, fun hb => ?_⟩
    · have hb : upperS ws[i] = REV := by simpa [REV] using hb
      rw [rdGo_cons, if_pos hb] at e
      (with_reducible (refine WX.consU ?_; refine WS.ite ?_)); ((with_reducible refine WT.plainU ?_ ?p532); (case p532 => rfl)); ((with_reducible refine' WE.local' (by assumption) ?lk533 ?_ ?k533 ?d533); (case k533 => rfl); (case d533 => decide); (case lk533 => walk_at "lk")); (with_reducible refine BoolV.mk ?_)
      refine ⟨fun hr1 => ?_, fun hr1 => ?_⟩
      · subst hr1
        refine WX.view (View.drop hC) ?_
        (with_reducible refine WX.consU ?_)
        refine WS.raise hW hC hr ?_ rfl rfl rfl
        ((with_reducible refine WEs.cons ?_ ?he534); (case he534 => rfl)); (with_reducible refine WE.const_str (by assumption) ?_); ((with_reducible refine WEs.cons ?_ ?he535); (case he535 => rfl)); ((with_reducible refine' WE.local' (by assumption) ?lk536 ?_ ?k536 ?d536); (case k536 => rfl); (case d536 => decide); (case lk536 => walk_at "lk")); (with_reducible refine WEs.nil ?_)
        exact ⟨_, _, rfl, by rw [e]; rfl, rfl⟩
      · subst hr1
        (with_reducible (refine WX.nil ?_; refine WX.consU ?_)); ((with_reducible refine WS.assign (by assumption) ?c537 ?_ ?s537); (case c537 => walk_at "can"); (case s537 => rfl)); (with_reducible (refine WE.const_bool (by assumption) ?_; refine WX.nil ?_; refine WX.nil ?_))
        exact ⟨i + 1, found, true, _, _, rfl, rfl, by lia, hfw, hlt, rfl, by rw [e]; rfl, by walk_at "lk", by walk_at "lk", by walk_at "lk"⟩
    · have hb : upperS ws[i] ≠ REV := by simpa [REV] using hb
      rw [rdGo_cons, if_neg hb] at e
      (with_reducible (refine WX.consU ?_; refine WS.ite ?_)); ((with_reducible refine WT.cmpU (by assumption) (by assumption) ?_ ?m538); (case m538 => rfl)); ((with_reducible refine' WE.local' (by assumption) ?lk539 ?_ ?k539 ?d539); (case k539 => rfl); (case d539 => decide); (case lk539 => walk_at "lk"))
      refine WE.callFn0 11 hC (hr'.mono (by decide)) D3.fn (rest := []) rfl (sort_words_spec hW) (fun x mu' hx => ?_) rfl (by decide)
      obtain ⟨rfl, rfl⟩ := hx
      refine OpeB.in_list (upper_ok hwi) (by decide +kernel) ?_
      rw [in_words]
      refine ⟨fun hc => ?_, fun hc => ?_⟩
      · have hc : upperS ws[i] ∈ sortWords := by simpa using hc
        rw [if_pos hc] at e
        (with_reducible refine WX.consU ?_); ((with_reducible refine WS.expr ?_ ?a540 ?b540); (case a540 => rfl); (case b540 => rfl)); ((with_reducible refine WE.append (by assumption) ?_ ?a541 ?b541); (case a541 => rfl); (case b541 => rfl)); ((with_reducible refine' WE.local' (by assumption) ?lk542 ?_ ?k542 ?d542); (case k542 => rfl); (case d542 => decide); (case lk542 => walk_at "lk"))
        have hsz : 2100 ≤ sizeLine := by decide
        refine ⟨f, rfl, ⟨_, .head _⟩, ?_⟩
        (with_reducible refine WE.tupleU (by assumption) ?_); ((with_reducible refine WEs.cons ?_ ?he543); (case he543 => rfl)); ((with_reducible refine' WE.local' (by assumption) ?lk544 ?_ ?k544 ?d544); (case k544 => rfl); (case d544 => decide); (case lk544 => walk_at "lk")); ((with_reducible refine WEs.cons ?_ ?he545); (case he545 => rfl)); ((with_reducible refine' WE.local' (by assumption) ?lk546 ?_ ?k546 ?d546); (case k546 => rfl); (case d546 => decide); (case lk546 => walk_at "lk")); (with_reducible (refine WEs.nil ?_; refine Dats.cons ?_; refine Dats.cons ?_; refine Dats.nil ⟨Nat.le_of_ble_eq_true rfl, ?_⟩))
        refine ⟨_, .head _, by simp [keysV]; lia, rfl, ?_⟩
        refine WX.nd fun nd => ?_
        rw [setMu_keys] at nd
        refine WX.muEq (setMu_hit (List.nodup_cons.mp nd).1) ?_
        (with_reducible refine WX.consU ?_); ((with_reducible refine WS.assign (by assumption) ?c547 ?_ ?s547); (case c547 => walk_at "can"); (case s547 => rfl)); (with_reducible (refine WE.const_bool (by assumption) ?_; refine WX.nil ?_; refine WX.nil ?_; refine WX.nil ?_))
        exact ⟨i + 1, found ++ [(upperS ws[i], rev)], false, _, _, rfl, by simp [keysV, keyD], by simp; lia, (by intro k hk; rcases List.mem_append.mp hk with h | h; exact hfw k h; rw [List.mem_singleton.mp h]; exact hc), hlt, rfl, e, by walk_at "lk", by walk_at "lk", by walk_at "lk"⟩
      · have hc : upperS ws[i] ∉ sortWords := by simpa using hc
        rw [if_neg hc] at e
        refine WX.view (View.drop hC) ?_
        (with_reducible refine WX.consU ?_)
        refine WS.raise hW hC hr ?_ rfl rfl rfl
        ((with_reducible refine WEs.cons ?_ ?he548); (case he548 => rfl)); (with_reducible refine WE.const_str (by assumption) ?_); ((with_reducible refine WEs.cons ?_ ?he549); (case he549 => rfl)); ((with_reducible refine' WE.local' (by assumption) ?lk550 ?_ ?k550 ?d550); (case k550 => rfl); (case d550 => decide); (case lk550 => walk_at "lk")); (with_reducible refine WEs.nil ?_)
        exact ⟨_, _, rfl, e, rfl⟩

end
section


theorem refused_spec (hW : IsW W) {ws : List Str} {n : Int} {mu : Mu} (hw : ∀ w ∈ ws, WdOk w) (hl : ws.length ≤ 100) (hn : rdGo 0 false [] (ws.map upperS) = .error n) :
    CallsF W 14 (.ref 160) [.dat (.list (ws.map .str))] mu (fun x mu' => x = .dat (.int n) ∧ mu' = mu) (fun _ _ => False) := by
  obtain ⟨fd, D⟩ := D_law_refused hW
  obtain ⟨fd2, D2⟩ := D_read_sort_keys hW
  refine CallsF.named fun Q hQ => ?_
  refine CallsF.introW D rfl fun A L h₀ l s₀ fr outer hC F hr' efr => ?_
  have hr := hr'.mono (d' := 10) (by decide)
  conv in bodyAt 26 => whnf
  refine try_fault (K := fun m σ => m = n ∧ σ.mu = mu) hW hC F (fun s sm H => ?_) rfl rfl rfl rfl (by decide) (fun m σ1 hk => ?_)
  · refine callF_raises (cs := []) (fr := fr) (mu := mu) (rest := []) (K1 := fun _ _ => True) 13 hC F (hr'.mono (by decide)) rfl efr D2.fn sm H ?_ rfl (by decide) rfl
    ((with_reducible refine WEs.cons ?_ ?he551); (case he551 => rfl)); ((with_reducible refine' WE.local' (by assumption) ?lk552 ?_ ?k552 ?d552); (case k552 => rfl); (case d552 => decide); (case lk552 => walk_at "lk")); (with_reducible refine WEs.nil ?_)
    refine ⟨[], mu, _, rfl, fun A s vs l outer fr hr FO B la => wpAny_mono (read_spec hW hw hl A s vs l outer fr hr FO B la) (fun v s' hx => ?_) (fun _ _ e => e), fun m mu' hm => ?_⟩
    · obtain ⟨x, mu', ⟨ks, h1, _⟩, _⟩ := hx
      rw [hn] at h1; cases h1
    · obtain ⟨h1, rfl⟩ := hm
      rw [hn] at h1
      cases h1
      exact ⟨rfl, rfl⟩
  · obtain ⟨rfl, h⟩ := hk
    exact .ret (hQ _ _ ⟨rfl, h⟩)

end
section
theorem names_ok : ∀ w ∈ lawNames, w ∈ sortWords ∧ w ≠ REV := by decide +kernel
theorem show_cons (k : KeyT) (ks : List KeyT) : showKeys (k :: ks) = showOne k ++ showKeys ks := by simp [showKeys]
theorem rd_rev (i : Nat) (found : List KeyT) (ws : List Str) : rdGo i false found (REV :: ws) = rdGo (i + 1) true found ws := by rw [rdGo_cons, if_pos rfl]; rfl
theorem rd_word (i : Nat) (rev : Bool) (found : List KeyT) {w : Str} (ws : List Str) (h : w ∈ lawNames) : rdGo i rev found (w :: ws) = rdGo (i + 1) false (found ++ [(w, rev)]) ws := by
  obtain ⟨h1, h2⟩ := names_ok w h
  rw [rdGo_cons, if_neg h2, if_pos h1]
theorem rd_odd (i : Nat) (rev : Bool) (found : List KeyT) {w : Str} (ws : List Str) (h1 : w ∉ sortWords) (h2 : w ≠ REV) : rdGo i rev found (w :: ws) = .error (i : Nat) := by
  rw [rdGo_cons, if_neg h2, if_neg h1]
theorem rd_keys : ∀ (ks : List KeyT) (i : Nat) (found : List KeyT) (tail : List Str), KeysOk ks → rdGo i false found (showKeys ks ++ tail) = rdGo (i + (showKeys ks).length) false (found ++ ks) tail
  | [], i, found, tail, _ => by simp [showKeys]
  | (w, true) :: ks, i, found, tail, h => by
    have hw := h _ (.head _)
    have ih := rd_keys ks (i + 2) (found ++ [(w, true)]) tail fun k hk => h k (.tail _ hk)
    rw [show_cons, show showOne (w, true) = [REV, w] from rfl]
    simp only [List.cons_append, List.nil_append]
    rw [rd_rev, rd_word _ _ _ _ hw, ih]
    congr 1
    · simp; lia
    · simp
  | (w, false) :: ks, i, found, tail, h => by
    have hw := h _ (.head _)
    have ih := rd_keys ks (i + 1) (found ++ [(w, false)]) tail fun k hk => h k (.tail _ hk)
    rw [show_cons, show showOne (w, false) = [w] from rfl]
    simp only [List.cons_append, List.nil_append]
    rw [rd_word _ _ _ _ hw, ih]
    congr 1
    · simp; lia
    · simp
theorem rd_ok {ks : List KeyT} (h : KeysOk ks) (hne : ks ≠ []) : rdGo 0 false [] (showKeys ks) = .ok ks := by
  have := rd_keys ks 0 [] [] h
  rw [List.append_nil] at this
  rw [this]
  cases ks with
  | nil => exact absurd rfl hne
  | cons k r => rfl
theorem rd_reverse {ks : List KeyT} (h : KeysOk ks) : rdGo 0 false [] (showKeys ks ++ [REV]) = .error ((showKeys ks).length + 1 : Nat) := by
  rw [rd_keys ks 0 [] [REV] h, rd_rev]
  unfold rdGo
  simp
theorem rd_put {o : Str} (h1 : o ∉ sortWords) (h2 : o ≠ REV) (post : List Str) : ∀ (ks : List KeyT) (i : Nat) (found : List KeyT) (a : Nat), KeysOk ks → a ≤ (showKeys ks).length → rdGo i false found ((showKeys ks).take a ++ o :: post) = .error (i + a : Nat)
  | [], i, found, a, _, ha => by
    have : a = 0 := by simpa [showKeys] using ha
    subst this
    simp only [List.take_zero, List.nil_append]
    exact rd_odd i false found post h1 h2
  | (w, true) :: ks, i, found, a, h, ha => by
    have hw := h _ (.head _)
    rw [show_cons, show showOne (w, true) = [REV, w] from rfl] at ha ⊢
    match a with
    | 0 => simp only [List.take_zero, List.nil_append]; exact rd_odd i false found post h1 h2
    | 1 =>
      simp only [List.cons_append, List.take_succ_cons, List.take_zero, List.nil_append]
      rw [rd_rev]; exact rd_odd _ _ _ _ h1 h2
    | a + 2 =>
      have ih := rd_put h1 h2 post ks (i + 2) (found ++ [(w, true)]) a (fun k hk => h k (.tail _ hk)) (by simp at ha; lia)
      simp only [List.cons_append, List.take_succ_cons, List.nil_append]
      rw [rd_rev, rd_word _ _ _ _ hw, ih]
      congr 2; lia
  | (w, false) :: ks, i, found, a, h, ha => by
    have hw := h _ (.head _)
    rw [show_cons, show showOne (w, false) = [w] from rfl] at ha ⊢
    match a with
    | 0 => simp only [List.take_zero, List.nil_append]; exact rd_odd i false found post h1 h2
    | a + 1 =>
      have ih := rd_put h1 h2 post ks (i + 1) (found ++ [(w, false)]) a (fun k hk => h k (.tail _ hk)) (by simp at ha; lia)
      simp only [List.cons_append, List.take_succ_cons, List.nil_append]
      rw [rd_word _ _ _ _ hw, ih]
      congr 2; lia

theorem low_ok : ∀ v ∈ REV :: lawNames, v.length ≤ 11 ∧ ∀ c ∈ v.cps.toList, c ≤ 127 := by decide +kernel
theorem show_mem {ks : List KeyT} (hk : KeysOk ks) : ∀ v ∈ showKeys ks, v ∈ REV :: lawNames := fun v hv => by
  simp only [showKeys, List.mem_flatten, List.mem_map] at hv
  obtain ⟨l, ⟨k, hkm, rfl⟩, hv⟩ := hv
  unfold showOne at hv
  split at hv
  · rcases List.mem_cons.mp hv with rfl | hv
    · exact .head _
    · rw [List.mem_singleton.mp hv]; exact .tail _ (hk k hkm)
  · rw [List.mem_singleton.mp hv]; exact .tail _ (hk k hkm)
theorem upper_len (w : Str) : (upperS w).length = w.length := by
  show (w.cps.map upperC).size = w.cps.size
  exact Array.size_map ..
theorem word_ok {w : Str} (h : upperS w ∈ REV :: lawNames) : WdOk w := by
  obtain ⟨h1, h2⟩ := low_ok _ h
  refine ⟨by rw [upper_len] at h1; lia, fun c hc => ?_⟩
  have := h2 (upperC c) (by simp only [upperS, Array.toList_map]; exact List.mem_map_of_mem hc)
  unfold upperC at this
  split at this <;> lia
theorem words_ok {ks : List KeyT} {ws : List Str} (hk : KeysOk ks) (h : ws.map upperS = showKeys ks) : ∀ w ∈ ws, WdOk w := fun w hw =>
  word_ok (show_mem hk _ (h ▸ List.mem_map_of_mem hw))
theorem words_len {ks : List KeyT} : (showKeys ks).length ≤ 2 * ks.length := by
  induction ks with
  | nil => simp [showKeys]
  | cons k ks ih => rw [show_cons, List.length_append]; unfold showOne; split <;> simp <;> lia
noncomputable def lawText : Str := Str.ofString "ARRIVAL CC DATE DISPLAYFROM DISPLAYTO FROM SIZE SUBJECT TO"
noncomputable def oddOf (f z : Nat) : Str := if (Txt.slice lawText (some (f : Int)) (some ((f : Int) + (z : Int)))) ∈ lawNames then (Txt.slice lawText (some (f : Int)) (some ((f : Int) + (z : Int)))) ++ Str.ofString "S" else Txt.slice lawText (some (f : Int)) (some ((f : Int) + (z : Int)))
theorem slice_mem {x : Str} {l u : Option Int} {c : Nat} (h : c ∈ (Txt.slice x l u).cps.toList) : c ∈ x.cps.toList := by
  unfold Txt.slice at h
  split at h
  · exact h
  · simp only [List.mem_filterMap] at h
    obtain ⟨i, _, hi⟩ := h
    exact Array.mem_toList_iff.mpr (Array.mem_of_getElem? hi)
theorem slice_two {x : Str} {f z a b : Nat} {r : List Nat} (h : (Txt.slice x (some (f : Int)) (some ((f : Int) + (z : Int)))).cps.toList = a :: b :: r) : ∃ i, x.cps[i]? = some a ∧ x.cps[i + 1]? = some b := by
  unfold Txt.slice at h
  split at h
  · refine ⟨0, ?_, ?_⟩ <;> rw [← Array.getElem?_toList, h] <;> rfl
  · simp only [Builtin.Str.strSliceIndices, sliceRange, show (1 : Int) > 0 by decide, if_true, Int.ediv_one] at h
    generalize hs : (max 0 (min (if (f : Int) < 0 then (f : Int) + (x.length : Int) else (f : Int)) (x.length : Int))) = s at h
    generalize he : (max 0 (min (if (f : Int) + (z : Int) < 0 then (f : Int) + (z : Int) + (x.length : Int) else (f : Int) + (z : Int)) (x.length : Int))) = e at h
    have hx : x.length = x.cps.size := rfl
    have h0 : 0 ≤ s := by lia
    have h1 : e ≤ x.cps.size := by lia
    generalize hn : (if s < e then e - s + 1 - 1 else 0).toNat = n at h
    have h2 : n ≠ 0 → s + n ≤ x.cps.size := by
      intro h0
      split at hn <;> lia
    match n, h, h2 with
    | 0, h, _ => simp at h
    | 1, h, h2 =>
      have := congrArg List.length h
      have h3 := List.length_filterMap_le (x.cps[·]?) ((List.range 1).map fun (k : Nat) => (s + 1 * (k : Int)).toNat)
      simp only [List.length_map, List.length_range] at h3
      simp only [List.length_cons] at this
      lia
    | n + 2, h, h2 =>
      have h2 := h2 (by lia)
      have l1 : s.toNat < x.cps.size := by lia
      have l2 : s.toNat + 1 < x.cps.size := by lia
      rw [List.range_succ_eq_map, List.range_succ_eq_map] at h
      have e1 : (s + 1 * ((0 : Nat) : Int)).toNat = s.toNat := by lia
      have e2 : (s + 1 * ((Nat.succ 0 : Nat) : Int)).toNat = s.toNat + 1 := by lia
      simp only [List.map_cons, List.filterMap_cons, e1, e2, Array.getElem?_eq_getElem l1, Array.getElem?_eq_getElem l2, List.cons.injEq] at h
      exact ⟨s.toNat, by rw [Array.getElem?_eq_getElem l1, h.1], by rw [Array.getElem?_eq_getElem l2, h.2.1]⟩
theorem text_up : ∀ c ∈ lawText.cps.toList, upperC c = c ∧ c ≤ 1114111 := by decide +kernel
theorem text_re : ∀ i < 58, ¬ (lawText.cps[i]? = some 82 ∧ lawText.cps[i + 1]? = some 69) := by decide +kernel
theorem names_s : ∀ v ∈ lawNames, upperS (v ++ Str.ofString "S") ∉ sortWords ∧ upperS (v ++ Str.ofString "S") ≠ REV ∧ (v ++ Str.ofString "S").length ≤ 1000 ∧ ∀ c ∈ (v ++ Str.ofString "S").cps.toList, c ≤ 1114111 := by decide +kernel
theorem words_in : ∀ v ∈ sortWords, v ∈ lawNames := by decide +kernel
theorem raw_up (f z : Nat) : upperS (Txt.slice lawText (some (f : Int)) (some ((f : Int) + (z : Int)))) = Txt.slice lawText (some (f : Int)) (some ((f : Int) + (z : Int))) := by
  have : ∀ w : Str, (∀ c ∈ w.cps.toList, upperC c = c) → upperS w = w := fun ⟨a⟩ h => by
    simp only [upperS]
    congr 1
    refine (Array.map_congr_left fun c hc => ?_).trans (Array.map_id _)
    exact h c (Array.mem_toList_iff.mpr hc)
  exact this _ fun c hc => (text_up c (slice_mem hc)).1
theorem raw_rev (f z : Nat) : Txt.slice lawText (some (f : Int)) (some ((f : Int) + (z : Int))) ≠ REV := fun h => by
  have e : REV.cps.toList = 82 :: 69 :: [86, 69, 82, 83, 69] := by decide +kernel
  obtain ⟨i, h1, h2⟩ := slice_two ((congrArg (fun w : Str => w.cps.toList) h).trans e)
  refine text_re i ?_ ⟨h1, h2⟩
  have hl : lawText.cps.size = 58 := by decide +kernel
  rw [← hl]
  exact (Array.getElem?_eq_some_iff.mp h1).1
theorem odd_ok (f z : Nat) : upperS (oddOf f z) ∉ sortWords ∧ upperS (oddOf f z) ≠ REV ∧ WdOk (oddOf f z) := by
  unfold oddOf
  split
  · obtain ⟨h1, h2, h3, h4⟩ := names_s _ ‹_›
    exact ⟨h1, h2, h3, h4⟩
  · rw [raw_up]
    have hl : lawText.length = 58 := by decide +kernel
    exact ⟨fun h => absurd (words_in _ h) ‹_›, raw_rev f z, by have := Txt.slice_le lawText (some (f : Int)) (some ((f : Int) + (z : Int))); lia, fun c hc => (text_up c (slice_mem hc)).2⟩

end
section


theorem glob_text (hW : IsW W) : ∃ t, nsIn W.K mainGlobals (Str.ofString "_law_text") = some (some (.str lawText t)) := by
  refine ⟨355, ?_⟩
  rw [hW.K]; generalize W.w.params = p; revert p
  exact fun _ => by kernel_rfl
theorem raw_sh (f z : Nat) : SeqAt.shaped (.str (Txt.slice lawText (some (f : Int)) (some ((f : Int) + (z : Int))))) = true :=
  str_shaped fun c hc => (text_up c (slice_mem hc)).2
theorem raw_len (f z : Nat) : (Txt.slice lawText (some (f : Int)) (some ((f : Int) + (z : Int)))).length ≤ 100 := by
  have := Txt.slice_le lawText (some (f : Int)) (some ((f : Int) + (z : Int)))
  have hl : lawText.length = 58 := by decide +kernel
  lia
theorem in_names (w : Str) : ((lawNames.map PyData.str).any fun y => PyData.eqv y (.str w)) = decide (w ∈ lawNames) := by
  rw [Bool.eq_iff_iff]
  simp only [List.any_map, List.any_eq_true, Function.comp, str_eqv, decide_eq_true_eq]
  constructor
  · rintro ⟨x, h1, rfl⟩; exact h1
  · intro h; exact ⟨w, h, rfl⟩
theorem words_right_spec (hW : IsW W) {p c : Addr} {T : Nat} {ks : List KeyT} {ws : List Str} {mu : Mu} (hk : KeysOk ks) (hne : ks ≠ []) (hl : ks.length ≤ 9) (he : ws.map upperS = showKeys ks) (hT : T ≤ 90000) (hp : PenMu p c T mu) :
    CallsF W 15 (.ref 167) [.ref p, .dat (.list (ks.map keyD)), .dat (.list (ws.map .str))] mu (fun x mu' => x = .dat (.bool true) ∧ ∃ T', T' ≤ T + 10 ∧ PenMu p c T' mu') (fun _ _ => False) := by
  obtain ⟨fd, D⟩ := D_law_words_right hW
  obtain ⟨fd2, D2⟩ := D_law_drawn hW
  obtain ⟨fd3, D3⟩ := D_read_sort_keys hW
  obtain ⟨fd4, D4⟩ := D_show_sort_keys hW
  obtain ⟨fd5, D5⟩ := D_law_refused hW
  have wok := words_ok hk he
  have hsz : 2100 ≤ sizeLine := by decide
  have wln : ws.length = (showKeys ks).length := by rw [← he, List.length_map]
  have wl2 := words_len (ks := ks)
  refine CallsF.named fun Q hQ => ?_
  refine CallsF.intro D rfl fun A L h₀ l s₀ fr outer hC F hr' efr => ?_
  have hr := hr'.mono (d' := 10) (by decide)
  have hr1 := hr'.mono (d' := 11) (by decide)
  conv in bodyAt 27 => whnf
  refine WX.monoE (E := NoE) ?_ (fun _ _ q => q.elim)
  (with_reducible refine WX.consU ?_); ((with_reducible refine' WS.assignSwapU (by assumption) (by assumption) ?c553 ?_ ?s553 ?w553); (case w553 => rfl); (case s553 => rfl); (case c553 => (repeat (first | exact .nil | refine .cons (.loc rfl) ?_)))); ((with_reducible refine WEs.cons ?_ ?he554); (case he554 => rfl))
  refine WE.drawn p c hW hC hr1 ?_ rfl rfl
  ((with_reducible refine WEs.cons ?_ ?he555); (case he555 => rfl)); ((with_reducible refine' WE.local' (by assumption) ?lk556 ?_ ?k556 ?d556); (case k556 => rfl); (case d556 => decide); (case lk556 => walk_at "lk")); ((with_reducible refine WEs.cons ?_ ?he557); (case he557 => rfl)); (with_reducible (refine WE.const_int (by assumption) ?_; refine WEs.nil ?_))
  refine ⟨[], mu, T, 58, rfl, rfl, hp, by lia, by lia, by lia, fun r1 mu1 h01 h11 hp1 => ?_⟩
  ((with_reducible refine WEs.cons ?_ ?he558); (case he558 => rfl))
  refine WE.drawn p c hW hC hr1 ?_ rfl rfl
  ((with_reducible refine WEs.cons ?_ ?he559); (case he559 => rfl)); ((with_reducible refine' WE.local' (by assumption) ?lk560 ?_ ?k560 ?d560); (case k560 => rfl); (case d560 => decide); (case lk560 => walk_at "lk")); ((with_reducible refine WEs.cons ?_ ?he561); (case he561 => rfl)); (with_reducible (refine WE.const_int (by assumption) ?_; refine WEs.nil ?_))
  refine ⟨[], mu1, T + 1, 14, rfl, rfl, hp1, by lia, by lia, by lia, fun r2 mu2 h02 h12 hp2 => ?_⟩
  (with_reducible refine WEs.nil ?_); ((with_reducible refine SwapK.mk ?a562 ?b562 ?_); (case a562 => exact Nat.le_of_ble_eq_true rfl); (case b562 => rfl)); (with_reducible refine WX.consU ?_); ((with_reducible refine' WS.assignSwapU (by assumption) (by assumption) ?c563 ?_ ?s563 ?w563); (case w563 => rfl); (case s563 => rfl); (case c563 => (repeat (first | exact .nil | refine .cons (.loc rfl) ?_)))); ((with_reducible refine WEs.cons ?_ ?he564); (case he564 => rfl)); ((with_reducible refine WE.sliceStr (by assumption) ?_ ?a565); (case a565 => (intro _ _; rfl)))
  obtain ⟨tt, gt⟩ := glob_text hW
  refine WE.globStr hC gt ?_ rfl (by decide)
  obtain ⟨f, rfl⟩ : ∃ f : Nat, r1 = (f : Int) := ⟨r1.toNat, by lia⟩
  obtain ⟨z, rfl⟩ : ∃ z : Nat, r2 = (z : Int) := ⟨r2.toNat, by lia⟩
  obtain ⟨o1, o2, o3⟩ := odd_ok f z
  ((with_reducible refine' WE.local' (by assumption) ?lk566 ?_ ?k566 ?d566); (case k566 => rfl); (case d566 => decide); (case lk566 => walk_at "lk")); (with_reducible refine WE.binopU (by assumption) (by assumption) ?_); ((with_reducible refine' WE.local' (by assumption) ?lk567 ?_ ?k567 ?d567); (case k567 => rfl); (case d567 => decide); (case lk567 => walk_at "lk")); ((with_reducible refine' WE.local' (by assumption) ?lk568 ?_ ?k568 ?d568); (case k568 => rfl); (case d568 => decide); (case lk568 => walk_at "lk")); (with_reducible refine Ope.add_int ?_)
  refine ⟨_, _, _, rfl, rfl, rfl, by decide, ?_⟩
  ((with_reducible refine WEs.cons ?_ ?he569); (case he569 => rfl))
  refine WE.drawn p c hW hC hr1 ?_ rfl rfl
  ((with_reducible refine WEs.cons ?_ ?he570); (case he570 => rfl)); ((with_reducible refine' WE.local' (by assumption) ?lk571 ?_ ?k571 ?d571); (case k571 => rfl); (case d571 => decide); (case lk571 => walk_at "lk")); ((with_reducible refine WEs.cons ?_ ?he572); (case he572 => rfl)); (with_reducible refine WE.binopU (by assumption) (by assumption) ?_); ((with_reducible refine WE.len (by assumption) ?b573 ?_ ?x573 ?h573); (case b573 => exact blt_len (by assumption)); (case x573 => rfl); (case h573 => rfl)); ((with_reducible refine' WE.local' (by assumption) ?lk574 ?_ ?k574 ?d574); (case k574 => rfl); (case d574 => decide); (case lk574 => walk_at "lk"))
  refine ⟨_, .list, by simp; lia, ?_⟩
  (with_reducible (refine WE.const_int (by assumption) ?_; refine Ope.add_int ?_; refine WEs.nil ?_))
  refine ⟨[], mu2, T + 2, ((ws.map PyData.str).length : Int) + 1, rfl, rfl, hp2, by lia, by simp; lia, by lia, fun r3 mu3 h03 h13 hp3 => ?_⟩
  (with_reducible refine WEs.nil ?_); ((with_reducible refine SwapK.mk ?a575 ?b575 ?_); (case a575 => exact Nat.le_of_ble_eq_true rfl); (case b575 => rfl)); (with_reducible refine WX.consU ?_); ((with_reducible refine WS.assign (by assumption) ?c576 ?_ ?s576); (case c576 => walk_at "can"); (case s576 => rfl))
  refine WE.same (.dat (.str (oddOf f z))) ?_ ?_
  · (with_reducible refine WE.ifexp ?_); ((with_reducible refine WT.cmpU (by assumption) (by assumption) ?_ ?m577); (case m577 => rfl)); ((with_reducible refine' WE.local' (by assumption) ?lk578 ?_ ?k578 ?d578); (case k578 => rfl); (case d578 => decide); (case lk578 => walk_at "lk"))
    obtain ⟨ob, vs, nn, g1, g2, g3, g4, g5⟩ := glob_names hW
    refine WE.globTup hC g1 g2 g3 g4 g5 ?_ rfl (by decide)
    refine OpeB.in_tup (raw_sh f z) (by decide +kernel) ?_
    rw [in_names]
    refine ⟨fun hb => ?_, fun hb => ?_⟩
    · (with_reducible refine WE.binopU (by assumption) (by assumption) ?_); ((with_reducible refine' WE.local' (by assumption) ?lk579 ?_ ?k579 ?d579); (case k579 => rfl); (case d579 => decide); (case lk579 => walk_at "lk")); (with_reducible refine WE.const_str (by assumption) ?_)
      refine Ope.add_str ?_ ?_
      · have := raw_len f z
        have h1 : (Str.ofString "S").length = 1 := by decide
        lia
      · refine ⟨?_, rfl⟩
        unfold oddOf
        rw [if_pos (by simpa using hb)]
    · ((with_reducible refine' WE.local' (by assumption) ?lk580 ?_ ?k580 ?d580); (case k580 => rfl); (case d580 => decide); (case lk580 => walk_at "lk"))
      refine ⟨?_, rfl⟩
      unfold oddOf
      rw [if_neg (by simpa using hb)]
  (with_reducible refine WX.consU ?_); ((with_reducible refine WS.assign (by assumption) ?c581 ?_ ?s581); (case c581 => walk_at "can"); (case s581 => rfl))
  refine WE.listU hC ?_
  (with_reducible (refine WEs.nil ?_; refine Dats.nil ⟨Nat.le_of_ble_eq_true rfl, ?_⟩; refine WX.consU ?_)); ((with_reducible refine WS.for (by assumption) ?_ ?s582); (case s582 => (intro _; rfl)))
  refine WI.list hC hr ?_
  ((with_reducible refine' WE.local' (by assumption) ?lk583 ?_ ?k583 ?d583); (case k583 => rfl); (case d583 => decide); (case lk583 => walk_at "lk"))
  let J21 : List PyData → St → Prop := fun xs σ => Ex3 fun (done rem : List KeyT) (loc : List (Str × V)) => A8 (σ = ⟨loc, mu3⟩) (ks = done ++ rem) (xs = rem.map keyD) (loc.lookup (Str.ofString "plain") = some (.dat (.list ((showKeys done).map .str)))) (loc.lookup (Str.ofString "keys") = some (.dat (.list (ks.map keyD)))) (loc.lookup (Str.ofString "words") = some (.dat (.list (ws.map .str)))) (loc.lookup (Str.ofString "odd") = some (.dat (.str (oddOf f z)))) (loc.lookup (Str.ofString "at") = some (.dat (.int r3)))
  refine ⟨_, rfl, LoopW.gen J21 ?_ ?_ _ _ ⟨[], ks, _, rfl, rfl, rfl, by walk_at "lk", by walk_at "lk", by walk_at "lk", by walk_at "lk", by walk_at "lk"⟩⟩
  · rintro σ ⟨done, rem, loc, rfl, ed, ex, l1, l2, l3, l4, l5⟩
    obtain rfl : rem = [] := by cases rem <;> first | rfl | cases ex
    rw [List.append_nil] at ed
    subst ed
    have hrd : rdGo 0 false [] (ws.map upperS) = .ok ks := by rw [he]; exact rd_ok hk hne
    (with_reducible (refine WX.consU ?_; refine WS.ite ?_; refine WT.or ?_)); ((with_reducible refine WT.cmpU (by assumption) (by assumption) ?_ ?m584); (case m584 => rfl))
    refine WE.callFnF (cs := []) (fr := fr) 13 hC F (hr'.mono (by decide)) rfl efr D3.fn ?_ rfl (by decide) rfl
    ((with_reducible refine WEs.cons ?_ ?he585); (case he585 => rfl)); ((with_reducible refine' WE.local' (by assumption) ?lk586 ?_ ?k586 ?d586); (case k586 => rfl); (case d586 => decide); (case lk586 => walk_at "lk")); (with_reducible refine WEs.nil ?_)
    refine ⟨[], mu3, _, _, rfl, read_spec hW wok (by lia), fun n mu' hx => by rw [hrd] at hx; exact absurd hx.1 (by simp), fun x mu' hx => ?_⟩
    obtain ⟨ks', h1, rfl, rfl⟩ := hx
    rw [hrd] at h1
    cases h1
    have ksh : Sh 2 (.list (ks.map keyD)) := keys_sh fun k hk' => (names_ok _ (hk k hk')).1
    ((with_reducible refine' WE.local' (by assumption) ?lk587 ?_ ?k587 ?d587); (case k587 => rfl); (case d587 => decide); (case lk587 => walk_at "lk"))
    refine OpeB.ne (ksh.shaped (by decide)) (ksh.shaped (by decide)) ?_
    rw [ksh.refl]
    refine ⟨fun q => (by cases q), fun _ => ?_⟩
    (with_reducible refine WT.or ?_); ((with_reducible refine WT.cmpU (by assumption) (by assumption) ?_ ?m588); (case m588 => rfl))
    refine WE.callPure 11 hC (hr'.mono (by decide)) D4.fn ?_ rfl (by decide) rfl
    ((with_reducible refine WEs.cons ?_ ?he589); (case he589 => rfl)); ((with_reducible refine' WE.local' (by assumption) ?lk590 ?_ ?k590 ?d590); (case k590 => rfl); (case d590 => decide); (case lk590 => walk_at "lk")); (with_reducible refine WEs.nil ?_)
    refine ⟨_, show_spec hW (by lia), ?_⟩
    ((with_reducible refine' WE.local' (by assumption) ?lk591 ?_ ?k591 ?d591); (case k591 => rfl); (case d591 => decide); (case lk591 => walk_at "lk"))
    have plsh : Sh 1 (.list ((showKeys ks).map PyData.str)) := Sh.list fun x hx => by
      obtain ⟨v, hv, rfl⟩ := List.mem_map.mp hx
      exact str_sh (str_shaped fun c hc => by have := (low_ok v (show_mem hk v hv)).2 c hc; lia)
    refine OpeB.ne (plsh.shaped (by decide)) (plsh.shaped (by decide)) ?_
    rw [plsh.refl]
    refine ⟨fun q => (by cases q), fun _ => ?_⟩
    (with_reducible refine WT.or ?_); ((with_reducible refine WT.cmpU (by assumption) (by assumption) ?_ ?m592); (case m592 => rfl))
    refine WE.callFnF (cs := []) (fr := fr) 14 hC F (hr'.mono (by decide)) rfl efr D5.fn ?_ rfl (by decide) rfl
    ((with_reducible refine WEs.cons ?_ ?he593); (case he593 => rfl)); (with_reducible (refine WE.binopU (by assumption) (by assumption) ?_; refine WE.binopU (by assumption) (by assumption) ?_)); ((with_reducible refine WE.sliceTo (by assumption) ?_ ?a594); (case a594 => (intro _ _; rfl))); ((with_reducible refine' WE.local' (by assumption) ?lk595 ?_ ?k595 ?d595); (case k595 => rfl); (case d595 => decide); (case lk595 => walk_at "lk")); ((with_reducible refine' WE.local' (by assumption) ?lk596 ?_ ?k596 ?d596); (case k596 => rfl); (case d596 => decide); (case lk596 => walk_at "lk"))
    have hwl : (ws.map PyData.str).length ≤ sizeLine := by simp; lia
    refine ⟨_, _, rfl, rfl, h03, hwl, ?_⟩
    refine WE.listU hC ?_
    ((with_reducible refine WEs.cons ?_ ?he597); (case he597 => rfl)); ((with_reducible refine' WE.local' (by assumption) ?lk598 ?_ ?k598 ?d598); (case k598 => rfl); (case d598 => decide); (case lk598 => walk_at "lk")); (with_reducible (refine WEs.nil ?_; refine Dats.cons ?_; refine Dats.nil ⟨Nat.le_of_ble_eq_true rfl, ?_⟩))
    refine Ope.add_list (by simp; lia) ?_
    ((with_reducible refine WE.sliceFrom (by assumption) ?_ ?a599); (case a599 => (intro _ _; rfl))); ((with_reducible refine' WE.local' (by assumption) ?lk600 ?_ ?k600 ?d600); (case k600 => rfl); (case d600 => decide); (case lk600 => walk_at "lk")); ((with_reducible refine' WE.local' (by assumption) ?lk601 ?_ ?k601 ?d601); (case k601 => rfl); (case d601 => decide); (case lk601 => walk_at "lk"))
    refine ⟨_, _, rfl, rfl, h03, by lia, hwl, ?_⟩
    refine Ope.add_list (by simp; lia) ?_
    obtain ⟨a, rfl⟩ : ∃ a : Nat, r3 = (a : Int) := ⟨r3.toNat, by lia⟩
    have ha : a ≤ ws.length := by simp at h13; lia
    have elist : (ws.map PyData.str).take (a : Int).toNat ++ [PyData.str (oddOf f z)] ++ (ws.map PyData.str).drop (a : Int).toNat = (ws.take a ++ oddOf f z :: ws.drop a).map PyData.str := by simp
    rw [elist]
    have erd : rdGo 0 false [] ((ws.take a ++ oddOf f z :: ws.drop a).map upperS) = .error (a : Nat) := by
      rw [List.map_append, List.map_cons, List.map_take, List.map_drop, he]
      have := rd_put o1 o2 ((showKeys ks).drop a) ks 0 [] a hk (by lia)
      rw [this]; simp
    have wok2 : ∀ w ∈ ws.take a ++ oddOf f z :: ws.drop a, WdOk w := fun w hw => by
      rcases List.mem_append.mp hw with h | h
      · exact wok w (List.mem_of_mem_take h)
      · rcases List.mem_cons.mp h with rfl | h
        · exact o3
        · exact wok w (List.mem_of_mem_drop h)
    refine WEs.nil ⟨[], mu', _, _, rfl, refused_spec hW wok2 (by simp; lia) erd, fun _ _ q => q, fun x mu2' hx => ?_⟩
    obtain ⟨rfl, rfl⟩ := hx
    ((with_reducible refine' WE.local' (by assumption) ?lk602 ?_ ?k602 ?d602); (case k602 => rfl); (case d602 => decide); (case lk602 => walk_at "lk"))
    refine OpeB.ne rfl rfl ?_
    rw [int_eqv, decide_eq_true rfl]
    refine ⟨fun q => (by cases q), fun _ => ?_⟩
    (with_reducible refine WT.or_nil ?_)
    refine ⟨fun q => (by cases q), fun _ => ?_⟩
    (with_reducible (refine WX.nil ?_; refine WX.consU ?_; refine WS.ret ?_))
    have hrev : upperS (Str.ofString "reverse") = REV := by decide +kernel
    have er2 : rdGo 0 false [] ((ws ++ [Str.ofString "reverse"]).map upperS) = .error (((showKeys ks).length + 1 : Nat) : Int) := by
      rw [List.map_append, he, List.map_cons, hrev]; exact rd_reverse hk
    have wok3 : ∀ w ∈ ws ++ [Str.ofString "reverse"], WdOk w := fun w hw => by
      rcases List.mem_append.mp hw with h | h
      · exact wok w h
      · rw [List.mem_singleton.mp h]; exact word_ok (by rw [hrev]; exact .head _)
    have er3 : rdGo 0 false [] (([] : List Str).map upperS) = .error ((0 : Nat) : Int) := rfl
    refine WE.and ?_
    ((with_reducible refine WE.cmpU (by assumption) (by assumption) ?_ ?m603); (case m603 => rfl))
    refine WE.callFnF (cs := []) (fr := fr) 14 hC F (hr'.mono (by decide)) rfl efr D5.fn ?_ rfl (by decide) rfl
    ((with_reducible refine WEs.cons ?_ ?he604); (case he604 => rfl)); (with_reducible refine WE.binopU (by assumption) (by assumption) ?_); ((with_reducible refine' WE.local' (by assumption) ?lk605 ?_ ?k605 ?d605); (case k605 => rfl); (case d605 => decide); (case lk605 => walk_at "lk"))
    refine WE.listU hC ?_
    ((with_reducible refine WEs.cons ?_ ?he606); (case he606 => rfl)); (with_reducible (refine WE.const_str (by assumption) ?_; refine WEs.nil ?_; refine Dats.cons ?_; refine Dats.nil ⟨Nat.le_of_ble_eq_true rfl, ?_⟩))
    refine Ope.add_list (by simp; lia) ?_
    rw [show (ws.map PyData.str) ++ [PyData.str (Str.ofString "reverse")] = (ws ++ [Str.ofString "reverse"]).map PyData.str from by simp]
    refine WEs.nil ⟨[], mu2', _, _, rfl, refused_spec hW wok3 (by simp; lia) er2, fun _ _ q => q, fun x mu3' hx => ?_⟩
    obtain ⟨rfl, rfl⟩ := hx
    (with_reducible refine WE.binopU (by assumption) (by assumption) ?_); ((with_reducible refine WE.len (by assumption) ?b607 ?_ ?x607 ?h607); (case b607 => exact blt_len (by assumption)); (case x607 => rfl); (case h607 => rfl)); ((with_reducible refine' WE.local' (by assumption) ?lk608 ?_ ?k608 ?d608); (case k608 => rfl); (case d608 => decide); (case lk608 => walk_at "lk"))
    refine ⟨_, .list, hwl, ?_⟩
    (with_reducible (refine WE.const_int (by assumption) ?_; refine Ope.add_int ?_))
    refine Ope.eq rfl rfl ?_
    rw [int_eqv, decide_eq_true (by simp [wln])]
    refine ⟨_, rfl, fun q => (by cases q), fun _ => ?_⟩
    (with_reducible refine WE.bool_one ?_); ((with_reducible refine WE.cmpU (by assumption) (by assumption) ?_ ?m609); (case m609 => rfl))
    refine WE.callFnF (cs := []) (fr := fr) 14 hC F (hr'.mono (by decide)) rfl efr D5.fn ?_ rfl (by decide) rfl
    ((with_reducible refine WEs.cons ?_ ?he610); (case he610 => rfl))
    refine WE.listU hC ?_
    (with_reducible (refine WEs.nil ?_; refine Dats.nil ⟨Nat.le_of_ble_eq_true rfl, ?_⟩; refine WEs.nil ?_))
    refine ⟨[], mu3', _, _, rfl, refused_spec (ws := []) hW (by intro w hw; cases hw) (by simp) er3, fun _ _ q => q, fun x mu4' hx => ?_⟩
    obtain ⟨rfl, rfl⟩ := hx
    (with_reducible refine WE.const_int (by assumption) ?_)
    refine Ope.eq rfl rfl ?_
    exact .ret (hQ _ _ ⟨rfl, T + 2 + 1, by lia, hp3⟩)
  · rintro x xs σ ⟨done, rem, loc, rfl, ed, ex, l1, l2, l3, l4, l5⟩ h₀ l hC
    obtain ⟨k, rem, rfl, rfl, rfl⟩ : Ex2 fun v rem' => A3 (rem = v :: rem') (x = keyD v) (xs = rem'.map keyD) := by
      cases rem with
      | nil => cases ex
      | cons v rest => cases ex; exact ⟨v, rest, rfl, rfl, rfl⟩
    have hld := congrArg List.length ed
    simp at hld
    have hdl := words_len (ks := done)
    have app : showKeys (done ++ [k]) = showKeys done ++ showOne k := by simp [showKeys]
    refine WA.pair rfl hC hr ?_
    ((with_reducible refine WA.name (by assumption) ?c611 ?_); (case c611 => walk_at "can")); ((with_reducible refine WA.name (by assumption) ?c612 ?_); (case c612 => walk_at "can")); (with_reducible refine WX.consU ?_); ((with_reducible refine WS.assign (by assumption) ?c613 ?_ ?s613); (case c613 => walk_at "can"); (case s613 => rfl)); (with_reducible refine WE.binopU (by assumption) (by assumption) ?_); ((with_reducible refine' WE.local' (by assumption) ?lk614 ?_ ?k614 ?d614); (case k614 => rfl); (case d614 => decide); (case lk614 => walk_at "lk")); (with_reducible refine WE.ifexp ?_); ((with_reducible refine WT.plainU ?_ ?p615); (case p615 => rfl)); ((with_reducible refine' WE.local' (by assumption) ?lk616 ?_ ?k616 ?d616); (case k616 => rfl); (case d616 => decide); (case lk616 => walk_at "lk")); (with_reducible refine BoolV.mk ?_)
    refine ⟨fun hb => ?_, fun hb => ?_⟩
    · skip
      refine WE.listU hC ?_
      ((with_reducible refine WEs.cons ?_ ?he617); (case he617 => rfl)); (with_reducible refine WE.const_str (by assumption) ?_); ((with_reducible refine WEs.cons ?_ ?he618); (case he618 => rfl)); ((with_reducible refine' WE.local' (by assumption) ?lk619 ?_ ?k619 ?d619); (case k619 => rfl); (case d619 => decide); (case lk619 => walk_at "lk")); (with_reducible (refine WEs.nil ?_; refine Dats.cons ?_; refine Dats.cons ?_; refine Dats.nil ⟨Nat.le_of_ble_eq_true rfl, ?_⟩))
      refine Ope.add_list (by simp; lia) ?_
      (with_reducible refine WX.nil ?_)
      exact ⟨done ++ [k], rem, _, rfl, by simp [ed], rfl, by rw [app, List.map_append]; unfold showOne; rw [if_pos hb]; exact lk_eq, by walk_at "lk", by walk_at "lk", by walk_at "lk", by walk_at "lk"⟩
    · skip
      refine WE.listU hC ?_
      ((with_reducible refine WEs.cons ?_ ?he620); (case he620 => rfl)); ((with_reducible refine' WE.local' (by assumption) ?lk621 ?_ ?k621 ?d621); (case k621 => rfl); (case d621 => decide); (case lk621 => walk_at "lk")); (with_reducible (refine WEs.nil ?_; refine Dats.cons ?_; refine Dats.nil ⟨Nat.le_of_ble_eq_true rfl, ?_⟩))
      refine Ope.add_list (by simp; lia) ?_
      (with_reducible refine WX.nil ?_)
      exact ⟨done ++ [k], rem, _, rfl, by simp [ed], rfl, by rw [app, List.map_append]; unfold showOne; rw [if_neg (by simp [hb])]; exact lk_eq, by walk_at "lk", by walk_at "lk", by walk_at "lk", by walk_at "lk"⟩

end
section
theorem ltD_irrefl (d : PyData) : ltD d d = false := by
  cases d <;> simp [ltD, List.lt_irrefl]
theorem ltD_trans {nm : Bool} {a b c : PyData} (wa : WorthOk nm a) (wb : WorthOk nm b) (wc : WorthOk nm c) (h1 : ltD a b = true) (h2 : ltD b c = true) : ltD a c = true := by
  cases nm with
  | true =>
    obtain ⟨i, rfl⟩ := wa; obtain ⟨j, rfl⟩ := wb; obtain ⟨k, rfl⟩ := wc
    simp only [ltD, decide_eq_true_eq] at h1 h2 ⊢; lia
  | false =>
    obtain ⟨i, rfl, _⟩ := wa; obtain ⟨j, rfl, _⟩ := wb; obtain ⟨k, rfl, _⟩ := wc
    simp only [ltD, decide_eq_true_eq] at h1 h2 ⊢
    exact List.lt_trans h1 h2
theorem eqv_same {nm : Bool} {a b : PyData} (wa : WorthOk nm a) (wb : WorthOk nm b) (h : PyData.eqv a b = true) : a = b := by
  cases nm with
  | true =>
    obtain ⟨i, rfl⟩ := wa; obtain ⟨j, rfl⟩ := wb
    rw [int_eqv] at h; simpa using h
  | false =>
    obtain ⟨i, rfl, _⟩ := wa; obtain ⟨j, rfl, _⟩ := wb
    rw [str_eqv] at h; simpa using h
theorem isBefore_trans {nm rev : Bool} {a b c : PyData} (wa : WorthOk nm a) (wb : WorthOk nm b) (wc : WorthOk nm c) (h1 : isBefore rev a b = true) (h2 : isBefore rev b c = true) : isBefore rev a c = true := by
  unfold isBefore at *
  cases rev with
  | true => exact ltD_trans wc wb wa h2 h1
  | false => exact ltD_trans wa wb wc h1 h2
theorem isBefore_irrefl (rev : Bool) (d : PyData) : isBefore rev d d = false := by unfold isBefore; cases rev <;> exact ltD_irrefl d
theorem filter_lt {α : Type} {p q : α → Bool} {x : α} : ∀ {l : List α}, (∀ o ∈ l, p o = true → q o = true) → x ∈ l → p x = false → q x = true → (l.filter p).length < (l.filter q).length
  | [], _, h, _, _ => by cases h
  | y :: l, hs, hx, h1, h2 => by
    have le : (l.filter p).length ≤ (l.filter q).length := by
      have hs' : ∀ o ∈ l, p o = true → q o = true := fun o ho => hs o (.tail _ ho)
      clear hx hs
      induction l with
      | nil => simp
      | cons z l ih =>
        have ih := ih fun o ho => hs' o (.tail _ ho)
        have hz := hs' z (.head _)
        simp only [List.filter_cons]
        cases e1 : p z <;> cases e2 : q z <;> simp_all <;> lia
    by_cases e : x = y
    · subst e
      simp only [List.filter_cons, h1, h2, if_true, Bool.false_eq_true, if_false, List.length_cons]; lia
    · have hx' : x ∈ l := by rcases List.mem_cons.mp hx with q | q; exact absurd q e; exact q
      have ih := filter_lt (fun o ho => hs o (.tail _ ho)) hx' h1 h2
      have hy := hs y (.head _)
      simp only [List.filter_cons]
      cases e1 : p y <;> cases e2 : q y <;> simp_all <;> lia
theorem worthAt_of {r : RowT} {i : Nat} {x : PyData} {t : List PyData} (h : r.2.drop i = x :: t) : worthAt r i = x ∧ r.2.drop (i + 1) = t := by
  have h1 : r.2[i]? = some x := by
    have := congrArg (·[0]?) h
    simpa using this
  refine ⟨by simp [worthAt, List.getD, h1], ?_⟩
  have := congrArg (List.drop 1) h
  simpa [List.drop_drop, Nat.add_comm] using this
theorem cnt_le {rows : List RowT} (hl : rows.length ≤ 7) (k : KeyT) (i : Nat) (r : RowT) : cnt rows k i r ≤ 7 := Nat.le_trans (List.length_filter_le _ _) hl
theorem wt_lt {rows : List RowT} (hl : rows.length ≤ 7) : ∀ (ks : List KeyT) (i : Nat) (a b : RowT) (x y : Int), x < y → wtGo rows i ks a x < wtGo rows i ks b y
  | [], i, a, b, x, y, h => h
  | k :: ks, i, a, b, x, y, h => by
    unfold wtGo
    have := cnt_le hl k i a
    exact wt_lt hl ks (i + 1) a b _ _ (by lia)
theorem wt_ahead {all : List KeyT} {rows : List RowT} (hl : rows.length ≤ 7) (hw : ∀ r ∈ rows, WsOk all r.2) {a b : RowT} (ha : a ∈ rows) (hb : b ∈ rows) :
    ∀ (ks : List KeyT) (i : Nat) (as bs : List PyData) (x : Int), all.drop i = ks → a.2.drop i = as → b.2.drop i = bs → WsOk ks as → WsOk ks bs → aheadGo a.1 b.1 ks as bs = true →
      wtGo rows i ks a x < wtGo rows i ks b x ∨ (wtGo rows i ks a x = wtGo rows i ks b x ∧ a.1 < b.1)
  | [], i, [], [], x, _, _, _, _, _, h => by
    unfold aheadGo at h
    exact .inr ⟨rfl, by simpa using h⟩
  | k :: ks, i, a0 :: as, b0 :: bs, x, e0, e1, e2, wa, wb, h => by
    obtain ⟨f1, f2⟩ := worthAt_of e1
    obtain ⟨g1, g2⟩ := worthAt_of e2
    have k0 : all[i]? = some k := by
      have := congrArg (·[0]?) e0
      simpa using this
    have e0' : all.drop (i + 1) = ks := by
      have := congrArg (List.drop 1) e0
      simpa [List.drop_drop, Nat.add_comm] using this
    unfold aheadGo at h
    unfold wtGo
    cases e : PyData.eqv a0 b0 with
    | true =>
      rw [e, if_pos rfl] at h
      have hab : a0 = b0 := eqv_same wa.1 wb.1 e
      have hc : cnt rows k i a = cnt rows k i b := by unfold cnt; rw [f1, g1, hab]
      rw [hc]
      exact wt_ahead hl hw ha hb ks (i + 1) as bs _ e0' f2 g2 wa.2 wb.2 h
    | false =>
      rw [e] at h
      simp only [Bool.false_eq_true, if_false] at h
      have hbef : isBefore k.2 a0 b0 = true := by
        have e3 := (eqv_worth wa.1 wb.1).2 e
        unfold isBefore
        cases hk : k.2 with
        | true => rw [hk] at h; simp only [if_true]; rw [e3]; revert h; cases ltD a0 b0 <;> simp
        | false => rw [hk] at h; simp only [Bool.false_eq_true, if_false]; revert h; cases ltD a0 b0 <;> simp
      left
      refine wt_lt hl ks (i + 1) a b _ _ ?_
      have : cnt rows k i a < cnt rows k i b := by
        unfold cnt
        rw [f1, g1]
        have wr : ∀ o ∈ rows, WorthOk (isNum k.1) (worthAt o i) := fun o ho => by
          obtain ⟨d, e5, e6⟩ := (hw o ho).get i k0
          simpa [worthAt, List.getD, e5] using e6
        refine filter_lt (x := a) (fun o ho h1 => isBefore_trans (wr o ho) wa.1 wb.1 h1 hbef) ha ?_ ?_
        · simp only [f1]; exact isBefore_irrefl _ _
        · simp only [f1]; exact hbef
      lia
  | [], _, _ :: _, _, _, _, _, _, h, _, _ => h.elim
  | [], _, [], _ :: _, _, _, _, _, _, h, _ => h.elim
  | _ :: _, _, [], _, _, _, _, _, h, _, _ => h.elim
  | _ :: _, _, _ :: _, [], _, _, _, _, _, h, _ => h.elim
theorem weight_ahead {ks : List KeyT} {rows : List RowT} {m : Int} (hl : rows.length ≤ 7) (R : RowsOk ks rows m) (hm : m < 100000) {a b : RowT} (ha : a ∈ rows) (hb : b ∈ rows) (h : ahead ks a b = true) : weight rows ks a < weight rows ks b := by
  have := wt_ahead hl R.ws ha hb ks 0 a.2 b.2 0 rfl rfl rfl (R.ws a ha) (R.ws b hb) h
  have l1 := R.lo a ha
  have l2 := R.lo b hb
  unfold weight
  lia
theorem perm_lift {α β : Type} (f : α → β) : ∀ {l m : List β}, l.Perm m → ∀ rows : List α, m = rows.map f → ∃ rows' : List α, rows'.Perm rows ∧ rows'.map f = l := by
  intro l m p
  induction p with
  | nil => intro rows e; exact ⟨rows, .refl _, e.symm⟩
  | cons x p ih =>
    intro rows e
    cases rows with
    | nil => cases e
    | cons r rs =>
      simp only [List.map_cons, List.cons.injEq] at e
      obtain ⟨rs', h1, h2⟩ := ih rs e.2
      exact ⟨r :: rs', h1.cons r, by simp [h2, e.1]⟩
  | swap x y l =>
    intro rows e
    match rows, e with
    | r :: q :: rs, e =>
      simp only [List.map_cons, List.cons.injEq] at e
      exact ⟨q :: r :: rs, .swap r q rs, by simp [e.1, e.2.1, e.2.2]⟩
  | trans _ _ ih1 ih2 =>
    intro rows e
    obtain ⟨r2, h1, h2⟩ := ih2 rows e
    obtain ⟨r1, h3, h4⟩ := ih1 r2 h2.symm
    exact ⟨r1, h3.trans h1, h4⟩
theorem inj_of_nodup {α β : Type} {f : α → β} : ∀ {l : List α}, (l.map f).Nodup → ∀ a ∈ l, ∀ b ∈ l, f a = f b → a = b
  | [], _, a, h, _, _, _ => by cases h
  | x :: l, nd, a, ha, b, hb, e => by
    simp only [List.map_cons, List.nodup_cons] at nd
    rcases List.mem_cons.mp ha with q1 | q1 <;> rcases List.mem_cons.mp hb with q2 | q2
    · rw [q1, q2]
    · exact absurd (List.mem_map_of_mem (f := f) q2) (by rw [← e, q1]; exact nd.1)
    · exact absurd (List.mem_map_of_mem (f := f) q1) (by rw [e, q2]; exact nd.1)
    · exact inj_of_nodup nd.2 a q1 b q2 e
noncomputable def Due (ks : List KeyT) (rows due : List RowT) : Prop := due.Perm rows ∧ due.Pairwise fun x y => ahead ks x y = true ∧ ahead ks y x = false
theorem due_of {ks : List KeyT} {rows : List RowT} {m : Int} {ns : List Int} (hl : rows.length ≤ 7) (R : RowsOk ks rows m) (hm : m < 100000) (hp : ns.Perm (rows.map (weight rows ks))) (hs : ns.Pairwise (· ≤ ·)) :
    ∃ due, Due ks rows due ∧ due.map (weight rows ks) = ns := by
  obtain ⟨due, h1, h2⟩ := perm_lift (weight rows ks) hp rows rfl
  refine ⟨due, ⟨h1, ?_⟩, h2⟩
  have nd : (due.map (·.1)).Nodup := (h1.map _).nodup_iff.mpr R.nd
  have p1 : due.Pairwise fun x y => weight rows ks x ≤ weight rows ks y := by rw [← h2, List.pairwise_map] at hs; exact hs
  have p2 : due.Pairwise fun x y => x.1 ≠ y.1 := by rw [List.Nodup, List.pairwise_map] at nd; exact nd
  refine List.Pairwise.imp_of_mem (fun {a b} ha hb h => ?_) (p1.and p2)
  have ma := h1.mem_iff.mp ha
  have mb := h1.mem_iff.mp hb
  have an := ahead_not (R.ws a ma) (R.ws b mb) h.2
  cases e : ahead ks a b with
  | true => exact ⟨rfl, by rw [an, e]; rfl⟩
  | false =>
    rw [e] at an
    have := weight_ahead hl R hm mb ma an
    lia
theorem due_one {ks : List KeyT} {rows due other : List RowT} {m : Int} (R : RowsOk ks rows m) (hd : Due ks rows due) (hp : other.Perm rows) (hs : other.Pairwise fun a b => ahead ks a b = true) : other = due := by
  refine List.Perm.eq_of_pairwise (le := fun a b => ahead ks a b = true) (fun a b ha hb h1 h2 => ?_) hs (hd.2.imp fun h => h.1) (hp.trans hd.1.symm)
  have ma := hp.mem_iff.mp ha
  have mb := hd.1.mem_iff.mp hb
  by_cases e : a.1 = b.1
  · exact inj_of_nodup R.nd a ma b mb e
  · have := ahead_not (R.ws a ma) (R.ws b mb) e
    rw [h1, h2] at this; cases this
theorem due_pick {ks : List KeyT} {rows due : List RowT} {m : Int} (hl : rows.length ≤ 7) (R : RowsOk ks rows m) (hm : m < 100000) (hd : due.Perm rows) :
    ∀ r ∈ due, rows[(rows.map (weight rows ks)).idxOf (weight rows ks r)]? = some r := by
  intro r hr
  have mr := hd.mem_iff.mp hr
  have hin : weight rows ks r ∈ rows.map (weight rows ks) := List.mem_map_of_mem mr
  have hlt := List.idxOf_lt_length_iff.mpr hin
  rw [List.length_map] at hlt
  have hget : (rows.map (weight rows ks))[(rows.map (weight rows ks)).idxOf (weight rows ks r)]'(by rw [List.length_map]; exact hlt) = weight rows ks r := List.getElem_idxOf _
  rw [List.getElem_map] at hget
  rw [List.getElem?_eq_getElem hlt]
  congr 1
  generalize hi : (rows.map (weight rows ks)).idxOf (weight rows ks r) = i at hlt hget
  have mi : rows[i] ∈ rows := List.getElem_mem hlt
  refine inj_of_nodup R.nd _ mi _ mr ?_
  have l1 := R.lo _ mi
  have l2 := R.lo _ mr
  unfold weight at hget
  lia
/-- a row taken out goes back to its place -/
theorem due_place {ks : List KeyT} {due : List RowT} (hd : due.Pairwise fun x y => ahead ks x y = true ∧ ahead ks y x = false) {i : Nat} {row : RowT} (hi : due[i]? = some row) :
    i ≤ (due.take i ++ due.drop (i + 1)).length ∧ (∀ (j : Nat) r, (due.take i ++ due.drop (i + 1))[j]? = some r → j < i → ahead ks r row = true) ∧ (∀ (j : Nat) r, (due.take i ++ due.drop (i + 1))[j]? = some r → i ≤ j → ahead ks r row = false) ∧
      (due.take i ++ due.drop (i + 1)).take i ++ [row] ++ (due.take i ++ due.drop (i + 1)).drop i = due := by
  have hlt : i < due.length := (List.getElem?_eq_some_iff.mp hi).1
  have hg : due[i] = row := (List.getElem?_eq_some_iff.mp hi).2
  have ltk : (due.take i).length = i := by simp; lia
  have pw := List.pairwise_iff_getElem.mp hd
  refine ⟨by rw [List.length_append, ltk]; lia, fun j r e hj => ?_, fun j r e hj => ?_, ?_⟩
  · rw [List.getElem?_append_left (by lia), List.getElem?_take_of_lt hj] at e
    obtain ⟨h1, h2⟩ := List.getElem?_eq_some_iff.mp e
    have := (pw j i h1 hlt hj).1
    rwa [h2, hg] at this
  · rw [List.getElem?_append_right (by lia), List.getElem?_drop] at e
    obtain ⟨h1, h2⟩ := List.getElem?_eq_some_iff.mp e
    have := (pw i _ hlt h1 (by lia)).2
    rwa [h2, hg] at this
  · rw [List.take_left' ltk, List.drop_left' ltk, ← hg]
    rw [List.append_assoc, List.singleton_append, List.getElem_cons_drop, List.take_append_drop]
theorem wt_bound {rows : List RowT} (hl : rows.length ≤ 7) : ∀ (ks : List KeyT) (i : Nat) (r : RowT) (x : Int), 0 ≤ x → 0 ≤ wtGo rows i ks r x ∧ wtGo rows i ks r x + 1 ≤ (x + 1) * 10 ^ ks.length
  | [], i, r, x, h => by unfold wtGo; simp; exact h
  | k :: ks, i, r, x, h => by
    unfold wtGo
    have hc := cnt_le hl k i r
    obtain ⟨h1, h2⟩ := wt_bound hl ks (i + 1) r (10 * x + (cnt rows k i r : Nat)) (by lia)
    refine ⟨h1, Int.le_trans h2 ?_⟩
    have e : (x + 1) * 10 ^ (k :: ks).length = (10 * x + 10) * 10 ^ ks.length := by
      rw [List.length_cons, Int.pow_succ, Int.mul_comm (10 ^ ks.length) 10, ← Int.mul_assoc]
      congr 1; lia
    rw [e]
    exact Int.mul_le_mul_of_nonneg_right (by lia) (Int.le_of_lt (Int.pow_pos (by lia)))
theorem weight_bound {rows : List RowT} {ks : List KeyT} {m : Int} (hl : rows.length ≤ 7) (hk : ks.length ≤ 9) (R : RowsOk ks rows m) (hm : m < 100000) : ∀ w ∈ rows.map (weight rows ks), w.natAbs < 2 ^ 60 := fun w hw => by
  obtain ⟨r, hr, rfl⟩ := List.mem_map.mp hw
  have l1 := R.lo r hr
  obtain ⟨h1, h2⟩ := wt_bound hl ks 0 r 0 (Int.le_refl 0)
  have h3 : (10 : Int) ^ ks.length ≤ 10 ^ 9 := by exact_mod_cast Nat.pow_le_pow_right (by lia) hk
  unfold weight
  have h4 : (10 : Int) ^ 9 = 1000000000 := by decide
  have h5 : (2 : Nat) ^ 60 = 1152921504606846976 := by decide
  lia
theorem ints_lay : ∀ {ns : List Int}, (∀ n ∈ ns, n.natAbs < 2 ^ 60) → PyData.canLayAll0 (ns.map .int) = true ∧ PyData.depthAll (ns.map .int) = 0 ∧ PyData.weightAll (ns.map .int) ≤ 61 * ns.length
  | [], _ => ⟨by simp [PyData.canLayAll0], by simp [PyData.depthAll], by simp [PyData.weightAll]⟩
  | n :: ns, h => by
    obtain ⟨h1, h2, h3⟩ := ints_lay (ns := ns) fun n hn => h n (.tail _ hn)
    have h4 := h n (.head _)
    refine ⟨by simp [PyData.canLayAll0, PyData.canLay0, h1], by simp [PyData.depthAll, PyData.depth, h2], ?_⟩
    have h5 : PyData.weight (.int n) ≤ 60 := by
      simp only [PyData.weight]
      split
      · lia
      · rename_i q
        have q' : n ≠ 0 := by simpa using q
        have := (Nat.log2_lt (n := n.natAbs) (k := 60) (by lia)).mpr h4
        lia
    simp only [List.map_cons, PyData.weightAll, List.length_cons]
    lia
theorem ints_layable {ns : List Int} (h : ∀ n ∈ ns, n.natAbs < 2 ^ 60) (hl : ns.length ≤ 1000) : PyData.layable0 (.list (ns.map .int)) = true := by
  obtain ⟨h1, h2, h3⟩ := ints_lay h
  unfold PyData.layable0
  have e : (2 : Nat) ^ 20 = 1048576 := by decide
  rw [Bool.and_eq_true, Bool.and_eq_true]
  refine ⟨⟨by simp only [PyData.canLay0]; exact h1, decide_eq_true (by simp only [PyData.depth, h2]; lia)⟩, decide_eq_true (by simp only [PyData.weight]; lia)⟩

end
section


theorem law_rest (hW : IsW W) {f : Addr} {cdv : Value} {L : Addr} {h₀ : Heap} {l : List Addr} {s₀ : Shared} (hC : ActOk W (actF (Str.ofString "law") f (scopeAt 29) cdv L h₀ l s₀ [])) (hr' : Rm 20 A)
    {ks : List KeyT} {rows due : List RowT} {p c a : Addr} {T : Nat} {wv : List V} {mu : Mu} {loc : List (Str × V)} (hkl : ks.length ≤ 9) (hko : KeysOk ks) (hro : RowsOk ks rows 35000) (hrl : rows.length ≤ 7) (hdue : Due ks rows due) (hp : PenMu p c T mu) (hT : T ≤ 90000)
    (l1 : loc.lookup (Str.ofString "keys") = some (.dat (.list (ks.map keyD)))) (l2 : loc.lookup (Str.ofString "rows") = some (.dat (.list (rows.map rowD)))) (l3 : loc.lookup (Str.ofString "pen") = some (.ref p))
    (l4 : loc.lookup (Str.ofString "held") = some (.dat (.list (rows.map rowD)))) (l5 : loc.lookup (Str.ofString "held_keys") = some (.dat (.list (ks.map keyD)))) (l6 : loc.lookup (Str.ofString "due") = some (.dat (.list (due.map rowD)))) :
    WX W A (actF (Str.ofString "law") f (scopeAt 29) cdv L h₀ l s₀ []) NoE ((bodyAt 29).drop 8) ⟨loc, (a, wv) :: mu⟩ (End fun x _ => x = .dat (.bool true)) := by
  obtain ⟨fd6, D6⟩ := D_sort_rows hW
  obtain ⟨fd8, D8⟩ := D_sorted_place hW
  obtain ⟨fd9, D9⟩ := D_sorted_with hW
  obtain ⟨fd10, D10⟩ := D_law_merged_right hW
  have hr := hr'.mono (d' := 10) (by decide)
  have hr1 := hr'.mono (d' := 11) (by decide)
  have hsz : 2100 ≤ sizeLine := by decide
  have hlen := hdue.1.length_eq
  have wdue : ∀ r ∈ due, WsOk ks r.2 := fun r hr => hro.ws r (hdue.1.mem_iff.mp hr)
  conv in List.drop 8 (bodyAt 29) => whnf
  (with_reducible refine WX.consU ?_); ((with_reducible refine WS.for (by assumption) ?_ ?s622); (case s622 => (intro _; rfl)))
  refine WI.enumList hC hr (blt_enumerate hW) ?_ rfl rfl
  ((with_reducible refine' WE.local' (by assumption) ?lk623 ?_ ?k623 ?d623); (case k623 => rfl); (case d623 => decide); (case lk623 => walk_at "lk"))
  let J22 : List PyData → St → Prop := fun xs σ => Ex2 fun (i : Nat) (loc : List (Str × V)) => A9 (σ = ⟨loc, (a, wv) :: mu⟩) (i ≤ due.length) (xs = (((due.drop i).map rowD).zipIdx i).map (fun p => .tuple [.int (p.2 : Nat), p.1])) (loc.lookup (Str.ofString "keys") = some (.dat (.list (ks.map keyD)))) (loc.lookup (Str.ofString "rows") = some (.dat (.list (rows.map rowD)))) (loc.lookup (Str.ofString "pen") = some (.ref p)) (loc.lookup (Str.ofString "held") = some (.dat (.list (rows.map rowD)))) (loc.lookup (Str.ofString "held_keys") = some (.dat (.list (ks.map keyD)))) (loc.lookup (Str.ofString "due") = some (.dat (.list (due.map rowD))))
  refine ⟨_, rfl, LoopW.gen J22 ?_ ?_ _ _ ⟨0, _, rfl, Nat.zero_le _, rfl, l1, l2, l3, l4, l5, l6⟩⟩
  · clear l1 l2 l3 l4 l5 l6
    rintro σ ⟨i, loc, rfl, hi, ex, l1, l2, l3, l4, l5, l6⟩
    (with_reducible (refine WX.consU ?_; refine WS.ite ?_; refine WT.or ?_; refine WT.not ?_)); ((with_reducible refine WT.plainU ?_ ?p624); (case p624 => rfl))
    refine WE.callFn 13 hC (hr'.mono (by decide)) D10.fn ?_ rfl (by decide) rfl
    ((with_reducible refine WEs.cons ?_ ?he625); (case he625 => rfl)); ((with_reducible refine' WE.local' (by assumption) ?lk626 ?_ ?k626 ?d626); (case k626 => rfl); (case d626 => decide); (case lk626 => walk_at "lk")); ((with_reducible refine WEs.cons ?_ ?he627); (case he627 => rfl)); ((with_reducible refine' WE.local' (by assumption) ?lk628 ?_ ?k628 ?d628); (case k628 => rfl); (case d628 => decide); (case lk628 => walk_at "lk")); ((with_reducible refine WEs.cons ?_ ?he629); (case he629 => rfl)); ((with_reducible refine' WE.local' (by assumption) ?lk630 ?_ ?k630 ?d630); (case k630 => rfl); (case d630 => decide); (case lk630 => walk_at "lk")); (with_reducible refine WEs.nil ?_)
    refine ⟨[(a, wv)], mu, _, rfl, merged_right_spec hW hkl wdue (by lia) hT hp hdue.2, fun x mu2 hx => ?_⟩
    obtain ⟨rfl, T2, hp2⟩ := hx
    (with_reducible refine BoolV.mk ?_)
    refine ⟨fun q => (by cases q), fun _ => ?_⟩
    (with_reducible refine WT.or ?_); ((with_reducible refine WT.cmpU (by assumption) (by assumption) ?_ ?m631); (case m631 => rfl))
    refine WE.callFn 13 hC (hr'.mono (by decide)) D6.fn ?_ rfl (by decide) rfl
    ((with_reducible refine WEs.cons ?_ ?he632); (case he632 => rfl)); ((with_reducible refine' WE.local' (by assumption) ?lk633 ?_ ?k633 ?d633); (case k633 => rfl); (case d633 => decide); (case lk633 => walk_at "lk")); ((with_reducible refine WEs.cons ?_ ?he634); (case he634 => rfl))
    refine WE.listU hC ?_
    (with_reducible (refine WEs.nil ?_; refine Dats.nil ⟨Nat.le_of_ble_eq_true rfl, ?_⟩; refine WEs.nil ?_))
    refine ⟨[], (a, wv) :: mu2, _, rfl, sort_rows_spec (rows := []) hW hkl (fun r hr => by cases hr) (by simp) (by simp), fun x mu3 hx => ?_⟩
    obtain ⟨rows', rfl, hp7, hs7, rfl⟩ := hx
    obtain rfl := List.perm_nil.mp hp7
    refine WE.listU hC ?_
    (with_reducible (refine WEs.nil ?_; refine Dats.nil ⟨Nat.le_of_ble_eq_true rfl, ?_⟩))
    refine OpeB.ne rfl rfl ?_
    refine ⟨fun q => (by cases q), fun _ => ?_⟩
    (with_reducible refine WT.or_nil ?_)
    refine ⟨fun q => (by cases q), fun _ => ?_⟩
    (with_reducible (refine WX.nil ?_; refine WX.consU ?_; refine WS.ret ?_))
    refine WE.and ?_
    ((with_reducible refine WE.cmpU (by assumption) (by assumption) ?_ ?m635); (case m635 => rfl))
    refine WE.comp hC ?_ rfl rfl (by decide) (by intro _; rfl)
    unfold CompH
    refine WI.list hC hr ?_
    ((with_reducible refine' WE.cell' (by assumption) ?lk636 ?_ ?k636 ?d636); (case k636 => rfl); (case d636 => decide); (case lk636 => walk_at "lk"))
    refine ⟨_, rfl, by simp; lia, [], .nil, fun Cl h₀ l hCi => ?_⟩
    refine CompW.map (fun d => d) (fun σ => σ.mu = (a, wv) :: mu2) rfl (fun σ' e => ?_) fun x hx σ hσ h₀' l' hC' => ?_
    rotate_left
    · obtain ⟨r, hr3, rfl⟩ := List.mem_map.mp hx
      have := (hro.ws r hr3).len
      refine WA.pair rfl hC' hr ?_
      ((with_reducible refine WA.name (by assumption) ?c637 ?_); (case c637 => walk_at "can")); ((with_reducible refine WA.name (by assumption) ?c638 ?_); (case c638 => walk_at "can")); (with_reducible refine WE.tupleU (by assumption) ?_); ((with_reducible refine WEs.cons ?_ ?he639); (case he639 => rfl)); ((with_reducible refine' WE.local' (by assumption) ?lk640 ?_ ?k640 ?d640); (case k640 => rfl); (case d640 => decide); (case lk640 => walk_at "lk")); ((with_reducible refine WEs.cons ?_ ?he641); (case he641 => rfl)); ((with_reducible refine WE.list_of (by assumption) ?b642 ?_ ?x642 ?h642); (case b642 => exact blt_list (by assumption)); (case x642 => rfl); (case h642 => rfl)); ((with_reducible refine' WE.local' (by assumption) ?lk643 ?_ ?k643 ?d643); (case k643 => rfl); (case d643 => decide); (case lk643 => walk_at "lk"))
      refine ⟨_, .inl rfl, by lia, ?_⟩
      (with_reducible (refine WEs.nil ?_; refine Dats.cons ?_; refine Dats.cons ?_; refine Dats.nil ⟨Nat.le_of_ble_eq_true rfl, ?_⟩))
      exact ⟨rfl, hσ⟩
    rw [List.map_id']
    refine FinC.dat ?_
    ((with_reducible refine' WE.local' (by assumption) ?lk644 ?_ ?k644 ?d644); (case k644 => rfl); (case d644 => decide); (case lk644 => walk_at "lk"))
    have shR := rows_sh hro.ws
    have ksh : Sh 2 (.list (ks.map keyD)) := keys_sh fun k hk' => (names_ok _ (hko k hk')).1
    refine Ope.eq (shR.shaped (by decide)) (shR.shaped (by decide)) ?_
    rw [shR.refl]
    refine ⟨_, rfl, fun q => (by cases q), fun _ => ?_⟩
    (with_reducible refine WE.bool_one ?_); ((with_reducible refine WE.cmpU (by assumption) (by assumption) ?_ ?m645); (case m645 => rfl)); ((with_reducible refine' WE.local' (by assumption) ?lk646 ?_ ?k646 ?d646); (case k646 => rfl); (case d646 => decide); (case lk646 => walk_at "lk")); ((with_reducible refine' WE.local' (by assumption) ?lk647 ?_ ?k647 ?d647); (case k647 => rfl); (case d647 => decide); (case lk647 => walk_at "lk"))
    refine Ope.eq (ksh.shaped (by decide)) (ksh.shaped (by decide)) ?_
    rw [ksh.refl]
    exact .ret rfl
  · clear l1 l2 l3 l4 l5 l6
    rintro x xs σ ⟨i, loc, rfl, hi, ex, l1, l2, l3, l4, l5, l6⟩ h₀ l hC
    have hlt : i < due.length := by
      apply Nat.lt_of_not_le
      intro h
      rw [List.drop_eq_nil_of_le h] at ex
      simp at ex
    rw [List.drop_eq_getElem_cons hlt] at ex
    simp only [List.map_cons, List.zipIdx_cons, List.cons.injEq] at ex
    obtain ⟨rfl, rfl⟩ := ex
    have hk' := List.getElem?_eq_getElem hlt
    generalize due[i] = row at *
    obtain ⟨pl1, pl2, pl3, pl4⟩ := due_place hdue.2 hk'
    have wrow : WsOk ks row.2 := wdue row (List.mem_of_getElem? hk')
    have hdl : (due.map rowD).length ≤ sizeLine := by simp; lia
    have hri : due.length = rows.length := hlen
    have eleft : (due.map rowD).take (i : Int).toNat ++ (due.map rowD).drop ((i : Int) + 1).toNat = (due.take i ++ due.drop (i + 1)).map rowD := by
      rw [Int.toNat_natCast, show ((i : Int) + 1).toNat = i + 1 by lia, List.map_append, List.map_take, List.map_drop]
    have wleft : ∀ r ∈ due.take i ++ due.drop (i + 1), WsOk ks r.2 := fun r hr => by
      rcases List.mem_append.mp hr with h | h
      · exact wdue r (List.mem_of_mem_take h)
      · exact wdue r (List.mem_of_mem_drop h)
    have lleft : (due.take i ++ due.drop (i + 1)).length ≤ 1000 := by simp; lia
    have shD := rows_sh wdue
    have shL := rows_sh wleft
    refine WA.pair rfl hC hr ?_
    ((with_reducible refine WA.name (by assumption) ?c648 ?_); (case c648 => walk_at "can")); ((with_reducible refine WA.name (by assumption) ?c649 ?_); (case c649 => walk_at "can")); (with_reducible refine WX.consU ?_); ((with_reducible refine WS.assign (by assumption) ?c650 ?_ ?s650); (case c650 => walk_at "can"); (case s650 => rfl)); (with_reducible refine WE.binopU (by assumption) (by assumption) ?_); ((with_reducible refine WE.sliceTo (by assumption) ?_ ?a651); (case a651 => (intro _ _; rfl))); ((with_reducible refine' WE.local' (by assumption) ?lk652 ?_ ?k652 ?d652); (case k652 => rfl); (case d652 => decide); (case lk652 => walk_at "lk")); ((with_reducible refine' WE.local' (by assumption) ?lk653 ?_ ?k653 ?d653); (case k653 => rfl); (case d653 => decide); (case lk653 => walk_at "lk"))
    refine ⟨_, _, rfl, rfl, by lia, hdl, ?_⟩
    ((with_reducible refine WE.sliceFrom (by assumption) ?_ ?a654); (case a654 => (intro _ _; rfl))); ((with_reducible refine' WE.local' (by assumption) ?lk655 ?_ ?k655 ?d655); (case k655 => rfl); (case d655 => decide); (case lk655 => walk_at "lk")); (with_reducible refine WE.binopU (by assumption) (by assumption) ?_); ((with_reducible refine' WE.local' (by assumption) ?lk656 ?_ ?k656 ?d656); (case k656 => rfl); (case d656 => decide); (case lk656 => walk_at "lk")); (with_reducible (refine WE.const_int (by assumption) ?_; refine Ope.add_int ?_))
    refine ⟨_, _, rfl, rfl, by lia, by simp; lia, hdl, ?_⟩
    refine Ope.add_list (by simp; lia) ?_
    rw [eleft]
    (with_reducible (refine WX.consU ?_; refine WS.ite ?_; refine WT.or ?_)); ((with_reducible refine WT.cmpU (by assumption) (by assumption) ?_ ?m657); (case m657 => rfl))
    refine WE.callPure 12 hC (hr'.mono (by decide)) D8.fn ?_ rfl (by decide) rfl
    ((with_reducible refine WEs.cons ?_ ?he658); (case he658 => rfl)); ((with_reducible refine' WE.local' (by assumption) ?lk659 ?_ ?k659 ?d659); (case k659 => rfl); (case d659 => decide); (case lk659 => walk_at "lk")); ((with_reducible refine WEs.cons ?_ ?he660); (case he660 => rfl)); ((with_reducible refine' WE.local' (by assumption) ?lk661 ?_ ?k661 ?d661); (case k661 => rfl); (case d661 => decide); (case lk661 => walk_at "lk")); ((with_reducible refine WEs.cons ?_ ?he662); (case he662 => rfl)); ((with_reducible refine' WE.local' (by assumption) ?lk663 ?_ ?k663 ?d663); (case k663 => rfl); (case d663 => decide); (case lk663 => walk_at "lk")); (with_reducible refine WEs.nil ?_)
    refine ⟨_, sorted_place_spec hW hkl wleft wrow lleft pl1 pl2 pl3, ?_⟩
    ((with_reducible refine' WE.local' (by assumption) ?lk664 ?_ ?k664 ?d664); (case k664 => rfl); (case d664 => decide); (case lk664 => walk_at "lk"))
    refine OpeB.ne rfl rfl ?_
    rw [int_eqv, decide_eq_true rfl]
    refine ⟨fun q => (by cases q), fun _ => ?_⟩
    (with_reducible refine WT.or ?_); ((with_reducible refine WT.cmpU (by assumption) (by assumption) ?_ ?m665); (case m665 => rfl))
    refine WE.callPure 13 hC (hr'.mono (by decide)) D9.fn ?_ rfl (by decide) rfl
    ((with_reducible refine WEs.cons ?_ ?he666); (case he666 => rfl)); ((with_reducible refine' WE.local' (by assumption) ?lk667 ?_ ?k667 ?d667); (case k667 => rfl); (case d667 => decide); (case lk667 => walk_at "lk")); ((with_reducible refine WEs.cons ?_ ?he668); (case he668 => rfl)); ((with_reducible refine' WE.local' (by assumption) ?lk669 ?_ ?k669 ?d669); (case k669 => rfl); (case d669 => decide); (case lk669 => walk_at "lk")); ((with_reducible refine WEs.cons ?_ ?he670); (case he670 => rfl)); ((with_reducible refine' WE.local' (by assumption) ?lk671 ?_ ?k671 ?d671); (case k671 => rfl); (case d671 => decide); (case lk671 => walk_at "lk")); (with_reducible refine WEs.nil ?_)
    refine ⟨_, sorted_with_spec hW hkl wleft wrow lleft pl1 pl2 pl3, ?_⟩
    rw [pl4]
    ((with_reducible refine' WE.local' (by assumption) ?lk672 ?_ ?k672 ?d672); (case k672 => rfl); (case d672 => decide); (case lk672 => walk_at "lk"))
    refine OpeB.ne (shD.shaped (by decide)) (shD.shaped (by decide)) ?_
    rw [shD.refl]
    refine ⟨fun q => (by cases q), fun _ => ?_⟩
    (with_reducible refine WT.or ?_); ((with_reducible refine WT.cmpU (by assumption) (by assumption) ?_ ?m673); (case m673 => rfl)); ((with_reducible refine' WE.local' (by assumption) ?lk674 ?_ ?k674 ?d674); (case k674 => rfl); (case d674 => decide); (case lk674 => walk_at "lk")); (with_reducible refine WE.binopU (by assumption) (by assumption) ?_); ((with_reducible refine WE.sliceTo (by assumption) ?_ ?a675); (case a675 => (intro _ _; rfl))); ((with_reducible refine' WE.local' (by assumption) ?lk676 ?_ ?k676 ?d676); (case k676 => rfl); (case d676 => decide); (case lk676 => walk_at "lk")); ((with_reducible refine' WE.local' (by assumption) ?lk677 ?_ ?k677 ?d677); (case k677 => rfl); (case d677 => decide); (case lk677 => walk_at "lk"))
    refine ⟨_, _, rfl, rfl, by lia, hdl, ?_⟩
    ((with_reducible refine WE.sliceFrom (by assumption) ?_ ?a678); (case a678 => (intro _ _; rfl))); ((with_reducible refine' WE.local' (by assumption) ?lk679 ?_ ?k679 ?d679); (case k679 => rfl); (case d679 => decide); (case lk679 => walk_at "lk")); (with_reducible refine WE.binopU (by assumption) (by assumption) ?_); ((with_reducible refine' WE.local' (by assumption) ?lk680 ?_ ?k680 ?d680); (case k680 => rfl); (case d680 => decide); (case lk680 => walk_at "lk")); (with_reducible (refine WE.const_int (by assumption) ?_; refine Ope.add_int ?_))
    refine ⟨_, _, rfl, rfl, by lia, by simp; lia, hdl, ?_⟩
    refine Ope.add_list (by simp; lia) ?_
    rw [eleft]
    refine OpeB.ne (shL.shaped (by decide)) (shL.shaped (by decide)) ?_
    rw [shL.refl]
    refine ⟨fun q => (by cases q), fun _ => ?_⟩
    (with_reducible refine WT.or_nil ?_)
    refine ⟨fun q => (by cases q), fun _ => ?_⟩
    (with_reducible (refine WX.nil ?_; refine WX.consU ?_; refine WS.ite ?_; refine WT.or ?_)); ((with_reducible refine WT.cmpU (by assumption) (by assumption) ?_ ?m681); (case m681 => rfl))
    refine WE.callFn 13 hC (hr'.mono (by decide)) D6.fn ?_ rfl (by decide) rfl
    ((with_reducible refine WEs.cons ?_ ?he682); (case he682 => rfl)); ((with_reducible refine' WE.local' (by assumption) ?lk683 ?_ ?k683 ?d683); (case k683 => rfl); (case d683 => decide); (case lk683 => walk_at "lk")); ((with_reducible refine WEs.cons ?_ ?he684); (case he684 => rfl))
    refine WE.listU hC ?_
    ((with_reducible refine WEs.cons ?_ ?he685); (case he685 => rfl)); ((with_reducible refine' WE.local' (by assumption) ?lk686 ?_ ?k686 ?d686); (case k686 => rfl); (case d686 => decide); (case lk686 => walk_at "lk")); (with_reducible (refine WEs.nil ?_; refine Dats.cons ?_; refine Dats.nil ⟨Nat.le_of_ble_eq_true rfl, ?_⟩; refine WEs.nil ?_))
    refine ⟨[], (a, wv) :: mu, _, rfl, sort_rows_spec (rows := [row]) hW hkl (fun r hr => by rw [List.mem_singleton.mp hr]; exact wrow) (by simp) (by simp), fun x mu2 hx => ?_⟩
    obtain ⟨rows', rfl, hp7, hs7, rfl⟩ := hx
    obtain rfl := List.perm_singleton.mp hp7
    refine WE.listU hC ?_
    ((with_reducible refine WEs.cons ?_ ?he687); (case he687 => rfl)); ((with_reducible refine WE.subU (by assumption) (by assumption) ?_ ?s688); (case s688 => (intro _ _; rfl))); ((with_reducible refine' WE.local' (by assumption) ?lk689 ?_ ?k689 ?d689); (case k689 => rfl); (case d689 => decide); (case lk689 => walk_at "lk")); (with_reducible refine WE.const_int (by assumption) ?_)
    refine ⟨_, .tup (i := 0) (by lia) (by lia) rfl, ?_⟩
    (with_reducible (refine WEs.nil ?_; refine Dats.cons ?_; refine Dats.nil ⟨Nat.le_of_ble_eq_true rfl, ?_⟩))
    have sh1 : Sh 1 (.list [PyData.int row.1]) := Sh.list fun x hx => by rw [List.mem_singleton.mp hx]; exact Sh.int
    rw [List.map_cons, List.map_nil]
    refine OpeB.ne (sh1.shaped (by decide)) (sh1.shaped (by decide)) ?_
    rw [sh1.refl]
    refine ⟨fun q => (by cases q), fun _ => ?_⟩
    (with_reducible refine WT.or ?_); ((with_reducible refine WT.cmpU (by assumption) (by assumption) ?_ ?m690); (case m690 => rfl))
    refine WE.callPure 13 hC (hr'.mono (by decide)) D9.fn ?_ rfl (by decide) rfl
    ((with_reducible refine WEs.cons ?_ ?he691); (case he691 => rfl)); ((with_reducible refine' WE.local' (by assumption) ?lk692 ?_ ?k692 ?d692); (case k692 => rfl); (case d692 => decide); (case lk692 => walk_at "lk")); ((with_reducible refine WEs.cons ?_ ?he693); (case he693 => rfl))
    refine WE.listU hC ?_
    (with_reducible (refine WEs.nil ?_; refine Dats.nil ⟨Nat.le_of_ble_eq_true rfl, ?_⟩)); ((with_reducible refine WEs.cons ?_ ?he694); (case he694 => rfl)); ((with_reducible refine' WE.local' (by assumption) ?lk695 ?_ ?k695 ?d695); (case k695 => rfl); (case d695 => decide); (case lk695 => walk_at "lk")); (with_reducible refine WEs.nil ?_)
    refine ⟨_, sorted_with_spec (rows := []) (n := 0) hW hkl (fun r hr => by cases hr) wrow (by simp) (Nat.le_refl 0) (fun j r e => by simp at e) (fun j r e => by simp at e), ?_⟩
    refine WE.listU hC ?_
    ((with_reducible refine WEs.cons ?_ ?he696); (case he696 => rfl)); ((with_reducible refine' WE.local' (by assumption) ?lk697 ?_ ?k697 ?d697); (case k697 => rfl); (case d697 => decide); (case lk697 => walk_at "lk")); (with_reducible (refine WEs.nil ?_; refine Dats.cons ?_; refine Dats.nil ⟨Nat.le_of_ble_eq_true rfl, ?_⟩))
    have sh2 : Sh 3 (.list [rowD row]) := Sh.list fun x hx => by rw [List.mem_singleton.mp hx]; exact row_sh wrow
    rw [show (([] : List RowT).take 0 ++ [row] ++ ([] : List RowT).drop 0).map rowD = [rowD row] from rfl]
    refine OpeB.ne (sh2.shaped (by decide)) (sh2.shaped (by decide)) ?_
    rw [sh2.refl]
    refine ⟨fun q => (by cases q), fun _ => ?_⟩
    (with_reducible refine WT.or_nil ?_)
    refine ⟨fun q => (by cases q), fun _ => ?_⟩
    (with_reducible (refine WX.nil ?_; refine WX.nil ?_))
    exact ⟨i + 1, _, rfl, by lia, rfl, by walk_at "lk", by walk_at "lk", by walk_at "lk", by walk_at "lk", by walk_at "lk", by walk_at "lk"⟩

end
section


noncomputable def pickD (rows : List RowT) (ks : List KeyT) : PyData → PyData
  | .int w => ((rows[(rows.map (weight rows ks)).idxOf w]?).map rowD).getD .none
  | d => d
theorem law_mid (hW : IsW W) {f : Addr} {cdv : Value} {L : Addr} {h₀ : Heap} {l : List Addr} {s₀ : Shared} {outer : List Env} (hC : ActOk W (actF (Str.ofString "law") f (scopeAt 29) cdv L h₀ l s₀ []))
    (F : FrA A (actF (Str.ofString "law") f (scopeAt 29) cdv L h₀ l s₀ []) outer) (hr' : Rm 20 A) (efr : outer.filterMap (·.frame) = [])
    {ks : List KeyT} {ws : List Str} {rows : List RowT} {p c : Addr} {T5 n : Nat} {mu' : Mu} {loc : List (Str × V)} (hkl : 1 ≤ ks.length ∧ ks.length ≤ 9) (hko : KeysOk ks) (hws : ws.map upperS = showKeys ks) (hrl : rows.length = n) (hn7 : n ≤ 7) (hro : RowsOk ks rows 35000) (hT5 : T5 ≤ 1000) (hp5 : PenMu p c T5 mu')
    (l1 : loc.lookup (Str.ofString "keys") = some (.dat (.list (ks.map keyD)))) (l2 : loc.lookup (Str.ofString "rows") = some (.dat (.list (rows.map rowD)))) (l3 : loc.lookup (Str.ofString "pen") = some (.ref p))
    (l4 : loc.lookup (Str.ofString "held") = some (.dat (.list (rows.map rowD)))) (l5 : loc.lookup (Str.ofString "held_keys") = some (.dat (.list (ks.map keyD)))) (l6 : loc.lookup (Str.ofString "words") = some (.dat (.list (ws.map .str)))) :
    WX W A (actF (Str.ofString "law") f (scopeAt 29) cdv L h₀ l s₀ []) NoE ((bodyAt 29).drop 5) ⟨loc, mu'⟩ (End fun x _ => x = .dat (.bool true)) := by
  obtain ⟨fd5, D5⟩ := D_law_weights hW
  obtain ⟨fd6, D6⟩ := D_sort_rows hW
  obtain ⟨fd7, D7⟩ := D_law_words_right hW
  have hr := hr'.mono (d' := 10) (by decide)
  have hr1 := hr'.mono (d' := 11) (by decide)
  have hsz : 2100 ≤ sizeLine := by decide
  conv in List.drop 5 (bodyAt 29) => whnf
  (with_reducible refine WX.consU ?_); ((with_reducible refine WS.assign (by assumption) ?c698 ?_ ?s698); (case c698 => walk_at "can"); (case s698 => rfl))
  refine WE.callFn 11 hC (hr'.mono (by decide)) D5.fn ?_ rfl (by decide) rfl
  ((with_reducible refine WEs.cons ?_ ?he699); (case he699 => rfl)); ((with_reducible refine' WE.local' (by assumption) ?lk700 ?_ ?k700 ?d700); (case k700 => rfl); (case d700 => decide); (case lk700 => walk_at "lk")); ((with_reducible refine WEs.cons ?_ ?he701); (case he701 => rfl)); ((with_reducible refine' WE.cell' (by assumption) ?lk702 ?_ ?k702 ?d702); (case k702 => rfl); (case d702 => decide); (case lk702 => walk_at "lk")); (with_reducible refine WEs.nil ?_)
  refine ⟨[], mu', _, rfl, weights_spec hW (by lia) hro.ws (by lia), fun x mu6 hx => ?_⟩
  obtain ⟨a, rfl, rfl⟩ := hx
  (with_reducible refine WX.consU ?_)
  refine WS.assignComp hC (by walk_at "can") ?_ rfl rfl rfl (by decide) (by intro _; rfl)
  unfold CompH
  refine WI.list hC hr ?_
  ((with_reducible refine WE.sorted_mu (by assumption) ?b703 ?_ ?x703 ?h703); (case b703 => exact blt_sorted (by assumption)); (case x703 => rfl); (case h703 => rfl)); ((with_reducible refine' WE.cell' (by assumption) ?lk704 ?_ ?k704 ?d704); (case k704 => rfl); (case d704 => decide); (case lk704 => walk_at "lk"))
  refine ⟨a, rows.map (weight rows ks), rfl, .head _, by simp; lia, fun nw hpm hsr => ?_⟩
  obtain ⟨due, hdue, rfl⟩ := due_of (by lia) hro (by decide) hpm hsr
  have hlen : due.length = n := by rw [hdue.1.length_eq, hrl]
  have hdl : due.length ≤ 7 := by lia
  have pick := due_pick (by lia) hro (by decide) hdue.1
  have wdue : ∀ r ∈ due, WsOk ks r.2 := fun r hr => hro.ws r (hdue.1.mem_iff.mp hr)
  have hrl7 : rows.length ≤ 7 := by lia
  have hlay := ints_layable (weight_bound hrl7 hkl.2 hro (by decide)) (by simp; lia)
  refine ⟨_, rfl, by simp; lia, [(Str.ofString "weights", .ref a), (Str.ofString "rows", .dat (.list (rows.map rowD)))], .cons rfl (by walk_at "lk") rfl rfl rfl (.cons rfl (by walk_at "lk") rfl rfl rfl .nil), fun Cl h₀ l hCi => ?_⟩
  let J23 : St → Prop := fun σ => ∃ loc, A3 (σ = ⟨loc, (a, intsV (rows.map (weight rows ks))) :: mu'⟩) (loc.lookup (Str.ofString "rows") = some (.dat (.list (rows.map rowD)))) (loc.lookup (Str.ofString "weights") = some (.ref a))
  refine CompW.map (pickD rows ks) J23 ⟨_, rfl, rfl, rfl⟩ (fun σ' ⟨loc', e, l1', l2'⟩ => ?_) fun x hx σ ⟨loc', e, l1', l2'⟩ h₀' l' hC' => ?_
  rotate_left
  · subst e
    obtain ⟨w, hw, rfl⟩ := List.mem_map.mp hx
    obtain ⟨r, hr3, rfl⟩ := List.mem_map.mp hw
    ((with_reducible refine WA.name (by assumption) ?c705 ?_); (case c705 => walk_at "can")); ((with_reducible refine WE.subU (by assumption) (by assumption) ?_ ?s706); (case s706 => (intro _ _; rfl))); ((with_reducible refine' WE.cell' (by assumption) ?lk707 ?_ ?k707 ?d707); (case k707 => rfl); (case d707 => decide); (case lk707 => walk_at "lk")); ((with_reducible refine WE.index (by assumption) ?_ ?a708 ?b708); (case a708 => rfl); (case b708 => rfl)); ((with_reducible refine' WE.cell' (by assumption) ?lk709 ?_ ?k709 ?d709); (case k709 => rfl); (case d709 => decide); (case lk709 => walk_at "lk"))
    have hmem : weight rows ks r ∈ rows.map (weight rows ks) := List.mem_map_of_mem (hdue.1.mem_iff.mp hr3)
    refine ⟨a, rfl, ⟨_, .head _⟩, ?_⟩
    ((with_reducible refine' WE.local' (by assumption) ?lk710 ?_ ?k710 ?d710); (case k710 => rfl); (case d710 => decide); (case lk710 => walk_at "lk"))
    refine ⟨rows.map (weight rows ks), weight rows ks r, rfl, .head _, hlay, hmem, ?_⟩
    have hp := pick r hr3
    refine ⟨_, .list (by lia) (by have := List.idxOf_lt_length_iff.mpr hmem; simp at this; lia) (d := rowD r) (by rw [Int.toNat_natCast, List.getElem?_map, hp]; rfl), ?_⟩
    refine ⟨by simp [pickD, hp], _, rfl, ?_, ?_⟩
    all_goals (refine lk_ne (by decide) ?_; assumption)
  subst e
  refine FinC.dat ?_
  have edue : (((due.map (weight rows ks)).map PyData.int).map (pickD rows ks)) = due.map rowD := by
    rw [List.map_map, List.map_map]
    refine List.map_congr_left fun r hr => ?_
    simp [pickD, pick r hr]
  rw [edue]
  (with_reducible (refine WX.consU ?_; refine WS.ite ?_; refine WT.or ?_)); ((with_reducible refine WT.cmpU (by assumption) (by assumption) ?_ ?m711); (case m711 => rfl))
  refine WE.callFn 13 hC (hr'.mono (by decide)) D6.fn ?_ rfl (by decide) rfl
  ((with_reducible refine WEs.cons ?_ ?he712); (case he712 => rfl)); ((with_reducible refine' WE.local' (by assumption) ?lk713 ?_ ?k713 ?d713); (case k713 => rfl); (case d713 => decide); (case lk713 => walk_at "lk")); ((with_reducible refine WEs.cons ?_ ?he714); (case he714 => rfl)); ((with_reducible refine' WE.cell' (by assumption) ?lk715 ?_ ?k715 ?d715); (case k715 => rfl); (case d715 => decide); (case lk715 => walk_at "lk")); (with_reducible refine WEs.nil ?_)
  refine ⟨[], _, _, rfl, sort_rows_spec hW (by lia) hro.ws hrl7 hro.nd, fun x mu7 hx => ?_⟩
  obtain ⟨rows', rfl, hp7, hs7, rfl⟩ := hx
  obtain rfl := due_one hro hdue hp7 hs7
  refine WE.comp hC ?_ rfl rfl (by decide) (by intro _; rfl)
  unfold CompH
  refine WI.list hC hr ?_
  ((with_reducible refine' WE.local' (by assumption) ?lk716 ?_ ?k716 ?d716); (case k716 => rfl); (case d716 => decide); (case lk716 => walk_at "lk"))
  refine ⟨_, rfl, by simp; lia, [], .nil, fun Cl h₀ l hCi => ?_⟩
  refine CompW.map key0 (fun σ => σ.mu = (a, intsV (rows.map (weight rows ks))) :: mu') rfl (fun σ' e => ?_) fun x hx σ hσ h₀' l' hC' => ?_
  rotate_left
  · obtain ⟨r, hr3, rfl⟩ := List.mem_map.mp hx
    refine WA.pair rfl hC' hr ?_
    ((with_reducible refine WA.name (by assumption) ?c717 ?_); (case c717 => walk_at "can")); ((with_reducible refine WA.name (by assumption) ?c718 ?_); (case c718 => walk_at "can")); ((with_reducible refine' WE.local' (by assumption) ?lk719 ?_ ?k719 ?d719); (case k719 => rfl); (case d719 => decide); (case lk719 => walk_at "lk"))
    exact ⟨rfl, hσ⟩
  obtain ⟨loc', mu8⟩ := σ'
  obtain rfl : mu8 = _ := e
  rw [keys0]
  refine FinC.dat ?_
  have ish : Sh 1 (.list (rows'.map fun r => PyData.int r.1)) := Sh.list fun x hx => by
    obtain ⟨r, _, rfl⟩ := List.mem_map.mp hx; exact Sh.int
  refine OpeB.ne (ish.shaped (by decide)) (ish.shaped (by decide)) ?_
  rw [ish.refl]
  refine ⟨fun q => (by cases q), fun _ => ?_⟩
  (with_reducible (refine WT.or ?_; refine WT.not ?_)); ((with_reducible refine WT.plainU ?_ ?p720); (case p720 => rfl))
  refine WE.callFnF (cs := (cellsFrom (L + 1) (scopeAt 29).names []).map (·.2)) (fr := []) 15 hC F (hr'.mono (by decide)) rfl efr D7.fn ?_ rfl (by decide) rfl
  ((with_reducible refine WEs.cons ?_ ?he721); (case he721 => rfl)); ((with_reducible refine' WE.local' (by assumption) ?lk722 ?_ ?k722 ?d722); (case k722 => rfl); (case d722 => decide); (case lk722 => walk_at "lk")); ((with_reducible refine WEs.cons ?_ ?he723); (case he723 => rfl)); ((with_reducible refine' WE.local' (by assumption) ?lk724 ?_ ?k724 ?d724); (case k724 => rfl); (case d724 => decide); (case lk724 => walk_at "lk")); ((with_reducible refine WEs.cons ?_ ?he725); (case he725 => rfl)); ((with_reducible refine' WE.local' (by assumption) ?lk726 ?_ ?k726 ?d726); (case k726 => rfl); (case d726 => decide); (case lk726 => walk_at "lk")); (with_reducible refine WEs.nil ?_)
  refine ⟨[(a, intsV (rows.map (weight rows ks)))], mu', _, _, rfl, words_right_spec hW hko (fun q => by rw [q] at hkl; exact absurd hkl.1 (by simp)) (by lia) hws (by lia) hp5, fun _ _ q => q, fun x mu9 hx => ?_⟩
  obtain ⟨rfl, T9, hT9, hp9⟩ := hx
  (with_reducible refine BoolV.mk ?_)
  refine ⟨fun q => (by cases q), fun _ => ?_⟩
  (with_reducible refine WT.or_nil ?_)
  refine ⟨fun q => (by cases q), fun _ => ?_⟩
  refine WX.nil ?_
  exact law_rest hW hC hr' (by lia) hko hro hrl7 hdue hp9 (by lia) (by walk_at "lk") (by walk_at "lk") (by walk_at "lk") (by walk_at "lk") (by walk_at "lk") (by walk_at "lk")

end
section


theorem law_spec (hW : IsW W) {f : Addr} {cdv : Value} {ns : List Int} (hl : ns.length ≤ 63) {L : Addr} {h₀ : Heap} {l : List Addr} {s₀ : Shared} {outer : List Env} (hC : ActOk W (actF (Str.ofString "law") f (scopeAt 29) cdv L h₀ l s₀ []))
    (F : FrA A (actF (Str.ofString "law") f (scopeAt 29) cdv L h₀ l s₀ []) outer) (hr' : Rm 20 A) (efr : outer.filterMap (·.frame) = []) :
    WX W A (actF (Str.ofString "law") f (scopeAt 29) cdv L h₀ l s₀ []) NoE (bodyAt 29) ⟨[(Str.ofString "script", .dat (.list (ns.map .int)))], []⟩ (End fun x _ => x = .dat (.bool true)) := by
  obtain ⟨fd1, D1⟩ := D_law_pen hW
  obtain ⟨fd2, D2⟩ := D_law_drawn hW
  obtain ⟨fd3, D3⟩ := D_law_keys hW
  obtain ⟨fd4, D4⟩ := D_law_rows hW
  have hr := hr'.mono (d' := 10) (by decide)
  have hr1 := hr'.mono (d' := 11) (by decide)
  have hsz : 2100 ≤ sizeLine := by decide
  conv in bodyAt 29 => whnf
  (with_reducible refine WX.consU ?_); ((with_reducible refine WS.assign (by assumption) ?c727 ?_ ?s727); (case c727 => walk_at "can"); (case s727 => rfl))
  refine WE.callFn 11 hC hr1 D1.fn ?_ rfl (by decide) rfl
  ((with_reducible refine WEs.cons ?_ ?he728); (case he728 => rfl)); ((with_reducible refine' WE.local' (by assumption) ?lk729 ?_ ?k729 ?d729); (case k729 => rfl); (case d729 => decide); (case lk729 => walk_at "lk")); (with_reducible refine WEs.nil ?_)
  refine ⟨[], [], _, rfl, pen_spec hW hl, fun x mu1 hx => ?_⟩
  obtain ⟨p, c, rfl, hp1⟩ := hx
  (with_reducible refine WX.consU ?_); ((with_reducible refine' WS.assignSwapU (by assumption) (by assumption) ?c730 ?_ ?s730 ?w730); (case w730 => rfl); (case s730 => rfl); (case c730 => (repeat (first | exact .nil | refine .cons (.loc rfl) ?_)))); ((with_reducible refine WEs.cons ?_ ?he731); (case he731 => rfl))
  refine WE.drawn p c hW hC hr1 ?_ rfl rfl
  ((with_reducible refine WEs.cons ?_ ?he732); (case he732 => rfl)); ((with_reducible refine' WE.local' (by assumption) ?lk733 ?_ ?k733 ?d733); (case k733 => rfl); (case d733 => decide); (case lk733 => walk_at "lk")); ((with_reducible refine WEs.cons ?_ ?he734); (case he734 => rfl)); (with_reducible (refine WE.const_int (by assumption) ?_; refine WEs.nil ?_))
  refine ⟨[], mu1, 0, 8, rfl, rfl, hp1, by lia, by lia, by lia, fun r1 mu2 h01 h11 hp2 => ?_⟩
  ((with_reducible refine WEs.cons ?_ ?he735); (case he735 => rfl)); (with_reducible (refine WE.binopU (by assumption) (by assumption) ?_; refine WE.const_int (by assumption) ?_))
  refine WE.drawn p c hW hC hr1 ?_ rfl rfl
  ((with_reducible refine WEs.cons ?_ ?he736); (case he736 => rfl)); ((with_reducible refine' WE.local' (by assumption) ?lk737 ?_ ?k737 ?d737); (case k737 => rfl); (case d737 => decide); (case lk737 => walk_at "lk")); ((with_reducible refine WEs.cons ?_ ?he738); (case he738 => rfl)); (with_reducible (refine WE.const_int (by assumption) ?_; refine WEs.nil ?_))
  refine ⟨[], mu2, 1, 9, rfl, rfl, hp2, by lia, by lia, by lia, fun r2 mu3 h02 h12 hp3 => ?_⟩
  obtain ⟨n, rfl⟩ : ∃ n : Nat, r1 = (n : Int) := ⟨r1.toNat, by lia⟩
  obtain ⟨m, em⟩ : ∃ m : Nat, 1 + r2 = (m : Int) := ⟨(1 + r2).toNat, by lia⟩
  (with_reducible (refine Ope.add_int ?_; refine WEs.nil ?_)); ((with_reducible refine SwapK.mk ?a739 ?b739 ?_); (case a739 => exact Nat.le_of_ble_eq_true rfl); (case b739 => rfl)); (with_reducible refine WX.consU ?_)
  rw [em]
  refine WS.unpack hC ?_ rfl rfl
  refine WE.callFn 12 hC (hr'.mono (by decide)) D3.fn ?_ rfl (by decide) rfl
  ((with_reducible refine WEs.cons ?_ ?he740); (case he740 => rfl)); ((with_reducible refine' WE.local' (by assumption) ?lk741 ?_ ?k741 ?d741); (case k741 => rfl); (case d741 => decide); (case lk741 => walk_at "lk")); ((with_reducible refine WEs.cons ?_ ?he742); (case he742 => rfl)); ((with_reducible refine' WE.local' (by assumption) ?lk743 ?_ ?k743 ?d743); (case k743 => rfl); (case d743 => decide); (case lk743 => walk_at "lk")); (with_reducible refine WEs.nil ?_)
  refine ⟨[], mu3, _, rfl, keys_spec hW (by lia) (by lia) (by lia) hp3, fun x mu4 hx => ?_⟩
  obtain ⟨ks, ws, T4, rfl, hkl, hko, hws, hT4, hp4⟩ := hx
  refine WA.pair rfl hC hr ?_
  ((with_reducible refine WA.name (by assumption) ?c744 ?_); (case c744 => walk_at "can")); ((with_reducible refine WA.name (by assumption) ?c745 ?_); (case c745 => walk_at "can")); (with_reducible refine WX.consU ?_); ((with_reducible refine WS.assign (by assumption) ?c746 ?_ ?s746); (case c746 => walk_at "can"); (case s746 => rfl))
  refine WE.callFn 13 hC (hr'.mono (by decide)) D4.fn ?_ rfl (by decide) rfl
  ((with_reducible refine WEs.cons ?_ ?he747); (case he747 => rfl)); ((with_reducible refine' WE.local' (by assumption) ?lk748 ?_ ?k748 ?d748); (case k748 => rfl); (case d748 => decide); (case lk748 => walk_at "lk")); ((with_reducible refine WEs.cons ?_ ?he749); (case he749 => rfl)); ((with_reducible refine' WE.local' (by assumption) ?lk750 ?_ ?k750 ?d750); (case k750 => rfl); (case d750 => decide); (case lk750 => walk_at "lk")); ((with_reducible refine WEs.cons ?_ ?he751); (case he751 => rfl)); ((with_reducible refine' WE.local' (by assumption) ?lk752 ?_ ?k752 ?d752); (case k752 => rfl); (case d752 => decide); (case lk752 => walk_at "lk")); (with_reducible refine WEs.nil ?_)
  refine ⟨[], mu4, _, rfl, rows_spec hW (by lia) hko (by lia) (by lia) hp4, fun x mu5 hx => ?_⟩
  obtain ⟨rows, T5, rfl, hrl, hro, hT5, hp5⟩ := hx
  (with_reducible refine WX.consU ?_); ((with_reducible refine' WS.assignSwapU (by assumption) (by assumption) ?c753 ?_ ?s753 ?w753); (case w753 => rfl); (case s753 => rfl); (case c753 => (repeat (first | exact .nil | refine .cons (.loc rfl) ?_)))); ((with_reducible refine WEs.cons ?_ ?he754); (case he754 => rfl))
  have wsl : ∀ r ∈ rows, r.2.length ≤ 9 := fun r hr => by have := (hro.ws r hr).len; lia
  refine WE.comp hC ?_ rfl rfl (by decide) (by intro _; rfl)
  unfold CompH
  refine WI.list hC hr ?_
  ((with_reducible refine' WE.cell' (by assumption) ?lk755 ?_ ?k755 ?d755); (case k755 => rfl); (case d755 => decide); (case lk755 => walk_at "lk"))
  refine ⟨_, rfl, by simp; lia, [], .nil, fun Cl h₀ l hCi => ?_⟩
  refine CompW.map (fun d => d) (fun σ => σ.mu = mu5) rfl (fun σ' e => ?_) fun x hx σ hσ h₀' l' hC' => ?_
  rotate_left
  · obtain ⟨r, hr3, rfl⟩ := List.mem_map.mp hx
    have := wsl r hr3
    refine WA.pair rfl hC' hr ?_
    ((with_reducible refine WA.name (by assumption) ?c756 ?_); (case c756 => walk_at "can")); ((with_reducible refine WA.name (by assumption) ?c757 ?_); (case c757 => walk_at "can")); (with_reducible refine WE.tupleU (by assumption) ?_); ((with_reducible refine WEs.cons ?_ ?he758); (case he758 => rfl)); ((with_reducible refine' WE.local' (by assumption) ?lk759 ?_ ?k759 ?d759); (case k759 => rfl); (case d759 => decide); (case lk759 => walk_at "lk")); ((with_reducible refine WEs.cons ?_ ?he760); (case he760 => rfl)); ((with_reducible refine WE.list_of (by assumption) ?b761 ?_ ?x761 ?h761); (case b761 => exact blt_list (by assumption)); (case x761 => rfl); (case h761 => rfl)); ((with_reducible refine' WE.local' (by assumption) ?lk762 ?_ ?k762 ?d762); (case k762 => rfl); (case d762 => decide); (case lk762 => walk_at "lk"))
    refine ⟨_, .inl rfl, by lia, ?_⟩
    (with_reducible (refine WEs.nil ?_; refine Dats.cons ?_; refine Dats.cons ?_; refine Dats.nil ⟨Nat.le_of_ble_eq_true rfl, ?_⟩))
    exact ⟨rfl, hσ⟩
  obtain ⟨loc', mu'⟩ := σ'
  obtain rfl : mu' = mu5 := e
  rw [List.map_id']
  refine FinC.dat ?_
  ((with_reducible refine WEs.cons ?_ ?he763); (case he763 => rfl)); ((with_reducible refine WE.list_of (by assumption) ?b764 ?_ ?x764 ?h764); (case b764 => exact blt_list (by assumption)); (case x764 => rfl); (case h764 => rfl)); ((with_reducible refine' WE.local' (by assumption) ?lk765 ?_ ?k765 ?d765); (case k765 => rfl); (case d765 => decide); (case lk765 => walk_at "lk"))
  refine ⟨_, .inl rfl, by simp; lia, ?_⟩
  (with_reducible refine WEs.nil ?_); ((with_reducible refine SwapK.mk ?a766 ?b766 ?_); (case a766 => exact Nat.le_of_ble_eq_true rfl); (case b766 => rfl))
  exact law_mid hW hC F hr' efr (ws := ws) (by lia) hko hws hrl (by lia) hro (by lia) hp5 (by walk_at "lk") (by walk_at "lk") (by walk_at "lk") (by walk_at "lk") (by walk_at "lk") (by walk_at "lk")

end
section


theorem cells_are {cm : Str → Option Value} : ∀ {cs : List (Str × Addr)} {cells : List (Addr × Obj)}, CellsAre cm cs cells → ∀ q ∈ cs, ∃ o, (q.2, o) ∈ cells ∧ o.data = .cell (cm q.1)
  | _, _, .nil, _, h => by cases h
  | _, _, .cons d r, q, h => by
    rcases List.mem_cons.mp h with e | h
    · subst e; exact ⟨_, .head _, d⟩
    · obtain ⟨o, h1, h2⟩ := cells_are r q h; exact ⟨o, .tail _ h1, h2⟩
theorem rds_ints {h : Heap} : ∀ {vs : List Value} {ns : List Int}, IntsAre vs ns → Rds h vs (ns.map .int)
  | _, _, .nil => .nil
  | _, _, .cons n t r => .cons Rd.int (rds_ints r)
theorem law_cells (L : Addr) : cellsFrom (L + 1) (scopeAt 29).names [] = [(Str.ofString "weights", L + 1 + 1), (Str.ofString "rows", L + 1)] := by
  revert L; exact fun L => by kernel_rfl
theorem lt_ne3 {b L : Nat} (h : b < L) : b ≠ L ∧ b ≠ L + 1 + 1 ∧ b ≠ L + 1 := by lia
theorem four_nodup {L : Nat} (h : 89 < L) : [89, L, L + 1 + 1, L + 1].Nodup := by
  simp only [List.nodup_cons, List.mem_cons, List.not_mem_nil, or_false, not_or, not_false_eq_true, List.nodup_nil, and_true]
  lia
theorem law_ends {prog : Program} {w : World} {mg mb : Str → Option Value} {p : Program} {loose : List Str} {mean : ExcName → Option Value} {s₁ : Shared} {h₁ : Heap} {tk : Nat} {ns : List Int} {vs : List Value} {a fa : Addr} {cdv : Value}
    {m cm : Str → Option Value} {cells news : List (Addr × Obj)}
    (X : (hd.heap_1 w.params).In (hideAll s₁.heap [89])) (T : Top p loose mean mg mb (hideAll s₁.heap [89])) (hc : CodeHd (hideAll s₁.heap [89]) 91 89)
    (hI : IntsAre vs ns) (hL : (hideAll s₁.heap [89]).IsList a vs.toArray) (hlen : ns.length ≤ 63)
    (F : Fr (hideAll s₁.heap [89]) s₁.heap.objs.size h₁ m) (hm : m (Str.ofString "script") = some (.ref a))
    (Y : CellsAre cm (cellsFrom (s₁.heap.objs.size + 1) (scopeAt 29).names []) cells) (N : News (hideAll s₁.heap [89]) s₁.heap.objs.size h₁ news) (hN1 : ∀ q ∈ cells, q ∈ news) (hN2 : (89, tabObj #[]) ∈ news) (h89 : 89 < s₁.heap.objs.size) :
    wpAny (model prog w) (callerA.deeper (actF (Str.ofString "law") fa (scopeAt 29) cdv s₁.heap.objs.size (hideAll s₁.heap [89]) [] { s₁ with heap := h₁, toks := tk } []).env) (execs (bodyAt 29) (actF (Str.ofString "law") fa (scopeAt 29) cdv s₁.heap.objs.size (hideAll s₁.heap [89]) [] { s₁ with heap := h₁, toks := tk } []).env)
      (fun f s' => f = .ret (.bool true) ∧ (∀ b o, (hideAll s₁.heap [89]).get? b = some o → s'.heap.get? b = some o) ∧ (∃ ps, s'.heap.get? 89 = some (tabObj ps)) ∧ s'.os = s₁.os ∧ s'.gens = s₁.gens) NoE { s₁ with heap := h₁, toks := tk } := by
  let W : Wd := ⟨prog, w, hd.heap_1 w.params, mg, mb, p, loose, mean⟩
  have hW : IsW W := ⟨rfl⟩
  generalize hLe : s₁.heap.objs.size = L at *
  let s : Shared := { s₁ with heap := h₁, toks := tk }
  let C := actF (Str.ofString "law") fa (scopeAt 29) cdv L (hideAll s₁.heap [89]) [] s []
  have eown : C.own = [L, L + 1 + 1, L + 1] := by
    show L :: ((cellsFrom (L + 1) (scopeAt 29).names []).map (·.2) ++ []) = _
    rw [law_cells]; rfl
  have ecell : C.env.cells = [(Str.ofString "weights", L + 1 + 1), (Str.ofString "rows", L + 1)] := law_cells L
  have st : W.Stat (hideAll s₁.heap [89]) := ⟨X, T, hc⟩
  have hC : ActOk W C := {
    loc := by rw [eown]; exact .head _
    kind := rfl
    glob := rfl
    blt := rfl
    lex := fun a h => by cases h
    stat := st
    inj := fun x y c h1 h2 _ _ => by
      rw [ecell] at h1 h2
      have m1 := mem_of_lookup h1
      have m2 := mem_of_lookup h2
      simp only [List.mem_cons, List.not_mem_nil, or_false, Prod.mk.injEq] at m1 m2
      rcases m1 with ⟨rfl, rfl⟩ | ⟨rfl, rfl⟩ <;> rcases m2 with ⟨rfl, q⟩ | ⟨rfl, q⟩
      · rfl
      · exact absurd (show (L : Nat) + 1 + 1 = L + 1 from q) (by lia)
      · exact absurd (show (L : Nat) + 1 = L + 1 + 1 from q) (by lia)
      · rfl }
  have ehid : hid C [] = [89, L, L + 1 + 1, L + 1] := by show 89 :: (C.own ++ []) = _; rw [eown]; rfl
  have keep : ∀ b o, (hideAll s₁.heap [89]).get? b = some o → h₁.get? b = some o := F.keep
  have old : ∀ b o, (hideAll s₁.heap [89]).get? b = some o → b ∉ hid C [] := fun b o e => by
    have h1 := hide_out e
    have h2 : (b : Nat) < L := by rw [← hLe]; exact Heap.lt_size (of_hideAll _ e)
    rw [ehid]
    intro q
    simp only [List.mem_cons, List.not_mem_nil, or_false] at h1 q
    rcases q with q | q | q | q
    · exact h1 q
    · exact (lt_ne3 h2).1 q
    · exact (lt_ne3 h2).2.1 q
    · exact (lt_ne3 h2).2.2 q
  have H : Hold C ⟨[(Str.ofString "script", .dat (.list (ns.map .int)))], []⟩ h₁ := {
    keep := fun b o e => hideAll_get _ (keep b o e) (old b o e)
    nodup := by
      show (hid C []).Nodup
      rw [ehid]
      exact four_nodup (by exact h89)
    tab := ⟨#[], (N _ hN2).1, trivial, fun pos cv e => by cases e⟩
    ns := by
      refine ⟨m, F.ns, fun x v e1 e2 => ?_⟩
      have := mem_of_lookup e1
      simp only [List.mem_singleton, Prod.mk.injEq] at this
      obtain ⟨rfl, rfl⟩ := this
      refine ⟨.ref a, hm, Rd.list (vs := vs) ?_ (rds_ints hI)⟩
      obtain ⟨o, g1, g2⟩ := hL
      refine ⟨o, hideAll_get _ (keep a o g1) fun q => ?_, g2⟩
      rcases List.mem_append.mp q with q | q
      · cases q
      · exact old a o g1 q
    cell := fun x v e1 e2 => by
      have := mem_of_lookup e1
      simp only [List.mem_singleton, Prod.mk.injEq] at this
      obtain ⟨rfl, rfl⟩ := this
      exact absurd rfl e2
    ownc := fun b hb hn => by
      have hb' : b ∈ C.env.cells.map (·.2) := by
        rw [eown] at hb
        rw [ecell]
        rcases List.mem_cons.mp hb with q | q
        · exact absurd q hn
        · simpa using q
      obtain ⟨q, hq, rfl⟩ := List.mem_map.mp hb'
      obtain ⟨o, h1, h2⟩ := cells_are Y q hq
      exact ⟨cm q.1, o, (N _ (hN1 _ h1)).1, .inl ⟨h2, hb'⟩⟩
    mus := fun q hq => by cases hq }
  have FA : FrA (callerA.deeper C.env) C [] := {
    frames := rfl
    here := rfl
    up := fun env he => by cases he
    nocell := fun b hb => by
      have e : [C.env].filterMap (·.frame) = [L] := rfl
      rw [e] at hb
      rw [ecell, List.mem_singleton.mp hb]
      intro q
      simp only [List.map_cons, List.map_nil, List.mem_cons, List.not_mem_nil, or_false] at q
      rcases q with q | q
      · exact absurd (show (L : Nat) = L + 1 + 1 from q) (by lia)
      · exact absurd (show (L : Nat) = L + 1 from q) (by lia) }
  have R : Rm 20 (callerA.deeper C.env) := ⟨Nat.le_of_ble_eq_true rfl, Nat.le_of_ble_eq_true rfl, rfl⟩
  refine wpAny_mono (law_spec hW hlen hC FA R rfl s (Sm.refl _) H) (fun fl s2 hqq => ?_) fun _ _ q => q
  obtain ⟨g, σ', hk, sm, H2, le, lf⟩ := hqq
  obtain ⟨h', t', rfl⟩ := sm
  refine ⟨?_, fun b o e => hide_le _ _ (H2.keep b o e), ?_, rfl, rfl⟩
  · cases hk with
    | ret e =>
      subst e
      cases fl with
      | ret v => rw [Rd.bool_inv lf]
      | _ => exact lf.elim
    | fall e => cases e
  · obtain ⟨ps, e, _⟩ := H2.tab
    exact ⟨ps, e⟩

end
end Mine
theorem PySem.Challenge.cw_pq0929_01_holds : PySem.Challenge.rw_pq0929_01.Holds :=
  Mine.hd (by
  k_go0
  all_goals (try k_fold)
  refine' wpAny_mono (Mine.law_ends (cells := [_, _]) ?X ?T ?hc ?hI ?hL ?hlen ?F ?hm ?Y ?N ?h1 ?h2 ?h89) ?g (fun _ _ q => q.elim)
  case X => assumption
  case T => assumption
  case hc => assumption
  case hI => assumption
  case hL => assumption
  case hlen => omega
  case F => assumption
  case hm => rfl
  case Y => assumption
  case N => assumption
  case h1 => (intro q hq; simp only [List.mem_cons, List.not_mem_nil, or_false] at hq ⊢; rcases hq with rfl | rfl <;> simp)
  case h2 => simp
  case h89 => assumption
  case g =>
    rintro f s' ⟨rfl, hk, hg, ho, hgen⟩
    refine ⟨⟨.inl ⟨.bool true, .bool true, [], rfl, ?_, .bool true, ?_, ?_⟩, hk, ho, ?_⟩, hg, trivial⟩
    · exact fun _ => rfl
    · exact postW_of rfl (w_eq_bool (w_res rfl) w_lit) rfl
    · exact fun _ => ⟨.nil, fun b hb => by cases hb⟩
    · exact hgen.trans (by assumption))

