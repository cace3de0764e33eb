import PyProof.Rows.All
import PyProof.ExcInit
import PyProof.InstStoreFacts
import PyProof.RaisesMany
import PyProof.ExcArgsOwn
import PyProof.ExcAttrAll.Exception
import PyProof.RulesAs
import Wide.All
import OpenK.AllK
import Wide.FinOn
import Lean
import PySem.Challenge.RW_rh0029_01
set_option maxRecDepth 100000
set_option linter.unusedVariables false
set_option Elab.async false
namespace Mine
open PySem PySem.W PyProof.Rows

/-! ## The head: the top runs once, in the kernel, by the library's own quick twins -/
noncomputable def vw : Program := view PySem.Challenge.pw_rh0029_01 [1, 3, 4, 6, 7, 8, 9, 10, 11, 12, 13, 14, 15, 17, 18, 19, 20, 21, 22, 23, 24, 25, 26, 27, 28, 30, 31, 32, 33, 34, 35, 36, 37, 39, 40, 41, 42, 43, 44, 46, 47, 48, 49]
theorem said_ok : PySem.Challenge.rw_rh0029_01.wellSaid = true := (congrFun PySem.W.Fast.te9446332074065402090 _).trans (by kernel_rfl)
theorem left_boot {p q : Program} {loose : List Str} {Xt : Shared → Bool} {α : Type} {Yf : Shared → α} {Ya : World → α} {N : Nat} {g0 : Bool}
    (e : opening p = plainProg p.main.scope.names) (hN : Nat.ble 600 N = true) (f : ∀ s, fenceModules? p s = some s)
    (h : ∀ (w : World) (os : OsState), (topFrom treeTable p w N ⟨boot_heap w.params, Array.mk [], boot_drawn, boot_toks, os⟩).map (fun s => (openSeen q loose (importedModules p.main.body) Xt g0 s, Yf s)) = some (openGood q loose, Ya w)) : LeftO p q loose Xt Yf Ya N g0 := fun w => by
  obtain ⟨⟨hp, gs, d, k, os⟩, e1, e2⟩ := Option.map_eq_some_iff.mp (boot_open e hN f w)
  obtain ⟨rfl, rfl, rfl, rfl⟩ : hp = boot_heap w.params ∧ gs = Array.mk [] ∧ d = boot_drawn ∧ k = boot_toks := by simpa using e2
  have x := h w os
  unfold openEnds
  rw [e1]
  exact x
local macro_rules | `(tactic| o_law) => `(tactic| refine holds_law said_ok fun said => ?_)
local macro_rules | `(tactic| o_head $H:term) => do
  let (hw, hc) := (Lean.mkIdent `hw, Lean.mkIdent `hc)
  `(tactic| (
    refine holds_open (q := vw) (loose := [Str.ofString "F0", Str.ofString "F1"]) (Xt := fun s => xlAt vw [] s && recOk (RowW.records PySem.Challenge.rw_rh0029_01.row.toRowW) s) (XP := XL vw []) (Yf := Hook.obs $H) (Ya := Hook.val $H) (YP := Hook.says $H) (N := 2972) (left_boot (by kernel_rfl) (by decide) (fun s => by kernel_rfl) (fun w os => by unfold topFrom; rw [PySem.W.Fast.te14082659384304107361, PySem.W.Fast.te14364793385576792824, PySem.W.Fast.te4187177175401517315]; kernel_rfl)) (Hook.of $H) (Hook.keeps $H) (fun s e => xl_of s (Bool.and_eq_true_iff.mp e).1) XL.keeps (by rfl) (by rfl) (by rfl) (fun s e => recFacts_of (Bool.and_eq_true_iff.mp e).2) (by rfl) (by first | assumption | decide +kernel) (by decide +kernel) ⟨rfl, rfl, rfl, rfl, rfl, by decide +kernel⟩ ?$hw ?$hc))
set_option maxHeartbeats 8000000 in
open_top hd for PySem.Challenge.rw_rh0029_01
end Mine
namespace Mine
open PySem PySem.Spec PySem.Calls PyProof.Rows

/-! ## Plain data and how the heap bears it -/

abbrev D := PyData

mutual
noncomputable def Rz (H : List Addr) (h : Heap) : PyData → Value → Prop
  | .none, v => v = .none
  | .bool b, v => v = .bool b
  | .int i, v => ∃ t, v = .int i t
  | .str x, v => ∃ t, v = .str x t
  | .list l, v => ∃ a vs, v = .ref a ∧ a ∉ H ∧ h.PlainList a vs ∧ RzL H h l vs.toList
  | .tuple l, v => ∃ a vs, v = .ref a ∧ a ∉ H ∧ h.IsTuple a vs ∧ RzL H h l vs.toList
  | .dict _, _ => False
noncomputable def RzL (H : List Addr) (h : Heap) : List PyData → List Value → Prop
  | [], vs => vs = []
  | d :: ds, vs => ∃ v r, vs = v :: r ∧ Rz H h d v ∧ RzL H h ds r
end

/-- what is kept: every list and tuple off H -/
noncomputable def Kp (H : List Addr) (h h' : Heap) : Prop := ∀ b o, b ∉ H → (∃ xs n, o.data = .seq xs n) → h.get? b = some o → h'.get? b = some o

theorem Kp.of_all {H : List Addr} {h h' : Heap} (k : ∀ b o, h.get? b = some o → h'.get? b = some o) : Kp H h h' := fun b o _ _ e => k b o e
theorem Kp.trans {H : List Addr} {h h' h'' : Heap} (a : Kp H h h') (b : Kp H h' h'') : Kp H h h'' := fun x o h1 h2 e => b x o h1 h2 (a x o h1 h2 e)
theorem Kp.refl {H : List Addr} {h : Heap} : Kp H h h := fun _ _ _ _ e => e
theorem Kp.sub {H H' : List Addr} {h h' : Heap} (a : Kp H h h') (hs : ∀ b ∈ H, b ∈ H') : Kp H' h h' := fun x o h1 h2 e => a x o (fun q => h1 (hs x q)) h2 e

mutual
theorem Rz.kp {H : List Addr} {h h' : Heap} (k : Kp H h h') : ∀ (d : PyData) {v : Value}, Rz H h d v → Rz H h' d v
  | .none, _, r => r
  | .bool _, _, r => r
  | .int _, _, r => r
  | .str _, _, r => r
  | .list l, _, r => by
    obtain ⟨a, vs, rfl, ha, ⟨n, ho⟩, hl⟩ := r
    exact ⟨a, vs, rfl, ha, ⟨n, k a _ ha ⟨_, _, rfl⟩ ho⟩, RzL.kp k l hl⟩
  | .tuple l, _, r => by
    obtain ⟨a, vs, rfl, ha, ⟨o, ho, hc, n, hd⟩, hl⟩ := r
    exact ⟨a, vs, rfl, ha, ⟨o, k a o ha ⟨_, _, hd⟩ ho, hc, n, hd⟩, RzL.kp k l hl⟩
  | .dict _, _, r => r
theorem RzL.kp {H : List Addr} {h h' : Heap} (k : Kp H h h') : ∀ (ds : List PyData) {vs : List Value}, RzL H h ds vs → RzL H h' ds vs
  | [], _, r => r
  | d :: ds, _, r => by
    obtain ⟨v, r', rfl, h1, h2⟩ := r
    exact ⟨v, r', rfl, Rz.kp k d h1, RzL.kp k ds h2⟩
end
theorem Rz.keeps {H : List Addr} {h h' : Heap} {d : PyData} {v : Value} (r : Rz H h d v) (k : ∀ b o, h.get? b = some o → h'.get? b = some o) : Rz H h' d v := Rz.kp (Kp.of_all k) d r
theorem RzL.keeps {H : List Addr} {h h' : Heap} {d : List PyData} {v : List Value} (r : RzL H h d v) (k : ∀ b o, h.get? b = some o → h'.get? b = some o) : RzL H h' d v := RzL.kp (Kp.of_all k) d r

mutual
/-- another set to be kept off, when the borne addresses are off it -/
theorem Rz.off {H H' : List Addr} {h : Heap} (f : ∀ a o, h.get? a = some o → a ∉ H → a ∉ H') : ∀ (d : PyData) {v : Value}, Rz H h d v → Rz H' h d v
  | .none, _, r => r
  | .bool _, _, r => r
  | .int _, _, r => r
  | .str _, _, r => r
  | .list l, _, r => by
    obtain ⟨a, vs, rfl, ha, hi, hl⟩ := r
    obtain ⟨n, ho⟩ := id hi
    exact ⟨a, vs, rfl, f a _ ho ha, hi, RzL.off f l hl⟩
  | .tuple l, _, r => by
    obtain ⟨a, vs, rfl, ha, hi, hl⟩ := r
    obtain ⟨o, ho, q⟩ := id hi
    exact ⟨a, vs, rfl, f a o ho ha, hi, RzL.off f l hl⟩
  | .dict _, _, r => r
theorem RzL.off {H H' : List Addr} {h : Heap} (f : ∀ a o, h.get? a = some o → a ∉ H → a ∉ H') : ∀ (ds : List PyData) {vs : List Value}, RzL H h ds vs → RzL H' h ds vs
  | [], _, r => r
  | d :: ds, _, r => by
    obtain ⟨v, r', rfl, h1, h2⟩ := r
    exact ⟨v, r', rfl, Rz.off f d h1, RzL.off f ds h2⟩
end

mutual
theorem Rz.reads {H : List Addr} {h : Heap} : ∀ (d : PyData) {v : Value}, Rz H h d v → ∃ as, Reads h v d as
  | .none, _, r => by cases r; exact ⟨_, .none⟩
  | .bool _, _, r => by cases r; exact ⟨_, .bool _⟩
  | .int _, _, r => by obtain ⟨t, rfl⟩ := r; exact ⟨_, .int _ t⟩
  | .str _, _, r => by obtain ⟨t, rfl⟩ := r; exact ⟨_, .str _ t⟩
  | .list l, _, r => by
    obtain ⟨a, vs, rfl, _, ⟨n, ho⟩, hl⟩ := r
    obtain ⟨as, q⟩ := RzL.reads l hl
    exact ⟨_, .list ho rfl rfl q⟩
  | .tuple l, _, r => by
    obtain ⟨a, vs, rfl, _, ⟨o, ho, hc, n, hd⟩, hl⟩ := r
    obtain ⟨as, q⟩ := RzL.reads l hl
    exact ⟨_, .tuple ho hc hd q⟩
  | .dict _, _, r => r.elim
theorem RzL.reads {H : List Addr} {h : Heap} : ∀ (ds : List PyData) {vs : List Value}, RzL H h ds vs → ∃ as, ReadsAll h vs ds as
  | [], _, r => by cases r; exact ⟨_, .nil⟩
  | d :: ds, _, r => by
    obtain ⟨v, r', rfl, h1, h2⟩ := r
    obtain ⟨as, q⟩ := Rz.reads d h1
    obtain ⟨bs, p⟩ := RzL.reads ds h2
    exact ⟨_, .cons q p⟩
end

section
variable {H : List Addr} {h : Heap}
theorem RzL.len : ∀ {ds : List PyData} {vs : List Value}, RzL H h ds vs → vs.length = ds.length
  | [], _, r => by cases r; rfl
  | _ :: ds, _, r => by
    obtain ⟨v, r', rfl, _, h2⟩ := r
    rw [List.length_cons, List.length_cons, RzL.len h2]
theorem RzL.get : ∀ {ds : List PyData} {vs : List Value} {i : Nat} {d : PyData}, RzL H h ds vs → ds[i]? = some d → ∃ v, vs[i]? = some v ∧ Rz H h d v
  | [], _, i, _, _, e => by simp at e
  | _ :: ds, _, 0, _, r, e => by
    obtain ⟨v, r', rfl, h1, _⟩ := r
    simp at e; subst e
    exact ⟨v, by simp, h1⟩
  | _ :: ds, _, i + 1, _, r, e => by
    obtain ⟨v, r', rfl, _, h2⟩ := r
    simp at e
    obtain ⟨v', h3, h4⟩ := RzL.get h2 e
    exact ⟨v', by simpa using h3, h4⟩
theorem RzL.app : ∀ {ds es : List PyData} {vs ws : List Value}, RzL H h ds vs → RzL H h es ws → RzL H h (ds ++ es) (vs ++ ws)
  | [], _, _, _, r, q => by cases r; exact q
  | _ :: ds, _, _, _, r, q => by
    obtain ⟨v, r', rfl, h1, h2⟩ := r
    exact ⟨v, _, rfl, h1, RzL.app h2 q⟩
theorem RzL.take : ∀ {ds : List PyData} {vs : List Value} (n : Nat), RzL H h ds vs → RzL H h (ds.take n) (vs.take n)
  | _, _, 0, _ => by simp [RzL]
  | [], _, _ + 1, r => by cases r; simp [RzL]
  | _ :: ds, _, n + 1, r => by
    obtain ⟨v, r', rfl, h1, h2⟩ := r
    exact ⟨v, _, rfl, h1, RzL.take n h2⟩
theorem RzL.set : ∀ {ds : List PyData} {vs : List Value} (n : Nat) {d : PyData} {v : Value}, RzL H h ds vs → Rz H h d v → RzL H h (ds.set n d) (vs.set n v)
  | [], _, _, _, _, r, _ => by cases r; simp [RzL]
  | _ :: ds, _, 0, _, _, r, q => by
    obtain ⟨v, r', rfl, h1, h2⟩ := r
    exact ⟨_, _, rfl, q, h2⟩
  | _ :: ds, _, n + 1, _, _, r, q => by
    obtain ⟨v, r', rfl, h1, h2⟩ := r
    exact ⟨_, _, rfl, h1, RzL.set n h2 q⟩
theorem RzL.rep {ds : List PyData} {vs : List Value} (r : RzL H h ds vs) : ∀ n : Nat, RzL H h (List.replicate n ds).flatten (List.replicate n vs).flatten
  | 0 => by simp [RzL]
  | n + 1 => by
    rw [List.replicate_succ, List.replicate_succ, List.flatten_cons, List.flatten_cons]
    exact RzL.app r (RzL.rep r n)
end

/-! ## What stands below -/

structure Cx where
  prog : Program
  w : World
  h0 : Heap
  mg : Str → Option Value
  mb : Str → Option Value
abbrev Cx.M (C : Cx) : Model := model C.prog C.w

/-- a def of the program, as the heap bears it -/
structure Fi where
  addr : Addr
  name : Str
  fd : FuncData
  body : List Stmt

structure Bas (C : Cx) (ft : Nat → Option Fi) (gd : Str → Option PyData) : Prop where
  g : C.h0.Ns mainGlobals C.mg
  b : C.h0.Ns builtinsNs C.mb
  bb : ∀ x : Str, x ≠ "__name__" → C.mb x = bootBuiltins x
  lim : C.h0.NoLimit
  fn : ∀ f i, ft f = some i → C.mg i.name = some (.ref i.addr) ∧ (∃ o, C.h0.get? i.addr = some o ∧ o.data = .func i.fd) ∧ C.h0.CodeRec i.fd.code i.fd.qualname
  dat : ∀ x d, gd x = some d → ∃ v, C.mg x = some v ∧ Rz [] C.h0 d v

structure St (C : Cx) (H : List Addr) (s : Shared) : Prop where
  old : ∀ b o, C.h0.get? b = some o → s.heap.get? b = some o
  hid : ∀ b ∈ H, C.h0.get? b = none
  inn : ∀ b ∈ H, ∃ o, s.heap.get? b = some o

theorem Ks.refl (s : Shared) : Keeps s s := ⟨s.heap, s.toks, rfl, fun _ _ e => e⟩
theorem Ks.trans {s s' s'' : Shared} (a : Keeps s s') (b : Keeps s' s'') : Keeps s s'' := by
  obtain ⟨h, tk, rfl, k⟩ := a
  obtain ⟨h', tk', rfl, k'⟩ := b
  exact ⟨h', tk', rfl, fun b o e => k' b o (k b o e)⟩
theorem Ks.heap {s s' : Shared} (a : Keeps s s') : ∀ b o, s.heap.get? b = some o → s'.heap.get? b = some o := by
  obtain ⟨h, tk, rfl, k⟩ := a
  exact k
theorem Ks.tok (s : Shared) (tk : Nat) : Keeps s { s with toks := tk } := ⟨s.heap, tk, rfl, fun _ _ e => e⟩
theorem Ks.push (s : Shared) (o : Obj) (tk : Nat) : Keeps s { s with heap := s.heap.push o, toks := tk } := ⟨_, tk, rfl, fun _ _ e => Heap.get?_push_of_some _ e⟩
theorem St.keeps {C : Cx} {H : List Addr} {s s' : Shared} (S : St C H s) (k : Keeps s s') : St C H s' :=
  ⟨fun b o e => Ks.heap k b o (S.old b o e), S.hid, fun b hb => let ⟨o, e⟩ := S.inn b hb; ⟨o, Ks.heap k b o e⟩⟩
theorem St.size {C : Cx} {H : List Addr} {s : Shared} (S : St C H s) : s.heap.objs.size ∉ H := fun hm => by
  obtain ⟨o, e⟩ := S.inn _ hm
  exact Nat.lt_irrefl _ (Heap.lt_size e)

/-- a tree of a value gives this datum, and keeps the heap -/
noncomputable def Gv (C : Cx) (A : Around) (H : List Addr) (t : Sem Value) (d : PyData) (s : Shared) : Prop :=
  ∀ E, wpAny C.M A t (fun v s' => Keeps s s' ∧ Rz H s'.heap d v) E s
noncomputable def GvL (C : Cx) (A : Around) (H : List Addr) (t : Sem (List Value)) (ds : List PyData) (s : Shared) : Prop :=
  ∀ E, wpAny C.M A t (fun vs s' => Keeps s s' ∧ RzL H s'.heap ds vs) E s
noncomputable def Gb (C : Cx) (A : Around) (t : Sem Bool) (b : Bool) (s : Shared) : Prop :=
  ∀ E, wpAny C.M A t (fun c s' => c = b ∧ Keeps s s') E s

section
variable {C : Cx} {A : Around} {H : List Addr} {s s' : Shared} {E : Value → Shared → Prop} {d : PyData}
theorem Gv.use {t : Sem Value} {Q : Value → Shared → Prop} (g : Gv C A H t d s) (h : ∀ v s', Keeps s s' → Rz H s'.heap d v → Q v s') : wpAny C.M A t Q E s :=
  wpAny_mono (g E) (fun v s' q => h v s' q.1 q.2) fun _ _ x => x
theorem GvL.use {t : Sem (List Value)} {ds : List PyData} {Q : List Value → Shared → Prop} (g : GvL C A H t ds s) (h : ∀ v s', Keeps s s' → RzL H s'.heap ds v → Q v s') : wpAny C.M A t Q E s :=
  wpAny_mono (g E) (fun v s' q => h v s' q.1 q.2) fun _ _ x => x
theorem Gb.use {t : Sem Bool} {b : Bool} {Q : Bool → Shared → Prop} (g : Gb C A t b s) (h : ∀ s', Keeps s s' → Q b s') : wpAny C.M A t Q E s :=
  wpAny_mono (g E) (fun v s' q => by obtain ⟨rfl, k⟩ := q; exact h s' k) fun _ _ x => x
end

/-- the room left: frames and C units -/
structure Room (A : Around) (n : Nat) : Prop where
  h : A.handled = none
  d : A.depth + n < recursionLimit
  u : A.units + 8 * n + 200 < cLine
theorem Room.less {A : Around} {n m : Nat} (R : Room A n) (h : m ≤ n) : Room A m := ⟨R.h, by have := R.d; omega, by have := R.u; omega⟩
theorem Room.deeper {A : Around} {n : Nat} {env : Env} (R : Room A (n + 1)) : Room (A.deeper env) n :=
  ⟨R.h, by have := R.d; rw [depth_deeper]; omega, by have := R.u; show A.units + 3 + 8 * n + 200 < cLine; omega⟩

/-- a name that the frame or a cell holds -/
noncomputable def Held (env : Env) (h : Heap) (x : Str) (v : Value) : Prop :=
  (env.kindOf x = some .local ∧ ∃ m, h.Ns env.locals m ∧ m x = some v) ∨ (env.kindOf x = some .cell ∧ ∃ c, env.cells.lookup x = some c ∧ h.IsCell c (some v))
theorem Held.keeps {env : Env} {h h' : Heap} {x : Str} {v : Value} (q : Held env h x v) (k : ∀ b o, h.get? b = some o → h'.get? b = some o) : Held env h' x v :=
  q.elim (fun ⟨a, m, b, c⟩ => .inl ⟨a, m, b.keeps k, c⟩) fun ⟨a, m, b, c⟩ => .inr ⟨a, m, b, c.keeps k⟩

abbrev Rho := List (Nat × PyData)
noncomputable def Rho.get : Rho → Nat → Option PyData
  | [], _ => none
  | p :: r, x => match Nat.beq p.1 x with
    | true => some p.2
    | false => Rho.get r x
noncomputable def Rho.put : Rho → Nat → PyData → Rho
  | [], x, d => [(x, d)]
  | p :: r, x, d => match Nat.beq p.1 x with
    | true => (x, d) :: r
    | false => p :: Rho.put r x d
theorem beq_of {a b : Nat} : Nat.beq a b = decide (a = b) := by
  cases h : Nat.beq a b
  · exact (decide_eq_false (Nat.ne_of_beq_eq_false h)).symm
  · exact (decide_eq_true (Nat.eq_of_beq_eq_true h)).symm
theorem Rho.get_put (r : Rho) (x : Nat) (d : PyData) (y : Nat) : (r.put x d).get y = if x = y then some d else r.get y := by
  induction r with
  | nil => simp only [Rho.put, Rho.get, beq_of]; by_cases h : x = y <;> simp [h]
  | cons p r ih =>
    unfold Rho.put
    rw [beq_of]
    by_cases h : p.1 = x
    · simp only [h, decide_true, Rho.get, beq_of]
      by_cases q : x = y <;> simp [q]
    · simp only [h, decide_false, Rho.get, beq_of]
      by_cases q : p.1 = y
      · have : x ≠ y := fun e => h (q.trans e.symm)
        simp [q, this]
      · simp [q, ih]

noncomputable def Rho.del : Rho → Nat → Rho
  | [], _ => []
  | p :: r, x => match Nat.beq p.1 x with
    | true => Rho.del r x
    | false => p :: Rho.del r x
theorem Rho.get_del (r : Rho) (x : Nat) (y : Nat) : (r.del x).get y = if x = y then none else r.get y := by
  induction r with
  | nil => simp [Rho.del, Rho.get]
  | cons p r ih =>
    unfold Rho.del
    rw [beq_of]
    by_cases h : p.1 = x
    · simp only [h, decide_true, ih, Rho.get, beq_of]
      by_cases q : x = y <;> simp [q]
    · simp only [h, decide_false, Rho.get, beq_of, ih]
      by_cases q : p.1 = y
      · have : x ≠ y := fun e => h (q.trans e.symm)
        simp [q, this]
      · simp [q]

/-- the scope's names: those with a number, and the kinds -/
structure Sc where
  nms : List Str
  names : List (Str × NameKind)

structure EnvS (z : Sc) (env : Env) : Prop where
  fn : env.scope.kind = .function
  gl : env.globals = mainGlobals
  bi : env.builtins = builtinsNs
  glob : ∀ x, z.names.lookup x = some .globalImplicit → env.kindOf x = some .globalImplicit

noncomputable def EnvR (z : Sc) (env : Env) (H : List Addr) (ρ : Rho) (h : Heap) : Prop :=
  ∀ i d, ρ.get i = some d → ∃ x v, z.nms[i]? = some x ∧ Held env h x v ∧ Rz H h d v
theorem EnvR.keeps {z : Sc} {env : Env} {H : List Addr} {ρ : Rho} {h h' : Heap} (q : EnvR z env H ρ h) (k : ∀ b o, h.get? b = some o → h'.get? b = some o) : EnvR z env H ρ h' :=
  fun i d e => let ⟨x, v, n, a, b⟩ := q i d e; ⟨x, v, n, a.keeps k, b.keeps k⟩

end Mine
namespace Mine
open PySem PySem.Spec PySem.Calls PyProof.Rows

/-- the ints' operators -/
inductive Bop | add | sub | mul | fdiv | fmod | pow
noncomputable def Bop.py : Bop → Operator
  | .add => .Add | .sub => .Sub | .mul => .Mult | .fdiv => .FloorDiv | .fmod => .Mod | .pow => .Pow
/-- a power by the kernel's own numbers -/
noncomputable def zpow (a : Int) (n : Nat) : Int := match a with
  | .ofNat m => .ofNat (m ^ n)
  | .negSucc m => match n % 2 with
    | 0 => .ofNat ((m + 1) ^ n)
    | _ => Int.negOfNat ((m + 1) ^ n)
theorem zpow_eq (a : Int) (n : Nat) : zpow a n = a ^ n := by
  cases a with
  | ofNat m => exact Int.natCast_pow m n
  | negSucc m =>
    have key : ∀ n : Nat, Int.negSucc m ^ n = if n % 2 = 0 then (((m + 1) ^ n : Nat) : Int) else -(((m + 1) ^ n : Nat) : Int) := by
      intro n
      induction n with
      | zero => simp
      | succ n ih =>
        rw [Int.pow_succ, ih, show Int.negSucc m = -((m + 1 : Nat) : Int) from rfl]
        by_cases h : n % 2 = 0
        · have h' : ¬ ((n + 1) % 2 = 0) := by omega
          rw [if_pos h, if_neg h', Int.mul_neg, ← Int.natCast_mul, ← Nat.pow_succ]
        · have h' : (n + 1) % 2 = 0 := by omega
          rw [if_neg h, if_pos h', Int.neg_mul_neg, ← Int.natCast_mul, ← Nat.pow_succ]
    rw [key]
    unfold zpow
    by_cases h : n % 2 = 0
    · rw [if_pos h]; simp only [h]; rfl
    · have h1 : n % 2 = 1 := by omega
      rw [if_neg h]; simp only [h1]
      rw [Int.negOfNat_eq]; rfl

noncomputable def small (a : Int) : Bool := Nat.ble (Nat.log2 a.natAbs) 62
theorem small_bits {a : Int} (h : small a = true) : Builtin.Int.intBits a ≤ 64 := by
  have := Nat.le_of_ble_eq_true h
  unfold Builtin.Int.intBits
  split <;> omega
noncomputable def bop (o : Bop) (a b : Int) : Option Int := match o with
  | .add => some (a + b)
  | .sub => some (a - b)
  | .mul => if small a || small b then some (a * b) else none
  | .fdiv => if b == 0 then none else if Nat.ble (Nat.log2 b.natAbs) 8000 then some (a.fdiv b) else none
  | .fmod => if b == 0 then none else some (a.fmod b)
  | .pow => match b with
    | .negSucc _ => none
    | .ofNat n =>
      if n == 0 then some 1 else
      if a == 0 || a == 1 then some a else
      if a == -1 then some (if n % 2 == 0 then 1 else -1) else
      if Nat.ble (Builtin.Int.intBits a * n) 10000000 then some (zpow a n) else none
noncomputable def dbop (o : Bop) (a b : PyData) : Option PyData := match a, b with
  | .int x, .int y => (bop o x y).map .int
  | .list xs, .list ys => match o with
    | .add => if Nat.ble (xs.length + ys.length) 5000 then some (.list (xs ++ ys)) else none
    | _ => none
  | .list xs, .int n => match o with
    | .mul => match n with
      | .ofNat k => if Nat.ble (xs.length * k) 5000 && Nat.ble k 5000 then some (.list (List.replicate k xs).flatten) else none
      | .negSucc _ => none
    | _ => none
  | _, _ => none

section
variable {C : Cx} {A : Around} {H : List Addr} {s : Shared} {env : Env}

/-! ## Expressions, one rule a construct -/

theorem gv_name {x : Str} {pos : Pos} {v : Value} {d : PyData} (hf : env.scope.kind = .function) (h : Held env s.heap x v) (r : Rz H s.heap d v) (hd : (x == ("__debug__" : Str)) = false) : Gv C A H (eval (.Name x pos) env) d s := by
  intro E
  rcases h with ⟨hk, m, hn, hv⟩ | ⟨hk, c, hc, hi⟩
  · exact wpAny_Name (wpAny_loadName_local hf hk hn hv ⟨Ks.refl s, r⟩) hd
  · exact wpAny_Name (wpAny_loadName_cell hf hk hc hi ⟨Ks.refl s, r⟩) hd

theorem gv_none {k pos} : Gv C A H (eval (.Constant .none k pos) env) .none s := fun _ => wpAny_Constant_none ⟨Ks.refl s, rfl⟩
theorem gv_bool {b k pos} : Gv C A H (eval (.Constant (.bool b) k pos) env) (.bool b) s := fun _ => wpAny_Constant_bool ⟨Ks.refl s, rfl⟩
theorem gv_int {i k pos} : Gv C A H (eval (.Constant (.int i) k pos) env) (.int i) s := fun _ => wpAny_Constant_int ⟨Ks.tok s _, _, rfl⟩
theorem gv_str {x k pos} : Gv C A H (eval (.Constant (.str x) k pos) env) (.str x) s := fun _ => wpAny_Constant_str ⟨Ks.tok s _, _, rfl⟩
theorem gv_neg {e : Expr} {pos : Pos} {i : Int} (h : Gv C A H (eval e env) (.int i) s) : Gv C A H (eval (.UnaryOp .USub e pos) env) (.int (-i)) s := fun E =>
  wpAny_UnaryOp (h.use fun v s' k r => by
    obtain ⟨t, rfl⟩ := r
    exact P.neg_int ⟨Ks.trans k (Ks.tok s' _), _, rfl⟩)

theorem g_bop {o : Bop} {a b c : Int} {t u : Tok} (h : bop o a b = some c) : Gv C A H (binaryOp o.py (.int a t) (.int b u)) (.int c) s := fun E => by
  have done : ∀ z, (Keeps s { s with toks := s.toks + 1 } ∧ Rz H { s with toks := s.toks + 1 }.heap (.int z) (.int z s.toks)) := fun z => ⟨Ks.tok s _, _, rfl⟩
  cases o with
  | add => cases h; exact add_int (done _)
  | sub => cases h; exact sub_int (done _)
  | mul =>
    simp only [bop] at h
    split at h
    · rename_i hs
      cases h
      refine mul_int (done _) ?_
      rcases Bool.or_eq_true_iff.mp hs with q | q
      · exact IntMulOk.of_left (small_bits q)
      · exact IntMulOk.of_right (small_bits q)
    · cases h
  | fdiv =>
    simp only [bop] at h
    split at h
    · cases h
    · rename_i h0
      split at h
      · rename_i h1
        cases h
        exact AutoIntOps.floordiv_1 h0 (by rw [PyProof.noPylong_of_log2 (by have := Nat.le_of_ble_eq_true h1; omega)]; decide) (done _)
      · cases h
  | fmod =>
    simp only [bop] at h
    split at h
    · cases h
    · rename_i h0
      cases h
      exact AutoIntOps.mod_1 h0 (done _)
  | pow =>
    cases b with
    | negSucc n => cases h
    | ofNat n =>
      simp only [bop] at h
      have hb : (Int.ofNat n) ≥ 0 := Int.natCast_nonneg n
      split at h
      · rename_i h0
        cases h
        exact AutoIntOps.pow_0 hb (by have := beq_iff_eq.mp h0; subst this; rfl) (done _)
      · rename_i h0
        have hb0 : ¬ (Int.ofNat n == 0) = true := fun e => h0 (by
          have e' : (Int.ofNat n) = 0 := beq_iff_eq.mp e
          have e2 : n = 0 := by exact Int.ofNat.inj e'
          rw [e2]; rfl)
        split at h
        · rename_i h1
          cases h
          exact AutoIntOps.pow_1 hb hb0 h1 (done _)
        · rename_i h1
          split at h
          · rename_i h2
            cases h
            refine AutoIntOps.pow_2 hb hb0 h1 h2 ?_
            have e : ((Int.ofNat n % 2 == 0) = true) = ((n % 2 == 0) = true) := by
              have : (Int.ofNat n % 2) = ((n % 2 : Nat) : Int) := rfl
              rw [this]
              simp only [beq_iff_eq, eq_iff_iff]
              omega
            rw [show (if (Int.ofNat n % 2 == 0) = true then (1 : Int) else -1) = (if (n % 2 == 0) = true then 1 else -1) from by simp only [e]]
            exact done _
          · rename_i h2
            split at h
            · rename_i h3
              cases h
              refine AutoIntOps.pow_4 hb hb0 h1 h2 ?_ ?_
              · unfold Builtin.Int.intTooBig
                have := Nat.le_of_ble_eq_true h3
                have e : ((Builtin.Int.intBits a : Nat) : Int) * Int.ofNat n = ((Builtin.Int.intBits a * n : Nat) : Int) := (Int.natCast_mul ..).symm
                rw [e]
                intro q
                have q' := of_decide_eq_true q
                have : bitsLine = 134217728 := by decide +kernel
                omega
              · rw [zpow_eq]
                exact done _
            · cases h

theorem arr_list {α : Type} (a : Array α) : a = a.toList.toArray := by simp
theorem size_line : sizeLine = 16777216 := by decide +kernel

theorem g_add_list {l b : Addr} {xs ys : List PyData} {va vb : Array Value} (hl : s.heap.IsList l va) (hb : s.heap.IsList b vb) (ra : RzL H s.heap xs va.toList) (rb : RzL H s.heap ys vb.toList)
    (hz : xs.length + ys.length ≤ 5000) (S : St C H s) : Gv C A H (binaryOp .Add (.ref l) (.ref b)) (.list (xs ++ ys)) s := fun E => by
  have la := RzL.len ra
  have lb := RzL.len rb
  obtain ⟨⟨cls, dd, data, sl⟩, ho, hc, n, hd⟩ := id hl
  obtain ⟨⟨cls2, dd2, data2, sl2⟩, ho2, hc2, n2, hd2⟩ := id hb
  simp only at hc hd hc2 hd2
  subst hc hd hc2 hd2
  have hsz : va.size + vb.size ≤ sizeLine := by
    rw [size_line]
    have e1 : va.toList.length = va.size := by simp
    have e2 : vb.toList.length = vb.size := by simp
    omega
  refine concat_meets ⟨_, ho, rfl⟩ ⟨_, ho2, rfl⟩ noFill_list_add seq_list_add PySem.F.slot_list_add PySem.F.entry_list_add (PySem.F.args_list_add_2 _ _) (list_addW l b va vb n n2 dd dd2 sl sl2 hsz) ⟨ho, ho2, ?_⟩
  refine ⟨Ks.push s _ _, _, va ++ vb, rfl, S.size, ⟨_, Heap.get?_push_size _ rfl⟩, ?_⟩
  rw [Array.toList_append]
  exact (RzL.app ra rb).keeps fun _ _ e => Heap.get?_push_of_some _ e

theorem g_mul_list {l : Addr} {xs : List PyData} {va : Array Value} {x : Int} {u : Tok} (hl : s.heap.IsList l va) (ra : RzL H s.heap xs va.toList)
    (h0 : 0 ≤ x) (hz : va.size * x.toNat ≤ 5000) (hk : x ≤ 5000) (S : St C H s) : Gv C A H (binaryOp .Mult (.ref l) (.int x u)) (.list (List.replicate x.toNat xs).flatten) s := fun E => by
  obtain ⟨⟨cls, dd, data, sl⟩, ho, hc, n, hd⟩ := id hl
  simp only at hc hd
  subst hc hd
  have hsz' : va.size * x.toNat ≤ 2 ^ 24 := by omega
  have h63 : x < 2 ^ 63 := by omega
  refine wpAny_binaryOp_repeat_ref (T := "list") (U := "int") (by decide) ⟨_, ho, rfl⟩ (fun s' => typeIs_int s' x u) noFill_list_mul F.fills_int_mul F.slot_int_rmul repeat_list F.slot_int_index.lookup
    (call_meets F.slot_int_rmul (typeIs_int s x u) F.entry_int_rmul (F.args_int_rmul_2 _ _) (lm_int_rmul_list_any x u l va n dd sl)
      ⟨ho, rfl, ⟨_, ho, rfl⟩, call_meets F.slot_list_mul ⟨_, ho, rfl⟩ F.entry_list_mul (F.args_list_mul_2 _ _)
        (lm_list_mul_any l va n dd sl x u (by simp [Builtin.List.listFitsIndex]; omega) (by omega) (by simp [Builtin.List.listTooLong, sizeLine]; omega))
        ⟨ho, ?_⟩⟩)
  refine ⟨Ks.push s _ _, _, _, rfl, S.size, ⟨_, Heap.get?_push_size _ rfl⟩, ?_⟩
  rw [listMul_foldl_if]
  exact (RzL.rep ra _).keeps fun _ _ e => Heap.get?_push_of_some _ e

theorem g_dbop {o : Bop} {a b c : PyData} {v u : Value} (h : dbop o a b = some c) (S : St C H s) (ra : Rz H s.heap a v) (rb : Rz H s.heap b u) : Gv C A H (binaryOp o.py v u) c s := by
  unfold dbop at h
  split at h
  · obtain ⟨t, rfl⟩ := ra
    obtain ⟨t', rfl⟩ := rb
    obtain ⟨z, hz, rfl⟩ := Option.map_eq_some_iff.mp h
    exact g_bop hz
  · obtain ⟨a1, vs, rfl, _, hi, hl⟩ := ra
    obtain ⟨a2, ws, rfl, _, hi2, hl2⟩ := rb
    split at h
    · split at h
      · rename_i hz
        cases h
        exact g_add_list hi.isList hi2.isList hl hl2 (Nat.le_of_ble_eq_true hz) S
      · cases h
    · cases h
  · obtain ⟨a1, vs, rfl, _, hi, hl⟩ := ra
    obtain ⟨t', rfl⟩ := rb
    split at h
    · split at h
      · split at h
        · rename_i hz
          cases h
          have q := Bool.and_eq_true_iff.mp hz
          have q1 := Nat.le_of_ble_eq_true q.1
          have q2 := Nat.le_of_ble_eq_true q.2
          have e1 : vs.toList.length = vs.size := by simp
          have e2 : vs.size = _ := e1.symm.trans (RzL.len hl)
          exact g_mul_list hi.isList hl (Int.natCast_nonneg _) (by rw [e2]; exact q1) (Int.ofNat_le.mpr q2) S
        · cases h
      · cases h
    · cases h
  · cases h

theorem gv_bin {o : Bop} {l r : Expr} {pos : Pos} {a b c : PyData} (h : dbop o a b = some c) (S : St C H s) (hl : Gv C A H (eval l env) a s) (hr : ∀ s', Keeps s s' → Gv C A H (eval r env) b s') :
    Gv C A H (eval (.BinOp l o.py r pos) env) c s := fun E =>
  wpAny_BinOp (hl.use fun v s1 k1 r1 => (hr s1 k1).use fun u s2 k2 r2 => (g_dbop h (S.keeps (Ks.trans k1 k2)) (r1.keeps (Ks.heap k2)) r2).use fun x s3 k3 r3 => ⟨Ks.trans (Ks.trans k1 k2) k3, r3⟩)
end
end Mine
namespace Mine
open PySem PySem.Spec PySem.Calls PyProof.Rows

inductive Cop | eq | ne | lt | le | gt | ge | inn
noncomputable def Cop.py : Cop → CmpOp
  | .eq => .Eq | .ne => .NotEq | .lt => .Lt | .le => .LtE | .gt => .Gt | .ge => .GtE | .inn => .In
noncomputable def deq (a b : PyData) : Option Bool := match a, b with
  | .int x, .int y => some (x == y)
  | a, b => if SeqAt.shaped a && SeqAt.shaped b then some (PyData.eqv a b) else none
noncomputable def dcmp (o : Cop) (a b : PyData) : Option Bool := match o with
  | .eq => deq a b
  | .ne => (deq a b).map (!·)
  | .inn => match b with
    | .tuple xs => if PyData.canLayAll0 xs && a.canLay0 && Nat.ble (PyData.depth a) 60 then some (xs.any fun y => PyData.eqv y a) else none
    | _ => none
  | .lt => match a, b with | .int x, .int y => some (decide (x < y)) | _, _ => none
  | .le => match a, b with | .int x, .int y => some (decide (x ≤ y)) | _, _ => none
  | .gt => match a, b with | .int x, .int y => some (decide (y < x)) | _, _ => none
  | .ge => match a, b with | .int x, .int y => some (decide (y ≤ x)) | _, _ => none

section
variable {C : Cx} {A : Around} {H : List Addr} {s : Shared} {env : Env}

theorem g_eq {a b : PyData} {c : Bool} {v u : Value} {n : Nat} (R : Room A n) (h : deq a b = some c) (ra : Rz H s.heap a v) (rb : Rz H s.heap b u) : Gv C A H (compareOp .Eq v u) (.bool c) s := fun E => by
  unfold deq at h
  split at h
  · obtain ⟨t, rfl⟩ := ra
    obtain ⟨t', rfl⟩ := rb
    cases h
    exact eq_int ⟨Ks.refl s, rfl⟩
  · split at h
    · rename_i hs
      cases h
      obtain ⟨as, q⟩ := Rz.reads _ ra
      obtain ⟨bs, p⟩ := Rz.reads _ rb
      have hs' := Bool.and_eq_true_iff.mp hs
      exact eq_dataH q p hs'.1 hs'.2 (by have := R.u; omega) ⟨Ks.refl s, rfl⟩
    · cases h
theorem g_ne {a b : PyData} {c : Bool} {v u : Value} {n : Nat} (R : Room A n) (h : deq a b = some c) (ra : Rz H s.heap a v) (rb : Rz H s.heap b u) : Gv C A H (compareOp .NotEq v u) (.bool (!c)) s := fun E => by
  unfold deq at h
  split at h
  · obtain ⟨t, rfl⟩ := ra
    obtain ⟨t', rfl⟩ := rb
    cases h
    exact ne_int ⟨Ks.refl s, rfl⟩
  · split at h
    · rename_i hs
      cases h
      obtain ⟨as, q⟩ := Rz.reads _ ra
      obtain ⟨bs, p⟩ := Rz.reads _ rb
      have hs' := Bool.and_eq_true_iff.mp hs
      exact ne_dataH q p hs'.1 hs'.2 (by have := R.u; omega) ⟨Ks.refl s, rfl⟩
    · cases h
theorem g_cmp {o : Cop} {a b : PyData} {c : Bool} {v u : Value} {n : Nat} (R : Room A n) (h : dcmp o a b = some c) (ra : Rz H s.heap a v) (rb : Rz H s.heap b u) : Gv C A H (compareOp o.py v u) (.bool c) s := by
  cases o with
  | eq => exact g_eq R h ra rb
  | ne =>
    obtain ⟨z, hz, rfl⟩ := Option.map_eq_some_iff.mp h
    exact g_ne R hz ra rb
  | inn =>
    simp only [dcmp] at h
    split at h
    · split at h
      · rename_i hs
        cases h
        obtain ⟨as, q⟩ := Rz.reads _ ra
        obtain ⟨bs, p⟩ := Rz.reads _ rb
        have h1 := Bool.and_eq_true_iff.mp hs
        have h2 := Bool.and_eq_true_iff.mp h1.1
        have h3 := Nat.le_of_ble_eq_true h1.2
        exact fun E => PySem.SeqAt.in_tuple_reads p q h2.1 h2.2 (by have := R.u; omega) ⟨Ks.refl s, rfl⟩
      · cases h
    · cases h
  | lt =>
    simp only [dcmp] at h
    split at h
    · cases h
      obtain ⟨t, rfl⟩ := ra
      obtain ⟨t', rfl⟩ := rb
      exact fun E => lt_int ⟨Ks.refl s, rfl⟩
    · cases h
  | le =>
    simp only [dcmp] at h
    split at h
    · cases h
      obtain ⟨t, rfl⟩ := ra
      obtain ⟨t', rfl⟩ := rb
      exact fun E => P.le_int ⟨Ks.refl s, rfl⟩
    · cases h
  | gt =>
    simp only [dcmp] at h
    split at h
    · cases h
      obtain ⟨t, rfl⟩ := ra
      obtain ⟨t', rfl⟩ := rb
      exact fun E => gt_int ⟨Ks.refl s, rfl⟩
    · cases h
  | ge =>
    simp only [dcmp] at h
    split at h
    · cases h
      obtain ⟨t, rfl⟩ := ra
      obtain ⟨t', rfl⟩ := rb
      exact fun E => P.ge_int ⟨Ks.refl s, rfl⟩
    · cases h

theorem gv_cmp {o : Cop} {l r : Expr} {pos : Pos} {a b : PyData} {c : Bool} {n : Nat} (R : Room A n) (h : dcmp o a b = some c) (hl : Gv C A H (eval l env) a s) (hr : ∀ s', Keeps s s' → Gv C A H (eval r env) b s')
    (hm : behindInMarks o.py r = false) : Gv C A H (eval (.Compare l [o.py] [r] pos) env) (.bool c) s := fun E =>
  wpAny_Compare1 (hl.use fun v s1 k1 r1 => (hr s1 k1).use fun u s2 k2 r2 => (g_cmp R h (r1.keeps (Ks.heap k2)) r2).use fun x s3 k3 r3 => ⟨Ks.trans (Ks.trans k1 k2) k3, r3⟩) hm
theorem gb_cmp {o : Cop} {l r : Expr} {pos : Pos} {whole : Sem Value} {a b : PyData} {c : Bool} {n : Nat} (R : Room A n) (h : dcmp o a b = some c) (hl : Gv C A H (eval l env) a s) (hr : ∀ s', Keeps s s' → Gv C A H (eval r env) b s')
    (hm : behindInMarks o.py r = false) : Gb C A (isTrue (.Compare l [o.py] [r] pos) env whole) c s := fun E =>
  wpAny_isTrue_Compare1 (hl.use fun v s1 k1 r1 => (hr s1 k1).use fun u s2 k2 r2 => (g_cmp R h (r1.keeps (Ks.heap k2)) r2).use fun x s3 k3 r3 => by
    have e : x = .bool c := r3
    subst e
    exact wpAny_truthy_bool ⟨rfl, Ks.trans (Ks.trans k1 k2) k3⟩) hm

noncomputable def isNone (d : PyData) : Bool := match d with | .none => true | _ => false
theorem none_iff {d : PyData} {v : Value} {h : Heap} (r : Rz H h d v) : (v == .none) = isNone d := by
  cases d with
  | none => cases r; rfl
  | bool b => cases r; rfl
  | int i => obtain ⟨t, rfl⟩ := r; rfl
  | str x => obtain ⟨t, rfl⟩ := r; rfl
  | list l => obtain ⟨a, vs, rfl, _⟩ := r; rfl
  | tuple l => obtain ⟨a, vs, rfl, _⟩ := r; rfl
  | dict l => exact r.elim
theorem gv_isNone {e : Expr} {k : Nat} {p pos : Pos} {d : PyData} (h : Gv C A H (eval e env) d s) : Gv C A H (eval (.Compare e [.Is] [.Constant .none k p] pos) env) (.bool (isNone d)) s := fun E =>
  wpAny_Compare1 (h.use fun v s1 k1 r1 => wpAny_Constant_none (is_none ⟨k1, by rw [none_iff r1]; exact rfl⟩)) rfl
theorem gv_notNone {e : Expr} {k : Nat} {p pos : Pos} {d : PyData} (h : Gv C A H (eval e env) d s) : Gv C A H (eval (.Compare e [.IsNot] [.Constant .none k p] pos) env) (.bool (!isNone d)) s := fun E =>
  wpAny_Compare1 (h.use fun v s1 k1 r1 => wpAny_Constant_none (isNot_none ⟨k1, by rw [none_iff r1]; exact rfl⟩)) rfl
theorem gb_isNone {e : Expr} {k : Nat} {p pos : Pos} {whole : Sem Value} {d : PyData} (h : Gv C A H (eval e env) d s) : Gb C A (isTrue (.Compare e [.Is] [.Constant .none k p] pos) env whole) (isNone d) s := fun E =>
  wpAny_isTrue_Compare1 (h.use fun v s1 k1 r1 => wpAny_Constant_none (is_none (by rw [none_iff r1]; exact wpAny_truthy_bool ⟨rfl, k1⟩))) rfl
theorem gb_notNone {e : Expr} {k : Nat} {p pos : Pos} {whole : Sem Value} {d : PyData} (h : Gv C A H (eval e env) d s) : Gb C A (isTrue (.Compare e [.IsNot] [.Constant .none k p] pos) env whole) (!isNone d) s := fun E =>
  wpAny_isTrue_Compare1 (h.use fun v s1 k1 r1 => wpAny_Constant_none (isNot_none (by rw [none_iff r1]; exact wpAny_truthy_bool ⟨rfl, k1⟩))) rfl

/-! truth: bools alone are asked in this program -/
theorem gb_value {e : Expr} {b : Bool} (h : Gv C A H (eval e env) (.bool b) s) (he : ∀ whole, isTrue e env whole = (do let v ← whole; standAt e.pos; holding [v] (truthy v))) : Gb C A (isTrue e env (eval e env)) b s := fun E =>
  wpAny_isTrue_value (h.use fun v s1 k1 r1 => by
    have e : v = .bool b := r1
    subst e
    exact wpAny_truthy_bool ⟨rfl, k1⟩) (he _)

theorem gv_and2 {x y : Expr} {pos : Pos} {a : Bool} {c : PyData} (hx : Gv C A H (eval x env) (.bool a) s) (hy : a = true → ∀ s', Keeps s s' → Gv C A H (eval y env) c s') :
    Gv C A H (eval (.BoolOp .And [x, y] pos) env) (match a with | true => c | false => .bool false) s := fun E =>
  wpAny_And2 (hx.use fun v s1 k1 r1 => by
    have e : v = .bool a := r1
    subst e
    refine wpAny_truthy_bool ?_
    cases a with
    | false => exact ⟨k1, rfl⟩
    | true => exact (hy rfl s1 k1).use fun u s2 k2 r2 => ⟨Ks.trans k1 k2, r2⟩)

theorem gb_and {xs : List Expr} {pos : Pos} {whole : Sem Value} {b : Bool} (h : Gb C A (allTrue .And xs env) b s) : Gb C A (isTrue (.BoolOp .And xs pos) env whole) b s := fun E => wpAny_isTrue_BoolOp (h E)
theorem gb_or {xs : List Expr} {pos : Pos} {whole : Sem Value} {b : Bool} (h : Gb C A (allTrue .Or xs env) b s) : Gb C A (isTrue (.BoolOp .Or xs pos) env whole) b s := fun E => wpAny_isTrue_BoolOp (h E)
theorem ga_nil : Gb C A (allTrue .And [] env) true s := fun E => wpAny_allTrue_And_nil ⟨rfl, Ks.refl s⟩
theorem go_nil : Gb C A (allTrue .Or [] env) false s := fun E => wpAny_allTrue_Or_nil ⟨rfl, Ks.refl s⟩
theorem ga_cons {x : Expr} {r : List Expr} {a b : Bool} (hx : Gb C A (isTrue x env (eval x env)) a s) (hr : a = true → ∀ s', Keeps s s' → Gb C A (allTrue .And r env) b s') : Gb C A (allTrue .And (x :: r) env) (a && b) s := fun E =>
  wpAny_allTrue_And_cons (hx.use fun s1 k1 => by
    cases a with
    | false => exact ⟨rfl, k1⟩
    | true => exact (hr rfl s1 k1).use fun s2 k2 => ⟨rfl, Ks.trans k1 k2⟩)
theorem go_cons {x : Expr} {r : List Expr} {a b : Bool} (hx : Gb C A (isTrue x env (eval x env)) a s) (hr : a = false → ∀ s', Keeps s s' → Gb C A (allTrue .Or r env) b s') : Gb C A (allTrue .Or (x :: r) env) (a || b) s := fun E =>
  wpAny_allTrue_Or_cons (hx.use fun s1 k1 => by
    cases a with
    | true => exact ⟨rfl, k1⟩
    | false => exact (hr rfl s1 k1).use fun s2 k2 => ⟨rfl, Ks.trans k1 k2⟩)

theorem gv_ite {c x y : Expr} {pos : Pos} {b : Bool} {d : PyData} (hc : Gb C A (isTrue c env (eval c env)) b s) (hx : b = true → ∀ s', Keeps s s' → Gv C A H (eval x env) d s') (hy : b = false → ∀ s', Keeps s s' → Gv C A H (eval y env) d s') :
    Gv C A H (eval (.IfExp c x y pos) env) d s := fun E =>
  wpAny_IfExp (hc.use fun s1 k1 => by
    cases b with
    | true => exact (hx rfl s1 k1).use fun u s2 k2 r2 => ⟨Ks.trans k1 k2, r2⟩
    | false => exact (hy rfl s1 k1).use fun u s2 k2 r2 => ⟨Ks.trans k1 k2, r2⟩)

/-! items -/
noncomputable def didx (a i : PyData) : Option PyData := match i with
  | .int k => match a with
    | .list xs => match k with
      | .ofNat n => if Nat.ble n 100000 then xs[n]? else none
      | .negSucc n => if Nat.ble (n + 1) xs.length && Nat.ble n 100000 then xs[xs.length - (n + 1)]? else none
    | .tuple xs => match k with
      | .ofNat n => if Nat.ble n 100000 then xs[n]? else none
      | .negSucc _ => none
    | _ => none
  | _ => none

theorem Rz.get {h : Heap} {xs : List PyData} {vs : Array Value} {i : Nat} {d : PyData} (r : RzL H h xs vs.toList) (e : xs[i]? = some d) : ∃ v, vs[i]? = some v ∧ Rz H h d v := by
  obtain ⟨v, hv, rv⟩ := RzL.get r e
  exact ⟨v, by rw [← Array.getElem?_toList]; exact hv, rv⟩
theorem isTup_of {h : Heap} {a : Addr} {vs : Array Value} (x : h.IsTuple a vs) : IsTup h a vs := by
  exact x

theorem g_item {value slice : Expr} {a i d : PyData} {v u : Value} (h : didx a i = some d) (ra : Rz H s.heap a v) (ri : Rz H s.heap i u)
    (hs : ∀ t k tk, subscripted slice false (.ref t) (.int k tk) = operate [.ref t, .int k tk] (getItem (.ref t) (.int k tk))) : Gv C A H (subscriptTail value slice v u) d s := fun E => by
  unfold didx at h
  split at h
  · obtain ⟨tk, rfl⟩ := ri
    split at h
    · obtain ⟨l, vs, rfl, _, hlp, hr⟩ := ra
      have hl := hlp.isList
      have len := RzL.len hr
      have hsz : vs.toList.length = vs.size := by simp
      split at h
      · split at h
        · rename_i n hn
          have hn' := Nat.le_of_ble_eq_true hn
          obtain ⟨x, hx, rx⟩ := Rz.get hr h
          exact subscriptTail_builtinR hl.typeIs slot_list_getitem.lookup (wpAny_getItem_list hl (Int.natCast_nonneg n) (by show ((n : Nat) : Int) < _; omega) hx ⟨rfl, Ks.refl s, rx⟩) (hs _ _ _)
        · cases h
      · split at h
        · rename_i n hn
          have hn' := Bool.and_eq_true_iff.mp hn
          have hn1 := Nat.le_of_ble_eq_true hn'.1
          have hn2 := Nat.le_of_ble_eq_true hn'.2
          obtain ⟨x, hx, rx⟩ := Rz.get hr h
          refine subscriptTail_builtinR hl.typeIs slot_list_getitem.lookup (wpAny_getItem_list_neg hl (Int.negSucc_lt_zero n) ?_ ?_ (x := x) ?_ ⟨rfl, Ks.refl s, rx⟩) (hs _ _ _)
          · omega
          · omega
          · have e : (Int.negSucc n + (vs.size : Int)).toNat = vs.size - (n + 1) := by omega
            rw [e, ← hsz, len]
            exact hx
        · cases h
    · obtain ⟨l, vs, rfl, _, hl, hr⟩ := ra
      split at h
      · split at h
        · rename_i n hn
          have hn' := Nat.le_of_ble_eq_true hn
          obtain ⟨x, hx, rx⟩ := Rz.get hr h
          have hlt : n < vs.size := (Array.getElem?_eq_some_iff.mp hx).1
          exact subscriptTail_builtinR (isTup_of hl).typeIs slot_tuple_getitem.lookup (getItem_tuple (isTup_of hl) (by show _ ≤ ((n : Nat) : Int); omega) (by show ((n : Nat) : Int) < _; omega) (j := n) (seqIndex_of (Int.natCast_nonneg n) (Int.ofNat_lt.mpr hlt)) hx ⟨rfl, Ks.refl s, rx⟩) (hs _ _ _)
        · cases h
      · cases h
    · cases h
  · cases h

theorem gv_idx {value slice : Expr} {pos : Pos} {a i d : PyData} (h : didx a i = some d) (ha : Gv C A H (eval value env) a s) (hi : ∀ s', Keeps s s' → Gv C A H (eval slice env) i s')
    (hs : ∀ t k tk, subscripted slice false (.ref t) (.int k tk) = operate [.ref t, .int k tk] (getItem (.ref t) (.int k tk))) : Gv C A H (eval (.Subscript value slice pos) env) d s := fun E =>
  Subscript_ (ha.use fun v s1 k1 r1 => (hi s1 k1).use fun u s2 k2 r2 => (g_item h (r1.keeps (Ks.heap k2)) r2 hs).use fun x s3 k3 r3 => ⟨Ks.trans (Ks.trans k1 k2) k3, r3⟩)

/-! a list's beginning -/
noncomputable def dupto (a i : PyData) : Option PyData := match a, i with
  | .list xs, .int k => if Nat.ble xs.length 5000 then match k with
    | .ofNat n => some (.list (xs.take n))
    | .negSucc n => some (.list (xs.take (xs.length - (n + 1))))
    else none
  | _, _ => none
noncomputable def uptoN (n : Nat) (k : Int) : Nat := match k with
  | .ofNat m => m
  | .negSucc m => n - (m + 1)
theorem slicePick_to (items : Array Value) (k : Int) : slicePick items none (some k) none = (items.toList.take (uptoN items.size k)).toArray := by
  have key : ∀ b : Nat, sliceBounds none (some k) none items.size = (0, (b : Int), 1) → slicePick items none (some k) none = (items.toList.take b).toArray := by
    intro b e
    unfold slicePick
    rw [e]
    have := sliceRange_one 0 b
    simp only [Int.natCast_zero] at this
    simp only [this, pick_run]
    simp
  cases k with
  | ofNat n =>
    rw [key (min n items.size)]
    · have e1 : items.toList.length = items.size := by simp
      show (items.toList.take (min n items.size)).toArray = (items.toList.take n).toArray
      congr 1
      rw [← e1, List.take_eq_take_iff]
      omega
    · simp only [sliceBounds, Option.getD_none]
      have h2 : ¬ (Int.ofNat n < 0) := by have := Int.natCast_nonneg n; show ¬ ((n : Int) < 0); omega
      simp only [h2, if_false, show (1 : Int) > 0 by decide, if_true]
      congr 1
      congr 1
      show max 0 (min (n : Int) _) = _
      omega
  | negSucc n =>
    show _ = (items.toList.take (items.size - (n + 1))).toArray
    rw [key (items.size - (n + 1))]
    simp only [sliceBounds, Option.getD_none]
    have h2 : Int.negSucc n < 0 := Int.negSucc_lt_zero n
    simp only [h2, if_true, show (1 : Int) > 0 by decide]
    congr 1
    congr 1
    omega
theorem gv_uptoN {value hi : Expr} {p pos : Pos} {xs : List PyData} {k : Int} (hz : xs.length ≤ 5000) (S : St C H s) (ha : Gv C A H (eval value env) (.list xs) s) (hi' : ∀ s', Keeps s s' → Gv C A H (eval hi env) (.int k) s')
    (ht : ∀ o r, letTemporaryGo value o r = pure ()) : Gv C A H (eval (.Subscript value (.Slice none (some hi) none p) pos) env) (.list (xs.take (uptoN xs.length k))) s := fun E => by
  refine wpAny_Subscript_list_slice (ha.use fun v s1 k1 r1 => ?_) ht
  rw [evalPart_none]
  refine wpAny_pure ?_
  rw [evalPart_some]
  refine (hi' s1 k1).use fun u s2 k2 r2 => ?_
  obtain ⟨l, vs, rfl, hl1, hlp, hr⟩ := r1.keeps (Ks.heap k2)
  have hl := hlp.isList
  obtain ⟨tk, rfl⟩ := r2
  have len := RzL.len hr
  have hsz : vs.toList.length = vs.size := by simp
  have S2 := S.keeps (Ks.trans k1 k2)
  refine ⟨l, vs, none, some k, rfl, hl, by rw [size_line]; omega, .none, .int k tk, ?_⟩
  have hk : Keeps s2 { s2 with heap := (s2.heap.push { cls := .type "slice", data := .fields #[Value.none, Value.int k tk, Value.none] }).push { cls := .type "list", data := .seq (slicePick vs none (some k) none) } } :=
    ⟨_, _, rfl, fun _ _ e => Heap.get?_push_of_some _ (Heap.get?_push_of_some _ e)⟩
  refine ⟨Ks.trans (Ks.trans k1 k2) hk, ?_⟩
  have hnew : s2.heap.objs.size + 1 ∉ H := fun hm => by
    obtain ⟨o, e⟩ := S2.inn _ hm
    exact Nat.lt_irrefl _ (Nat.lt_of_succ_lt (Heap.lt_size e))
  have hget : ((s2.heap.push { cls := .type "slice", data := .fields #[Value.none, Value.int k tk, Value.none] }).push { cls := .type "list", data := .seq (slicePick vs none (some k) none) }).PlainList (s2.heap.objs.size + 1) (slicePick vs none (some k) none) := by
    have := Heap.get?_push_size (s2.heap.push { cls := .type "slice", data := .fields #[Value.none, Value.int k tk, Value.none] }) (o := { cls := .type "list", data := .seq (slicePick vs none (some k) none) }) rfl
    rw [Heap.size_push] at this
    exact ⟨_, this⟩
  refine ⟨_, _, rfl, hnew, hget, ?_⟩
  have e : uptoN vs.size k = uptoN xs.length k := by rw [← hsz, len]
  have q : (slicePick vs none (some k) none).toList = vs.toList.take (uptoN xs.length k) := by rw [slicePick_to, e, List.toList_toArray]
  have r3 := (RzL.take (uptoN xs.length k) hr).keeps (Ks.heap hk)
  rw [← q] at r3
  exact r3
theorem gv_upto {value hi : Expr} {p pos : Pos} {a i d : PyData} (h : dupto a i = some d) (S : St C H s) (ha : Gv C A H (eval value env) a s) (hi' : ∀ s', Keeps s s' → Gv C A H (eval hi env) i s')
    (ht : ∀ o r, letTemporaryGo value o r = pure ()) : Gv C A H (eval (.Subscript value (.Slice none (some hi) none p) pos) env) d s := by
  unfold dupto at h
  split at h
  · split at h
    · rename_i hz
      split at h <;> (cases h; exact gv_uptoN (Nat.le_of_ble_eq_true hz) S ha hi' ht)
    · cases h
  · cases h

/-! displays -/
theorem gl_nil {pos : Pos} : GvL C A H (spliced (backTo pos (starEach [] env))) [] s := fun E => wpAny_items_nil ⟨Ks.refl s, rfl⟩
theorem gl_cons {pos : Pos} {e : Expr} {rest : List Expr} {d : PyData} {ds : List PyData} (h : Gv C A H (eval e env) d s) (hr : ∀ s', Keeps s s' → GvL C A H (spliced (backTo pos (starEach rest env))) ds s')
    (he : starEach (e :: rest) env = (false, eval e env) :: starEach rest env) : GvL C A H (spliced (backTo pos (starEach (e :: rest) env))) (d :: ds) s := fun E =>
  wpAny_items_cons (h.use fun v s1 k1 r1 => (hr s1 k1).use fun vs s2 k2 r2 => ⟨Ks.trans k1 k2, v, vs, rfl, r1.keeps (Ks.heap k2), r2⟩) he
theorem gv_tuple {elts : List Expr} {k : Nat} {pos : Pos} {ds : List PyData} (S : St C H s) (hn : ds.length ≤ 5000) (h : GvL C A H (spliced (backTo pos (starEach elts env))) ds s) : Gv C A H (eval (.Tuple elts k pos) env) (.tuple ds) s := fun E =>
  wpAny_Tuple (h.use fun vs s1 k1 r1 => by
    refine ⟨by rw [RzL.len r1, size_line]; omega, Ks.trans k1 (Ks.push s1 _ _), _, vs.toArray, rfl, (S.keeps k1).size, ⟨_, Heap.get?_push_size _ rfl, rfl, _, rfl⟩, ?_⟩
    rw [List.toList_toArray]
    exact r1.keeps fun _ _ e => Heap.get?_push_of_some _ e)
theorem gv_list {elts : List Expr} {pos : Pos} {ds : List PyData} (S : St C H s) (hn : ds.length ≤ 5000) (h : GvL C A H (spliced (backTo pos (starEach elts env))) ds s) : Gv C A H (eval (.List elts pos) env) (.list ds) s := fun E =>
  wpAny_List (h.use fun vs s1 k1 r1 => by
    refine ⟨by rw [RzL.len r1, size_line]; omega, Ks.trans k1 (Ks.push s1 _ _), _, vs.toArray, rfl, (S.keeps k1).size, ⟨_, Heap.get?_push_size _ rfl⟩, ?_⟩
    rw [List.toList_toArray]
    exact r1.keeps fun _ _ e => Heap.get?_push_of_some _ e)
end
end Mine
namespace Mine
open PySem PySem.Spec PySem.Calls PyProof.Rows

section
variable {C : Cx} {A : Around} {H : List Addr} {s : Shared} {env : Env}

/-! ## A list built by a comprehension -/

theorem comp_loop {R : Result → Shared → Prop} {elt iter : Expr} {x : Str} {px : Pos} {scope : Scope} {pos : Pos} {I D : Addr} {fp wr : List Addr} {n : Nat} {P : Nat → Value → Prop} {Q : Nat → Heap → Prop}
    {cenv : Env} {m : Str → Option Value} (W : Walks C.prog C.w A I fp wr n P Q) (ds : List PyData) (hn : n = ds.length) (hsz : n ≤ 5000)
    (hx : cenv.kindOf x = some .local) (hp : (cenv.scope.kind == .class || (cenv.scope.kind == .module && cenv.locals != cenv.globals)) = false)
    (hDC : D ≠ cenv.locals) (hDf : D ∉ fp) (hCf : cenv.locals ∉ fp)
    (hwr : ∀ i h, Q i h → ∀ b ∈ wr, ∀ o xs k, h.get? b = some o → o.data ≠ .seq xs k)
    (hst : Q 0 s.heap) (hacc : s.heap.PlainList D #[]) (hns : s.heap.Ns cenv.locals m)
    (helt : ∀ i v s₂ m₂ d, P i v → ds[i]? = some d → s₂.heap.Ns cenv.locals m₂ → m₂ x = some v → (∀ b o, b ≠ cenv.locals → b ∉ wr → b ≠ D → s.heap.get? b = some o → s₂.heap.get? b = some o) → (∃ o, s₂.heap.get? D = some o) →
      Gv C A (D :: H) (eval elt cenv) d s₂)
    (hR : ∀ h' tk m' ys, h'.Ns cenv.locals m' → h'.PlainList D ys → RzL (D :: H) h' ds ys.toList →
      (∀ b o, b ≠ cenv.locals → b ∉ wr → b ≠ D → s.heap.get? b = some o → h'.get? b = some o) → R (.ok .next) { s with heap := h', toks := tk }) :
    codeAny C.M A (.compLoop (.ListComp elt [⟨.Name x px, iter, [], 0⟩] scope pos) 0 (.ref I) (.ref D) cenv) R s := by
  refine codeAny_compLoop_tests
    (fun k s' => ∃ h' tk m' ys j, s' = { s with heap := h', toks := tk } ∧ Q j h' ∧ h'.PlainList D ys ∧ h'.Ns cenv.locals m' ∧ RzL (D :: H) h' (ds.take j) ys.toList ∧ j ≤ n ∧ k = n + 1 - j ∧
      (∀ b o, b ≠ cenv.locals → b ∉ wr → b ≠ D → s.heap.get? b = some o → h'.get? b = some o)) ?_ (n + 1)
    ⟨s.heap, s.toks, m, #[], 0, rfl, hst, hacc, hns, by simp [RzL], Nat.zero_le _, rfl, fun _ _ _ _ _ e => e⟩
  rintro k s' ⟨G, tk, m', ys, j, rfl, hst', hacc', hn', hF, hi, rfl, hk⟩
  have hCw : cenv.locals ∉ wr := fun h => hCf (W.sub _ h)
  have hDw : D ∉ wr := fun h => hDf (W.sub _ h)
  have hys := RzL.len hF
  by_cases hlt : j < n
  · refine W.item j _ _ _ hlt hst' fun v h₁ tk₁ hPv hst₁ hk₁ => ?_
    refine wpAny_assign_Name (wpAny_storeName_local hx (hn'.at' fun o e => hk₁ _ o hCw e) (fun h₂ hn₂ hs₂ => ?_) hp)
    have up₂ : ∀ b o, b ≠ cenv.locals → b ∉ wr → G.get? b = some o → h₂.get? b = some o := fun b o hbC hbf e => hs₂.extBut b o hbC (hk₁ b o hbf e)
    have hst₂ : Q (j + 1) h₂ := W.frame _ _ _ hst₁ fun b hb o e => hs₂.extBut b o (fun h => hCf (h ▸ hb)) e
    have hacc₂ : h₂.PlainList D ys := hacc'.at fun o e => up₂ D o hDC hDw e
    have hlt' : j < ds.length := by omega
    have kp₂ : Kp (D :: H) G h₂ := fun b o hbH hsq e => by
      have hbw : b ∉ wr := fun hm => by
        obtain ⟨xs, k, q⟩ := hsq
        exact hwr _ _ hst' b hm o xs k e q
      have hbC : b ≠ cenv.locals := fun hb => by
        obtain ⟨oL, es, ep, hL, hd, _⟩ := hn'
        rw [hb, hL] at e
        cases e
        obtain ⟨xs, k, q⟩ := hsq
        rw [hd] at q; cases q
      exact up₂ b o hbC hbw e
    refine wpAny_tests_nil ?_
    rw [if_pos rfl]
    refine (helt j v _ _ ds[j] hPv (by simp [hlt']) hn₂ (by simp) (fun b o hbC hbf hbD e => up₂ b o hbC hbf (hk b o hbC hbf hbD e)) (let ⟨o, ho⟩ := hacc₂; ⟨_, ho⟩)).use fun y s₄ k₄ r₄ => ?_
    obtain ⟨h₄, tk₄, rfl, hk₄⟩ := k₄
    have hysz : ys.size ≤ sizeLine := by
      have e1 : ys.toList.length = ys.size := by simp
      rw [size_line, ← e1, hys, List.length_take]
      omega
    refine wpAny_list_append_plain (hsz := hysz) (hacc₂.at fun o e => hk₄ _ o e) fun h₅ hl₅ hs₅ => ?_
    refine ⟨n + 1 - (j + 1), by omega, h₅, tk₄, _, ys.push y, j + 1, rfl, ?_, hl₅, (hn₂.keeps hk₄).sameBut hs₅ (Ne.symm hDC), ?_, hlt, rfl, fun b o hbC hbf hbD e => hs₅.extBut b o hbD (hk₄ b o (up₂ b o hbC hbf (hk b o hbC hbf hbD e)))⟩
    · exact W.frame _ _ h₅ hst₂ fun b hb o e => hs₅.extBut b o (fun h => hDf (h ▸ hb)) (hk₄ b o e)
    · have kp₅ : Kp (D :: H) h₄ h₅ := fun b o hbH _ e => hs₅.extBut b o (fun q => hbH (q ▸ .head _)) e
      have a1 := RzL.kp kp₅ _ ((RzL.kp kp₂ _ hF).keeps hk₄)
      have a2 := Rz.kp kp₅ _ r₄
      have a4 : RzL (D :: H) h₅ [ds[j]] [y] := ⟨y, [], rfl, a2, rfl⟩
      have a3 := RzL.app a1 a4
      rw [List.take_succ_eq_append_getElem hlt', Array.toList_push]
      exact a3
  · have hin : j = n := by omega
    refine W.done _ _ _ (hin ▸ hst') fun h₁ tk₁ hk₁ => ?_
    refine hR h₁ tk₁ m' ys (hn'.at' fun o e => hk₁ _ o hCw e) (hacc'.at fun o e => hk₁ _ o hDw e) ?_ fun b o hbC hbf hbD e => hk₁ b o hbf (hk b o hbC hbf hbD e)
    rw [List.take_of_length_le (by omega)] at hF
    refine RzL.kp (fun b o hbH hsq e => ?_) _ hF
    refine hk₁ b o (fun hm => ?_) e
    obtain ⟨xs, k, q⟩ := hsq
    exact hwr _ _ hst' b hm o xs k e q


theorem gv_comp {elt iter : Expr} {x : Str} {px : Pos} {scope : Scope} {cl : List (Str × Addr)} {pos : Pos} {ds : List PyData} (S : St C H s)
    (hclos : closureFor scope env = pure cl) (hcell : ∀ y ∈ scope.names, y.2 ≠ .cell) (hkind : scope.kind = .function)
    (hnames : ∀ y ∈ scope.names, y.2 = .local → scope.names.lookup y.1 = some .local) (hx : scope.names.lookup x = some .local)
    (hs : ∀ x, foldedSetIterable iter env x = pure x) (hsz : ds.length ≤ 5000)
    (h : ∀ E (Q' : Value → Shared → Prop), (∀ s₂ I fp wr n P Q, Keeps s s₂ → Walks C.prog C.w A I fp wr n P Q → n = ds.length → Q 0 s₂.heap → (∀ b ∈ fp, b < s₂.heap.objs.size) → (∀ b ∈ wr, s.heap.get? b = none) →
        (∀ i h, Q i h → ∀ b ∈ wr, ∀ o xs k, h.get? b = some o → o.data ≠ .seq xs k) →
        (∀ L D i v s₃ m₃ d, s₂.heap.objs.size ≤ L → s₂.heap.get? D = none → (∃ o, s₃.heap.get? D = some o) → P i v → ds[i]? = some d → s₃.heap.Ns L m₃ → m₃ x = some v → (∀ b o, b ∉ wr → s₂.heap.get? b = some o → s₃.heap.get? b = some o) →
          Gv C A (D :: H) (eval elt (compEnvC scope cl L env)) d s₃) → Q' (.ref I) s₂) →
      wpAny C.M A (eval iter env) (fun xv s₁ => wpAny C.M A (pyIter xv) Q' E s₁) E s) :
    Gv C A H (eval (.ListComp elt [⟨.Name x px, iter, [], 0⟩] scope pos) env) (.list ds) s := fun E => by
  rw [eval_ListComp]
  refine wpAny_comprehension_free (use := none) rfl hs hclos hkind hnames (h E _ ?_)
  intro s₂ I fp wr n P Q ks W hn hst hfp hold hwr hq
  refine wpAny_newObj_type (wpAny_newFunctionEnv hcell (by intro y hy; simp at hy) (fun h₁ hns₁ hsb₁ => ?_) hkind)
  dsimp only at hns₁ hsb₁ ⊢
  generalize hH2 : s₂.heap.push { cls := .type "list", dict := none, data := .seq ([] : List Value).toArray } = H2 at hns₁ hsb₁ ⊢
  have hC : H2.objs.size = s₂.heap.objs.size + 1 := by rw [← hH2, Heap.size_push]
  have hDC : s₂.heap.objs.size ≠ H2.objs.size := by rw [hC]; exact Nat.ne_of_lt (Nat.lt_succ_self _)
  have hCle : s₂.heap.objs.size ≤ H2.objs.size := by rw [hC]; exact Nat.le_succ _
  have below : ∀ b, b < s₂.heap.objs.size → b ≠ H2.objs.size ∧ b ≠ s₂.heap.objs.size := fun b hb => ⟨by rw [hC]; exact Nat.ne_of_lt (Nat.lt_succ_of_lt hb), Nat.ne_of_lt hb⟩
  have hDf : s₂.heap.objs.size ∉ fp := fun hm => Nat.lt_irrefl _ (hfp _ hm)
  have hCf : H2.objs.size ∉ fp := fun hm => by have := hfp _ hm; rw [hC] at this; exact Nat.lt_irrefl _ (Nat.lt_of_succ_lt this)
  have old : ∀ b o, s₂.heap.get? b = some o → h₁.get? b = some o := fun b o e => hsb₁.extBut b o (below b (Heap.lt_size e)).1 (Heap.get?_push_of_some _ (hH2 ▸ Heap.get?_push_of_some _ e))
  have hacc : h₁.PlainList s₂.heap.objs.size #[] := ⟨_, hsb₁.extBut _ _ hDC (Heap.get?_push_of_some _ (hH2 ▸ Heap.get?_push_size _ rfl))⟩
  have hst₁ : Q 0 h₁ := W.frame _ _ _ hst fun b _ o e => old b o e
  have fresh : ∀ a, s₂.heap.objs.size ≤ a → s₂.heap.get? a = none := fun a ha => by
    cases e : s₂.heap.get? a with
    | none => rfl
    | some o' => exact absurd (Heap.lt_size e) (Nat.not_lt.mpr ha)
  have S₂ := S.keeps ks
  have loop : ∀ s₃ : Shared, s₃ = { s₂ with heap := h₁, toks := s₂.toks + ([] : List (Str × Value)).length } →
      codeAny C.M A (.compLoop (.ListComp elt [⟨.Name x px, iter, [], 0⟩] scope pos) 0 (.ref I) (.ref s₂.heap.objs.size) (compEnvC scope cl H2.objs.size env))
        (compPost C.M A E none (fun v s' => Keeps s s' ∧ Rz H s'.heap (.list ds) v) (.ref s₂.heap.objs.size) H2.objs.size) s₃ := by
   rintro s₃ rfl
   refine comp_loop (H := H) (cenv := compEnvC scope cl H2.objs.size env) W ds hn (by omega) (lookup_relabel_local hx) (by simp [compEnvC, relabel, hkind]) hDC hDf hCf hwr hst₁ hacc hns₁
     (fun i v s₃ m₃ d hv hd hn₃ hm hk ho => hq _ _ i v s₃ m₃ d hCle (fresh _ (Nat.le_refl _)) ho hv hd hn₃ hm (fun b o hbf e => hk b o (below b (Heap.lt_size e)).1 hbf (below b (Heap.lt_size e)).2 (old b o e))) ?_
   intro h' tk m' ys hns' hpl hr hk
   refine ⟨m', hns', fun h'' hs'' => ?_⟩
   obtain ⟨g, tk₂, rfl, kk⟩ := ks
   have kept : ∀ b o, s.heap.get? b = some o → h''.get? b = some o := fun b o e => by
     have e₂ := kk b o e
     have hb := below b (Heap.lt_size e₂)
     have hbw : b ∉ wr := fun hm => by rw [hold b hm] at e; cases e
     exact hs''.extBut b o hb.1 (hk b o hb.1 hbw hb.2 (old b o e₂))
   refine ⟨⟨h'', _, rfl, kept⟩, ?_⟩
   have kp : Kp (g.objs.size :: H) h' h'' := fun b o _ hsq e => by
     refine hs''.extBut b o (fun hb => ?_) e
     obtain ⟨oL, es, ep, hL, hd, _⟩ := hns'
     rw [hb] at e
     have hL' : h'.get? H2.objs.size = some oL := hL
     rw [e] at hL'
     cases hL'
     obtain ⟨xs, k, q⟩ := hsq
     rw [hd] at q; cases q
   refine ⟨_, ys, rfl, S₂.size, hpl.extBut hs''.extBut hDC, ?_⟩
   exact RzL.off (fun a o _ hn hm => hn (.tail _ hm)) _ (RzL.kp kp _ hr)
  exact codeAny_compStart_list (loop _ rfl) (W.self 0 _ _ _ hst₁ (loop _ rfl))
end
end Mine
namespace Mine
open PySem PySem.Spec PySem.Calls PyProof.Rows

/-! ## Built-in calls -/
inductive Bi | abs | max2 | maxl | len | lst | all
noncomputable def Bi.val : Bi → Value
  | .abs => .builtin "abs" | .max2 => .builtin "max" | .maxl => .builtin "max" | .len => .builtin "len" | .lst => .type "list" | .all => .builtin "all"
noncomputable def Bi.nm : Bi → Str
  | .abs => "abs" | .max2 => "max" | .maxl => "max" | .len => "len" | .lst => "list" | .all => "all"
noncomputable def iv (xs : List PyData) (i : Nat) : Int := match xs[i]? with | some (.int k) => k | _ => 0
noncomputable def bv (xs : List PyData) (i : Nat) : Bool := match xs[i]? with | some (.bool k) => k | _ => false
noncomputable def isInt (d : PyData) : Bool := match d with | .int _ => true | _ => false
noncomputable def isBool (d : PyData) : Bool := match d with | .bool _ => true | _ => false
noncomputable def dbi (b : Bi) (ds : List PyData) : Option PyData := match b, ds with
  | .abs, [.int a] => some (.int (if a < 0 then -a else a))
  | .max2, [.int a, .int b] => some (.int (if b > a then b else a))
  | .maxl, [.list xs] => if xs.all isInt && Nat.blt 0 xs.length then xs[argBest (fun i j => decide (iv xs i > iv xs j)) (xs.length - 1)]? else none
  | .len, [.list xs] => if Nat.ble xs.length 5000 then some (.int xs.length) else none
  | .lst, [.list xs] => if Nat.ble xs.length 5000 then some (.list xs) else none
  | .all, [.list xs] => if xs.all isBool then some (.bool ((List.range xs.length).all (bv xs))) else none
  | _, _ => none

section
variable {C : Cx} {A : Around} {H : List Addr} {s : Shared} {env : Env}

theorem rz1 {h : Heap} {d : PyData} {vs : List Value} (r : RzL H h [d] vs) : ∃ v, vs = [v] ∧ Rz H h d v := by
  obtain ⟨v, r', rfl, a, b⟩ := r
  cases b
  exact ⟨v, rfl, a⟩
theorem rz2 {h : Heap} {d e : PyData} {vs : List Value} (r : RzL H h [d, e] vs) : ∃ v u, vs = [v, u] ∧ Rz H h d v ∧ Rz H h e u := by
  obtain ⟨v, r', rfl, a, b⟩ := r
  obtain ⟨u, hu, hb⟩ := rz1 b
  subst hu
  exact ⟨v, u, rfl, a, hb⟩

theorem g_bi {b : Bi} {ds : List PyData} {d : PyData} {vs : List Value} {n : Nat} (R : Room A n) (h : dbi b ds = some d) (S : St C H s) (r : RzL H s.heap ds vs) : Gv C A H (call b.val vs) d s := fun E => by
  unfold dbi at h
  split at h
  · cases h
    obtain ⟨v, rfl, t, rfl⟩ := rz1 r
    exact call_abs_int fun u tk => ⟨Ks.tok s _, _, rfl⟩
  · cases h
    obtain ⟨v, u, rfl, ⟨t, rfl⟩, t', rfl⟩ := rz2 r
    refine max_two_ints R.h fun h' tk hk => ?_
    split
    · exact ⟨⟨h', tk, rfl, hk⟩, _, rfl⟩
    · exact ⟨⟨h', tk, rfl, hk⟩, _, rfl⟩
  · split at h
    · rename_i xs hx
      have hx' := Bool.and_eq_true_iff.mp hx
      have hne : 0 < xs.length := Nat.le_of_ble_eq_true hx'.2
      obtain ⟨v, rfl, l, vs, rfl, _, hlp, hr⟩ := rz1 r
      have hl := hlp.isList
      have len := RzL.len hr
      have hsz : vs.toList.length = vs.size := by simp
      have hint : ∀ i u, vs[i]? = some u → ∃ t, u = Value.int (iv xs i) t := by
        intro i u hu
        have hi : i < xs.length := by
          have := (Array.getElem?_eq_some_iff.mp hu).1
          omega
        obtain ⟨u', hu', rd⟩ := Rz.get hr (List.getElem?_eq_getElem hi)
        rw [hu] at hu'; cases hu'
        have hb := List.all_eq_true.mp hx'.1 _ (List.getElem_mem hi)
        unfold isInt at hb
        split at hb
        · rename_i k hk
          rw [hk] at rd
          obtain ⟨t, rfl⟩ := rd
          refine ⟨t, ?_⟩
          unfold iv
          rw [List.getElem?_eq_getElem hi, hk]
        · cases hb
      refine call_max_walk (wpAny_pyIter_list hl ?_)
      have hlt : l < s.heap.objs.size := by obtain ⟨_, e⟩ := hlp; exact Heap.lt_size e
      refine ⟨_, [s.heap.objs.size, l], [s.heap.objs.size], vs.size, fun i v => vs[i]? = some v, _, _, rfl, Walks.list (A := A.in1) R.h _ l (Nat.ne_of_lt hlt) vs, ⟨⟨_, Heap.get?_push_size _ rfl, rfl, rfl⟩, hl.push _⟩, ?_, by omega, CmpOf.ints_gt (iv xs) hint, fun v h' tk hP hk => ?_⟩
      · intro b hb
        show b < (s.heap.push _).objs.size
        rw [Heap.size_push]
        rcases List.mem_cons.mp hb with rfl | hb
        · exact Nat.lt_succ_self _
        · rcases List.mem_cons.mp hb with rfl | hb
          · exact Nat.lt_succ_of_lt hlt
          · cases hb
      · have old := old_kept hk
        refine ⟨⟨h', tk, rfl, old⟩, ?_⟩
        have e1 : vs.size - 1 = xs.length - 1 := by omega
        rw [e1] at hP
        obtain ⟨v', hv', rv⟩ := Rz.get hr h
        rw [hP] at hv'
        cases hv'
        exact rv.keeps old
    · cases h
  · split at h
    · rename_i hz
      cases h
      have hz' := Nat.le_of_ble_eq_true hz
      obtain ⟨v, rfl, l, vs, rfl, _, hlp, hr⟩ := rz1 r
      have len := RzL.len hr
      have hsz : vs.toList.length = vs.size := by simp
      refine len_list hlp.isList (by omega) ⟨Ks.tok s _, s.toks + 1, ?_⟩
      rw [← len, hsz]
    · cases h
  · split at h
    · rename_i hz
      cases h
      have hz' := Nat.le_of_ble_eq_true hz
      obtain ⟨v, rfl, l, vs, rfl, _, hlp, hr⟩ := rz1 r
      have len := RzL.len hr
      have hsz : vs.toList.length = vs.size := by simp
      obtain ⟨k, ho⟩ := hlp
      refine call_list_seq l (.inl rfl) ho rfl rfl (fun h' c' hk hg => ?_) (by rw [size_line]; omega)
      exact ⟨⟨h', _, rfl, hk⟩, _, vs, rfl, S.size, ⟨_, hg⟩, hr.keeps hk⟩
    · cases h
  · split at h
    · rename_i xs hx
      cases h
      obtain ⟨v, rfl, l, vs, rfl, _, hlp, hr⟩ := rz1 r
      have hl := hlp.isList
      have len := RzL.len hr
      have hsz : vs.toList.length = vs.size := by simp
      have hlt : l < s.heap.objs.size := by obtain ⟨_, e⟩ := hlp; exact Heap.lt_size e
      refine call_all_walk (wpAny_pyIter_list hl ?_)
      refine ⟨_, [s.heap.objs.size, l], [s.heap.objs.size], vs.size, fun i v => vs[i]? = some v, _, bv xs, rfl, Walks.list (A := A.in1) R.h _ l (Nat.ne_of_lt hlt) vs, ⟨⟨_, Heap.get?_push_size _ rfl, rfl, rfl⟩, hl.push _⟩, ?_, fun h' tk hk => ?_⟩
      · intro i u s' Q' E' hu hq
        have hi : i < xs.length := by
          have := (Array.getElem?_eq_some_iff.mp hu).1
          omega
        obtain ⟨u', hu', rd⟩ := Rz.get hr (List.getElem?_eq_getElem hi)
        rw [hu] at hu'; cases hu'
        have hb := List.all_eq_true.mp hx _ (List.getElem_mem hi)
        unfold isBool at hb
        split at hb
        · rename_i k hk
          rw [hk] at rd
          cases rd
          have e : bv xs i = k := by
            unfold bv
            rw [List.getElem?_eq_getElem hi, hk]
          rw [e] at hq
          exact wpAny_truthy_bool hq
        · cases hb
      · have old := old_kept hk
        refine ⟨⟨h', tk, rfl, old⟩, ?_⟩
        have e1 : vs.size = xs.length := by omega
        rw [e1]
        rfl
    · cases h
  · cases h

end
end Mine
namespace Mine
open PySem PySem.Spec PySem.Calls PyProof.Rows

noncomputable def NotStar (e : Expr) : Prop := ∀ (env : Env) (rest : List Expr), starEach (e :: rest) env = (false, eval e env) :: starEach rest env
noncomputable def NotDebug (x : Str) : Prop := (x == ("__debug__" : Str)) = false

section
variable {C : Cx} {ft : Nat → Option Fi} {gd : Str → Option PyData} {A : Around} {H : List Addr} {s : Shared} {env : Env} {z : Sc}

theorem Rz.ofOld {d : PyData} {v : Value} (S : St C H s) (r : Rz [] C.h0 d v) : Rz H s.heap d v :=
  (Rz.off (fun a o e _ hm => by rw [S.hid a hm] at e; cases e) _ r).keeps S.old

theorem gv_glob {x : Str} {pos : Pos} {v : Value} {d : PyData} (Z : EnvS z env) (S : St C H s) (g : C.h0.Ns mainGlobals C.mg) (hx : z.names.lookup x = some .globalImplicit) (hv : C.mg x = some v) (r : Rz [] C.h0 d v) (hd : NotDebug x) :
    Gv C A H (eval (.Name x pos) env) d s := fun E =>
  Name_function_global Z.fn (Z.glob x hx) (loadGlobal_global (env := env) (by rw [Z.gl]; exact g.keeps S.old) hv ⟨Ks.refl s, r.ofOld S⟩) hd
theorem name_glob {x : Str} {pos : Pos} {v : Value} {Q : Value → Shared → Prop} {E : Value → Shared → Prop} (Z : EnvS z env) (S : St C H s) (g : C.h0.Ns mainGlobals C.mg) (hx : z.names.lookup x = some .globalImplicit) (hv : C.mg x = some v) (hd : NotDebug x) (h : Q v s) :
    wpAny C.M A (eval (.Name x pos) env) Q E s :=
  Name_function_global Z.fn (Z.glob x hx) (loadGlobal_global (env := env) (by rw [Z.gl]; exact g.keeps S.old) hv h) hd
theorem name_bi {x : Str} {pos : Pos} {v : Value} {Q : Value → Shared → Prop} {E : Value → Shared → Prop} (Z : EnvS z env) (S : St C H s) (B : Bas C ft gd) (hx : z.names.lookup x = some .globalImplicit) (hv : C.mg x = none) (hn : x ≠ "__name__") (hb : bootBuiltins x = some v) (hd : NotDebug x) (h : Q v s) :
    wpAny C.M A (eval (.Name x pos) env) Q E s :=
  Name_function_global Z.fn (Z.glob x hx) (loadGlobal_builtin (env := env) (by rw [Z.gl]; exact B.g.keeps S.old) hv (by rw [Z.bi]; exact B.b.keeps S.old) ((B.bb x hn).trans hb) h) hd

theorem plain_args {pos : Pos} : ∀ {args : List Expr}, (∀ e ∈ args, NotStar e) → (backTo pos (starEach args env)).any (·.1) = false
  | [], _ => rfl
  | e :: r, h => by
    rw [h e (.head _) env r]
    show (false || (backTo pos (starEach r env)).any (·.1)) = false
    rw [Bool.false_or]
    exact plain_args fun e' he => h e' (.tail _ he)
theorem args_of {f : Value} {pos : Pos} {args : List Expr} {ds : List PyData} {Q : Args → Shared → Prop} {E : Value → Shared → Prop} (hne : args ≠ []) (hs : ∀ e ∈ args, NotStar e) (g : GvL C A H (spliced (backTo pos (starEach args env))) ds s)
    (h : ∀ vs s', Keeps s s' → RzL H s'.heap ds vs → Q ⟨vs, []⟩ s') : wpAny C.M A (evalArgs f true (backTo pos (starEach args env)) []) Q E s := by
  cases args with
  | nil => exact absurd rfl hne
  | cons e r =>
    have he := hs e (.head _) env r
    have g' : GvL C A H (spliced ((false, eval e env) :: backTo pos (starEach r env))) ds s := by
      intro E
      have := g E
      rw [he] at this
      exact this
    rw [he]
    exact evalArgs_plain (g'.use fun vs s' k r => h vs s' k r)

theorem call_arm (id : Str) (p : Pos) (args : List Expr) (pos : Pos) (env : Env) : eval (.Call (.Name id p) args [] pos) env = (do
    callWith pos (← eval (.Name id p) env) [] (backTo pos (starEach args env)) []) := rfl

/-- a def of the program: what its call gives -/
noncomputable def CallOk (C : Cx) (ft : Nat → Option Fi) (n f : Nat) (ds : List PyData) (d : PyData) : Prop :=
  ∀ i, ft f = some i → ∀ (A : Around) (H : List Addr) (s : Shared) (vs : List Value), Room A n → St C H s → RzL H s.heap ds vs → Gv C A H (call (.ref i.addr) vs) d s

theorem gv_call {x : Str} {p pos : Pos} {args : List Expr} {ds : List PyData} {d : PyData} {f n : Nat} {i : Fi} (Z : EnvS z env) (S : St C H s) (B : Bas C ft gd) (R : Room A n) (hi : ft f = some i) (hn : i.name = x)
    (hx : z.names.lookup x = some .globalImplicit) (hd : NotDebug x) (hne : args ≠ []) (hs : ∀ e ∈ args, NotStar e) (g : GvL C A H (spliced (backTo pos (starEach args env))) ds s) (k : CallOk C ft n f ds d) :
    Gv C A H (eval (.Call (.Name x p) args [] pos) env) d s := fun E => by
  obtain ⟨hv, ⟨o, ho, hdt⟩, _⟩ := B.fn f i hi
  rw [call_arm]
  refine wpAny_bind (name_glob Z S B.g hx (hn ▸ hv) hd ?_)
  refine callWith_function (o := o) (fd := i.fd) (args_of hne hs g fun vs s1 k1 r1 => ⟨⟨S.old _ _ ho |> Ks.heap k1 _ _, hdt⟩, ?_⟩)
  exact (k i hi A H s1 vs R (S.keeps k1) r1).use fun v s2 k2 r2 => ⟨Ks.trans k1 k2, r2⟩

theorem gv_callB {b : Bi} {x : Str} {p pos : Pos} {args : List Expr} {ds : List PyData} {d : PyData} {n : Nat} (Z : EnvS z env) (S : St C H s) (B : Bas C ft gd) (R : Room A n)
    (hb : dbi b ds = some d) (hv : C.mg x = none) (hn : x ≠ "__name__") (hbo : bootBuiltins x = some b.val)
    (hx : z.names.lookup x = some .globalImplicit) (hd : NotDebug x) (hne : args ≠ []) (hs : ∀ e ∈ args, NotStar e) (g : GvL C A H (spliced (backTo pos (starEach args env))) ds s) :
    Gv C A H (eval (.Call (.Name x p) args [] pos) env) d s := fun E => by
  rw [call_arm]
  refine wpAny_bind (name_bi Z S B hx hv hn hbo hd ?_)
  have key : ∀ vs s', Keeps s s' → RzL H s'.heap ds vs → wpAny C.M A (call b.val ([] ++ vs) []) (fun v s' => Keeps s s' ∧ Rz H s'.heap d v) E s' := fun vs s1 k1 r1 =>
    (g_bi R hb (S.keeps k1) r1).use fun v s2 k2 r2 => ⟨Ks.trans k1 k2, r2⟩
  cases b with
  | lst => exact PySem.callWith_type (plain_args hs) (args_of hne hs g key)
  | abs => exact callWith_builtin (plain_args hs) (args_of hne hs g key)
  | max2 => exact callWith_builtin (plain_args hs) (args_of hne hs g key)
  | maxl => exact callWith_builtin (plain_args hs) (args_of hne hs g key)
  | len => exact callWith_builtin (plain_args hs) (args_of hne hs g key)
  | all => exact callWith_builtin (plain_args hs) (args_of hne hs g key)

/-! ## Comprehensions over a list, a tuple, a range -/

/-- an element's value, in the comprehension's own frame -/
noncomputable def EltOk (C : Cx) (A : Around) (H : List Addr) (s : Shared) (env : Env) (scope : Scope) (cl : List (Str × Addr)) (x : Str) (elt : Expr) (di d : PyData) : Prop :=
  ∀ (L D : Addr) (s₃ : Shared) (m₃ : Str → Option Value) (v : Value), s.heap.get? D = none → (∃ o, s₃.heap.get? D = some o) → (∀ b o, s.heap.get? b = some o → s₃.heap.get? b = some o) →
    Rz (D :: H) s₃.heap di v → s₃.heap.Ns L m₃ → m₃ x = some v → Gv C A (D :: H) (eval elt (compEnvC scope cl L env)) d s₃

structure CompS (env : Env) (scope : Scope) (cl : List (Str × Addr)) (x : Str) (iter : Expr) : Prop where
  clos : closureFor scope env = pure cl
  cell : ∀ y ∈ scope.names, y.2 ≠ .cell
  kind : scope.kind = .function
  names : ∀ y ∈ scope.names, y.2 = .local → scope.names.lookup y.1 = some .local
  x : scope.names.lookup x = some .local
  it : ∀ x, foldedSetIterable iter env x = pure x

theorem rz_on {h h' : Heap} {D I : Addr} {d : PyData} {v : Value} (r : Rz H h d v) (hD : h.get? D = none) (hI : ∀ o xs k, h.get? I = some o → o.data ≠ .seq xs k) (k : ∀ b o, b ∉ [I] → h.get? b = some o → h'.get? b = some o) : Rz (D :: H) h' d v := by
  refine Rz.kp (fun b o _ hsq e => k b o (fun hm => ?_) e) _ (Rz.off (fun a o e hn hm => ?_) _ r)
  · obtain ⟨xs, n, q⟩ := hsq
    rcases List.mem_cons.mp hm with rfl | hm
    · exact hI o xs n e q
    · cases hm
  · rcases List.mem_cons.mp hm with rfl | hm
    · rw [hD] at e; cases e
    · exact hn hm

theorem gv_comp_list {elt iter : Expr} {x : Str} {px : Pos} {scope : Scope} {cl : List (Str × Addr)} {pos : Pos} {ls ds : List PyData} {n : Nat} (S : St C H s) (R : Room A n) (K : CompS env scope cl x iter)
    (hlen : ls.length = ds.length) (hsz : ds.length ≤ 5000) (ha : Gv C A H (eval iter env) (.list ls) s)
    (he : ∀ (i : Nat) (di d : PyData), ls[i]? = some di → ds[i]? = some d → EltOk C A H s env scope cl x elt di d) : Gv C A H (eval (.ListComp elt [⟨.Name x px, iter, [], 0⟩] scope pos) env) (.list ds) s := by
  refine gv_comp S K.clos K.cell K.kind K.names K.x K.it hsz fun E Q' k => ha.use fun xv s₁ k₁ r₁ => ?_
  obtain ⟨l, vs, rfl, _, hlp, hr⟩ := r₁
  have hl := hlp.isList
  have len := RzL.len hr
  have hsz' : vs.toList.length = vs.size := by simp
  have hlt : l < s₁.heap.objs.size := by obtain ⟨_, e⟩ := hlp; exact Heap.lt_size e
  refine wpAny_pyIter_list hl ?_
  refine k _ s₁.heap.objs.size [s₁.heap.objs.size, l] [s₁.heap.objs.size] vs.size _ _ (Ks.trans k₁ (Ks.push s₁ _ _)) (Walks.list R.h _ l (Nat.ne_of_lt hlt) vs) (by omega) ⟨⟨_, Heap.get?_push_size _ rfl, rfl, rfl⟩, hl.push _⟩ ?_ ?_ ?_ ?_
  · intro b hb
    show b < (s₁.heap.push _).objs.size
    rw [Heap.size_push]
    rcases List.mem_cons.mp hb with rfl | hb
    · exact Nat.lt_succ_self _
    · rcases List.mem_cons.mp hb with rfl | hb
      · exact Nat.lt_succ_of_lt hlt
      · cases hb
  · intro b hb
    rcases List.mem_cons.mp hb with rfl | hb
    · cases e : s.heap.get? s₁.heap.objs.size with
      | none => rfl
      | some o => exact absurd (Heap.lt_size (Ks.heap k₁ _ _ e)) (Nat.lt_irrefl _)
    · cases hb
  · intro i h hq b hb o xs j e
    rcases List.mem_cons.mp hb with rfl | hb
    · obtain ⟨⟨o', ho', _, hd'⟩, _⟩ := hq
      rw [ho'] at e; cases e
      rw [hd']; intro q; cases q
    · cases hb
  · intro L D i v s₃ m₃ d hL hD ho hP hd hns hm hk
    have hi : i < ls.length := by
      have := (List.getElem?_eq_some_iff.mp hd).1
      omega
    obtain ⟨v', hv', rv⟩ := Rz.get hr (List.getElem?_eq_getElem hi)
    rw [hP] at hv'; cases hv'
    have k2 : ∀ b o, s.heap.get? b = some o → s₃.heap.get? b = some o := fun b o e => by
      have e1 := Ks.heap k₁ b o e
      refine hk b o (fun hm => ?_) (Heap.get?_push_of_some _ e1)
      rcases List.mem_cons.mp hm with rfl | hm
      · exact absurd (Heap.lt_size e1) (Nat.lt_irrefl _)
      · cases hm
    have hDs : s.heap.get? D = none := by
      cases e : s.heap.get? D with
      | none => rfl
      | some o => rw [Heap.get?_push_of_some _ (Ks.heap k₁ D o e)] at hD; cases hD
    refine he i _ d (List.getElem?_eq_getElem hi) hd L D s₃ m₃ v hDs ho k2 ?_ hns hm
    exact rz_on (rv.keeps fun _ _ e => Heap.get?_push_of_some _ e) hD (fun o xs j e q => by rw [Heap.get?_push_size _ rfl] at e; cases e; cases q) hk

theorem gv_comp_tuple {elt iter : Expr} {x : Str} {px : Pos} {scope : Scope} {cl : List (Str × Addr)} {pos : Pos} {ls ds : List PyData} {n : Nat} (S : St C H s) (R : Room A n) (K : CompS env scope cl x iter)
    (hlen : ls.length = ds.length) (hsz : ds.length ≤ 5000) (ha : Gv C A H (eval iter env) (.tuple ls) s)
    (he : ∀ (i : Nat) (di d : PyData), ls[i]? = some di → ds[i]? = some d → EltOk C A H s env scope cl x elt di d) : Gv C A H (eval (.ListComp elt [⟨.Name x px, iter, [], 0⟩] scope pos) env) (.list ds) s := by
  refine gv_comp S K.clos K.cell K.kind K.names K.x K.it hsz fun E Q' k => ha.use fun xv s₁ k₁ r₁ => ?_
  obtain ⟨l, vs, rfl, _, hl, hr⟩ := r₁
  have len := RzL.len hr
  have hsz' : vs.toList.length = vs.size := by simp
  have hlt : l < s₁.heap.objs.size := by obtain ⟨_, e, _⟩ := hl; exact Heap.lt_size e
  refine wpAny_pyIter_tuple hl ?_
  refine k _ s₁.heap.objs.size [s₁.heap.objs.size, l] [s₁.heap.objs.size] vs.size _ _ (Ks.trans k₁ (Ks.push s₁ _ _)) (Walks.tuple R.h _ l (Nat.ne_of_lt hlt) vs) (by omega) ⟨⟨_, Heap.get?_push_size _ rfl, rfl, rfl⟩, hl.push _⟩ ?_ ?_ ?_ ?_
  · intro b hb
    show b < (s₁.heap.push _).objs.size
    rw [Heap.size_push]
    rcases List.mem_cons.mp hb with rfl | hb
    · exact Nat.lt_succ_self _
    · rcases List.mem_cons.mp hb with rfl | hb
      · exact Nat.lt_succ_of_lt hlt
      · cases hb
  · intro b hb
    rcases List.mem_cons.mp hb with rfl | hb
    · cases e : s.heap.get? s₁.heap.objs.size with
      | none => rfl
      | some o => exact absurd (Heap.lt_size (Ks.heap k₁ _ _ e)) (Nat.lt_irrefl _)
    · cases hb
  · intro i h hq b hb o xs j e
    rcases List.mem_cons.mp hb with rfl | hb
    · obtain ⟨⟨o', ho', _, hd'⟩, _⟩ := hq
      rw [ho'] at e; cases e
      rw [hd']; intro q; cases q
    · cases hb
  · intro L D i v s₃ m₃ d hL hD ho hP hd hns hm hk
    have hi : i < ls.length := by
      have := (List.getElem?_eq_some_iff.mp hd).1
      omega
    obtain ⟨v', hv', rv⟩ := Rz.get hr (List.getElem?_eq_getElem hi)
    rw [hP] at hv'; cases hv'
    have k2 : ∀ b o, s.heap.get? b = some o → s₃.heap.get? b = some o := fun b o e => by
      have e1 := Ks.heap k₁ b o e
      refine hk b o (fun hm => ?_) (Heap.get?_push_of_some _ e1)
      rcases List.mem_cons.mp hm with rfl | hm
      · exact absurd (Heap.lt_size e1) (Nat.lt_irrefl _)
      · cases hm
    have hDs : s.heap.get? D = none := by
      cases e : s.heap.get? D with
      | none => rfl
      | some o => rw [Heap.get?_push_of_some _ (Ks.heap k₁ D o e)] at hD; cases hD
    refine he i _ d (List.getElem?_eq_getElem hi) hd L D s₃ m₃ v hDs ho k2 ?_ hns hm
    exact rz_on (rv.keeps fun _ _ e => Heap.get?_push_of_some _ e) hD (fun o xs j e q => by rw [Heap.get?_push_size _ rfl] at e; cases e; cases q) hk

/-- over range(e) -/
theorem gv_comp_range {elt e : Expr} {x r : Str} {px pr p : Pos} {scope : Scope} {cl : List (Str × Addr)} {pos : Pos} {m : Nat} {ds : List PyData} {n : Nat} (Z : EnvS z env) (S : St C H s) (B : Bas C ft gd) (R : Room A n)
    (K : CompS env scope cl x (.Call (.Name r pr) [e] [] p)) (hr : r = "range") (hv : C.mg r = none) (hbo : bootBuiltins r = some (.type "range")) (hx : z.names.lookup r = some .globalImplicit) (hst : NotStar e)
    (hlen : m = ds.length) (hsz : ds.length ≤ 5000) (ha : Gv C A H (eval e env) (.int (m : Nat)) s)
    (he : ∀ (i : Nat) (d : PyData), ds[i]? = some d → EltOk C A H s env scope cl x elt (.int (i : Nat)) d) : Gv C A H (eval (.ListComp elt [⟨.Name x px, .Call (.Name r pr) [e] [] p, [], 0⟩] scope pos) env) (.list ds) s := by
  refine gv_comp S K.clos K.cell K.kind K.names K.x K.it hsz fun E Q' k => ?_
  rw [call_arm]
  refine wpAny_bind (name_bi Z S B hx hv (by subst hr; decide) hbo (by subst hr; show (_ == _) = false; decide) ?_)
  have hs1 : ∀ e' ∈ [e], NotStar e' := fun e' hm => by rw [List.mem_singleton.mp hm]; exact hst
  have g : GvL C A H (spliced (backTo p (starEach [e] env))) [.int (m : Nat)] s := gl_cons ha (fun s' _ => gl_nil) (hst env [])
  refine PySem.callWith_type (plain_args hs1) (args_of (by simp) hs1 g fun vs s₁ k₁ r₁ => ?_)
  obtain ⟨v, rfl, t, rfl⟩ := rz1 r₁
  refine call_range_1 ?_
  have hG1 : (s₁.heap.push { cls := .type "range", data := .fields #[.int 0 s₁.toks, .int (m : Nat) t, .int 1 (s₁.toks + 1)] }).objs.size = s₁.heap.objs.size + 1 := Heap.size_push ..
  have hG2 : ∀ b o, s₁.heap.get? b = some o → (s₁.heap.push { cls := .type "range", data := .fields #[.int 0 s₁.toks, .int (m : Nat) t, .int 1 (s₁.toks + 1)] }).get? b = some o := fun _ _ e => Heap.get?_push_of_some _ e
  have hG3 : IsRange (s₁.heap.push { cls := .type "range", data := .fields #[.int 0 s₁.toks, .int (m : Nat) t, .int 1 (s₁.toks + 1)] }) s₁.heap.objs.size 0 (m : Nat) 1 s₁.toks t (s₁.toks + 1) := IsRange.new ..
  generalize (s₁.heap.push { cls := .type "range", data := .fields #[.int 0 s₁.toks, .int (m : Nat) t, .int 1 (s₁.toks + 1)] }) = G at hG1 hG2 hG3 ⊢
  refine wpAny_pyIter_range hG3 (small_one (by omega) (by omega) (by omega) (by omega)) ?_
  have hrs : Builtin.Range.rangeSize 0 (m : Nat) 1 = ((m : Nat) : Int) := by
    rw [rangeSize_one]; split <;> omega
  rw [hrs]
  have old : ∀ b o, s.heap.get? b = some o → G.get? b = some o := fun b o e => hG2 b o (Ks.heap k₁ b o e)
  refine k _ _ [G.objs.size] [G.objs.size] m _ _ (Ks.trans k₁ ⟨_, _, rfl, fun b o e => Heap.get?_push_of_some _ (hG2 b o e)⟩) (Walks.range R.h _ 0 1 m) hlen ?_ ?_ ?_ ?_ ?_
  · show IsRangeIter _ _ _ _ _
    have := Heap.get?_push_size G (o := { cls := .type "range_iterator", data := .fields #[rawInt 0, rawInt ((m : Nat) : Int), rawInt 1] }) rfl
    simpa using this
  · intro b hb
    show b < (G.push _).objs.size
    rw [Heap.size_push]
    rcases List.mem_cons.mp hb with rfl | hb
    · exact Nat.lt_succ_self _
    · cases hb
  · intro b hb
    rcases List.mem_cons.mp hb with rfl | hb
    · cases e : s.heap.get? G.objs.size with
      | none => rfl
      | some o => exact absurd (Heap.lt_size (old _ _ e)) (Nat.lt_irrefl _)
    · cases hb
  · intro i h hq b hb o xs j e
    rcases List.mem_cons.mp hb with rfl | hb
    · rw [hq] at e; cases e
      intro q; cases q
    · cases hb
  · intro L D i v s₃ m₃ d hL hD ho hP hd hns hm hk
    have k2 : ∀ b o, s.heap.get? b = some o → s₃.heap.get? b = some o := fun b o e => by
      have e1 := old b o e
      refine hk b o (fun hm => ?_) (Heap.get?_push_of_some _ e1)
      rcases List.mem_cons.mp hm with rfl | hm
      · exact absurd (Heap.lt_size e1) (Nat.lt_irrefl _)
      · cases hm
    have hDs : s.heap.get? D = none := by
      cases e : s.heap.get? D with
      | none => rfl
      | some o => rw [Heap.get?_push_of_some _ (old D o e)] at hD; cases hD
    refine he i d hd L D s₃ m₃ v hDs ho k2 ?_ hns hm
    obtain ⟨t', rfl⟩ := hP
    refine ⟨t', ?_⟩
    congr 1
    omega
end
end Mine
namespace Mine
open PySem PySem.Spec PySem.Calls PyProof.Rows

/-! ## A frame's state: its names, and at most one list of its own that it still writes -/
abbrev OwnL := Option (Nat × List PyData)

structure OwnAt (z : Sc) (env : Env) (h0 : Heap) (H₀ H : List Addr) (ρ : Rho) (i : Nat) (xs : List PyData) (h : Heap) : Prop where
  ex : ∃ B x vs m, H = B :: H₀ ∧ z.nms[i]? = some x ∧ env.kindOf x = some .local ∧ h.Ns env.locals m ∧ m x = some (.ref B) ∧ h.PlainList B vs ∧ RzL H h xs vs.toList ∧ h0.get? B = none ∧ B ∉ H₀ ∧ ρ.get i = none
noncomputable def OwnS (z : Sc) (env : Env) (h0 : Heap) (H₀ H : List Addr) (ρ : Rho) (o : OwnL) (h : Heap) : Prop := match o with
  | none => H = H₀
  | some p => OwnAt z env h0 H₀ H ρ p.1 p.2 h

structure EnvZ (z : Sc) (env : Env) : Prop extends EnvS z env where
  nd : z.nms.Nodup

structure Fm (C : Cx) (z : Sc) (env : Env) (s₀ : Shared) (H₀ H : List Addr) (ρ : Rho) (o : OwnL) (s : Shared) : Prop where
  same : ∃ h tk, s = { s₀ with heap := h, toks := tk }
  keep : ∀ b o, s₀.heap.get? b = some o → s.heap.get? b = some o
  fresh : s₀.heap.get? env.locals = none
  ns : ∃ m, s.heap.Ns env.locals m
  cells : ∀ n c, env.cells.lookup n = some c → s₀.heap.get? c = none ∧ ∃ v, s.heap.IsCell c v
  apart : ∀ n n' c, env.cells.lookup n = some c → env.cells.lookup n' = some c → n = n'
  old0 : ∀ b o, C.h0.get? b = some o → s₀.heap.get? b = some o
  st : St C H s
  rho : EnvR z env H ρ s.heap
  own : OwnS z env s₀.heap H₀ H ρ o s.heap

/-- what a statement keeps -/
structure Pres (env : Env) (H : List Addr) (s s' : Shared) : Prop where
  keep : ∀ b o, b ≠ env.locals → (∀ n, env.cells.lookup n ≠ some b) → b ∉ H → s.heap.get? b = some o → s'.heap.get? b = some o
  live : ∀ b o, s.heap.get? b = some o → ∃ o', s'.heap.get? b = some o'
theorem Pres.refl {env : Env} {H : List Addr} {s : Shared} : Pres env H s s := ⟨fun _ _ _ _ _ e => e, fun _ o e => ⟨o, e⟩⟩
theorem Pres.keeps {env : Env} {H : List Addr} {s s' : Shared} (k : Keeps s s') : Pres env H s s' := ⟨fun b o _ _ _ e => Ks.heap k b o e, fun b o e => ⟨o, Ks.heap k b o e⟩⟩
/-- the hidden ones behind a statement: hidden before, or new -/
noncomputable def Hid (H H' : List Addr) (s : Shared) : Prop := ∀ b ∈ H', b ∈ H ∨ s.heap.get? b = none
theorem Hid.refl {H : List Addr} {s : Shared} : Hid H H s := fun _ h => .inl h
theorem Pres.trans {env : Env} {H H' : List Addr} {s s' s'' : Shared} (p : Pres env H s s') (hh : Hid H H' s) (q : Pres env H' s' s'') : Pres env H s s'' :=
  ⟨fun b o h1 h2 h3 e => q.keep b o h1 h2 (fun hm => (hh b hm).elim h3 fun z => by rw [z] at e; cases e) (p.keep b o h1 h2 h3 e), fun b o e => let ⟨o', e'⟩ := p.live b o e; q.live b o' e'⟩
theorem Hid.trans {env : Env} {H H' H'' : List Addr} {s s' : Shared} (p : Pres env H s s') (a : Hid H H' s) (b : Hid H' H'' s') : Hid H H'' s := fun x hx => by
  rcases b x hx with h | h
  · exact a x h
  · refine .inr ?_
    cases e : s.heap.get? x with
    | none => rfl
    | some o => obtain ⟨o', e'⟩ := p.live x o e; rw [h] at e'; cases e'

section
variable {C : Cx} {A : Around} {H H₀ : List Addr} {s s' s₀ : Shared} {env : Env} {z : Sc} {ρ : Rho} {o : OwnL}

theorem ns_eq {h : Heap} {a : Addr} {m m' : Str → Option Value} (x : h.Ns a m) (y : h.Ns a m') : ∀ n, m n = m' n := by
  obtain ⟨o, es, ep, e, d, _, f⟩ := x
  obtain ⟨o', es', ep', e', d', _, f'⟩ := y
  rw [e] at e'; cases e'
  rw [d] at d'; cases d'
  intro n
  rw [← f, ← f']

theorem OwnS.keeps {h h' h0 : Heap} (x : OwnS z env h0 H₀ H ρ o h) (k : ∀ b o, h.get? b = some o → h'.get? b = some o) : OwnS z env h0 H₀ H ρ o h' := by
  cases o with
  | none => exact x
  | some p =>
    obtain ⟨B, n, vs, m, a, b, c, d, e, f, g, r⟩ := x.ex
    exact ⟨⟨B, n, vs, m, a, b, c, d.keeps k, e, f.at fun o q => k _ o q, g.keeps k, r⟩⟩
theorem Fm.keeps (F : Fm C z env s₀ H₀ H ρ o s) (k : Keeps s s') : Fm C z env s₀ H₀ H ρ o s' := by
  obtain ⟨h, tk, rfl, kk⟩ := k
  obtain ⟨h1, tk1, rfl⟩ := F.same
  exact ⟨⟨h, tk, rfl⟩, fun b o e => kk b o (F.keep b o e), F.fresh, let ⟨m, q⟩ := F.ns; ⟨m, q.keeps kk⟩, fun n c e => let ⟨q, v, r⟩ := F.cells n c e; ⟨q, v, r.keeps kk⟩, F.apart, F.old0, F.st.keeps ⟨h, tk, rfl, kk⟩, F.rho.keeps kk, F.own.keeps kk⟩

theorem storable (hf : env.scope.kind = .function) : (env.scope.kind == .class || (env.scope.kind == .module && env.locals != env.globals)) = false := by rw [hf]; rfl

theorem kp_locals {L : Addr} {h h' : Heap} {m : Str → Option Value} (hn : h.Ns L m) (hs : Heap.SameBut L h h') : Kp H h h' := fun b o _ hsq e => by
  refine hs.extBut b o (fun hb => ?_) e
  obtain ⟨oL, es, ep, hL, hd, _⟩ := hn
  rw [← hb, e] at hL
  cases hL
  obtain ⟨xs, k, q⟩ := hsq
  rw [hd] at q; cases q

/-- a name of the frame is stored -/
theorem Fm.storeRaw {x : Str} {i : Nat} {v : Value} {Q : Unit → Shared → Prop} {E : Value → Shared → Prop} (Z : EnvZ z env) (F : Fm C z env s₀ H₀ H ρ o s) (hi : z.nms[i]? = some x) (hk : env.kindOf x = some .local)
    (ho : ∀ xs, o ≠ some (i, xs)) (h : ∀ s', Fm C z env s₀ H₀ H (ρ.del i) o s' → (∃ m, s'.heap.Ns env.locals m ∧ m x = some v) → Pres env H s s' → (∀ b ob, b ≠ env.locals → s.heap.get? b = some ob → s'.heap.get? b = some ob) → Q () s') : wpAny C.M A (storeName env x v) Q E s := by
  obtain ⟨m, hn⟩ := F.ns
  refine wpAny_storeName_local hk hn (fun h' hn' hs => ?_) (storable Z.fn)
  have kp : Kp H s.heap h' := kp_locals hn hs
  have notL : ∀ c v, s.heap.IsCell c v → c ≠ env.locals := fun c v ⟨oc, hc, hd⟩ e => by
    obtain ⟨oL, es, ep, hL, hdL, _⟩ := hn
    rw [← e, hc] at hL; cases hL
    rw [hd] at hdL; cases hdL
  obtain ⟨h1, tk1, hs1⟩ := F.same
  refine h _ ⟨⟨h', _, by rw [hs1]⟩, fun b ob e => hs.extBut b ob (fun hb => by rw [hb, F.fresh] at e; cases e) (F.keep b ob e), F.fresh, ⟨_, hn'⟩, fun n c e => ?_, F.apart, F.old0, ?_, fun j dj e => ?_, ?_⟩ ⟨_, hn', by simp⟩ ⟨fun b ob hL _ _ e => hs.extBut b ob hL e, fun b ob e => ?_⟩ (fun b ob hL e => hs.extBut b ob hL e)
  · obtain ⟨q, v', hv⟩ := F.cells n c e
    exact ⟨q, v', hv.sameBut hs (notL c v' hv)⟩
  · refine ⟨fun b ob e => ?_, F.st.hid, fun b hb => ?_⟩
    · exact hs.extBut b ob (fun hb => by have := F.old0 b ob e; rw [hb, F.fresh] at this; cases this) (F.st.old b ob e)
    · obtain ⟨ob, e⟩ := F.st.inn b hb
      by_cases hbL : b = env.locals
      · obtain ⟨oL, _, _, hL, _⟩ := hn'
        exact ⟨oL, hbL ▸ hL⟩
      · exact ⟨ob, hs.extBut b ob hbL e⟩
  · rw [Rho.get_del] at e
    by_cases hij : i = j
    · rw [if_pos hij] at e; cases e
    · rw [if_neg hij] at e
      obtain ⟨y, u, hy, hh, ru⟩ := F.rho j dj e
      have hxy : y ≠ x := fun e => hij (by
        have := (List.getElem?_inj (List.getElem?_eq_some_iff.mp hi).1 Z.nd).mp (hi.trans (e ▸ hy.symm))
        exact this)
      refine ⟨y, u, hy, ?_, Rz.kp kp _ ru⟩
      rcases hh with ⟨ky, my, hmy, hv⟩ | ⟨ky, c, hc, hv⟩
      · exact .inl ⟨ky, _, hn', by simp only [hxy, if_false]; rw [ns_eq hn hmy]; exact hv⟩
      · exact .inr ⟨ky, c, hc, hv.sameBut hs (notL c _ hv)⟩
  · have own := F.own
    cases o with
    | none => exact own
    | some p =>
      obtain ⟨B, n, vs, mB, a, b, c, dd, e, f, g, r1, r2, r3⟩ := own.ex
      have hpi : i ≠ p.1 := fun e => ho p.2 (by rw [e])
      have hnx : n ≠ x := fun e => hpi (by
        exact (List.getElem?_inj (List.getElem?_eq_some_iff.mp hi).1 Z.nd).mp (hi.trans (e ▸ b.symm)))
      have hBL : B ≠ env.locals := fun e => by
        obtain ⟨k, hB⟩ := f
        obtain ⟨oL, es, ep, hL, hdL, _⟩ := hn
        rw [e] at hB
        rw [hB] at hL; cases hL; cases hdL
      refine ⟨⟨B, n, vs, _, a, b, c, hn', by simp only [hnx, if_false]; rw [ns_eq hn dd]; exact e, f.at fun ob q => hs.extBut B ob hBL q, RzL.kp kp _ g, r1, r2, ?_⟩⟩
      rw [Rho.get_del, if_neg hpi]; exact r3
  · by_cases hbL : b = env.locals
    · obtain ⟨oL, _, _, hL, _⟩ := hn'
      exact ⟨oL, hbL ▸ hL⟩
    · exact ⟨ob, hs.extBut b ob hbL e⟩

theorem Fm.putAt {x : Str} {i : Nat} {v : Value} {d : PyData} (F : Fm C z env s₀ H₀ H (ρ.del i) o s) (hi : z.nms[i]? = some x) (hk : env.kindOf x = some .local) (ho : ∀ xs, o ≠ some (i, xs)) (hm : ∃ m, s.heap.Ns env.locals m ∧ m x = some v) (r : Rz H s.heap d v) :
    Fm C z env s₀ H₀ H (ρ.put i d) o s := by
  refine ⟨F.same, F.keep, F.fresh, F.ns, F.cells, F.apart, F.old0, F.st, fun j dj e => ?_, ?_⟩
  · rw [Rho.get_put] at e
    by_cases hij : i = j
    · rw [if_pos hij] at e; cases e
      exact ⟨x, v, hij ▸ hi, .inl ⟨hk, hm⟩, r⟩
    · rw [if_neg hij] at e
      exact F.rho j dj (by rw [Rho.get_del, if_neg hij]; exact e)
  · have own := F.own
    cases o with
    | none => exact own
    | some p =>
      obtain ⟨B, n, vs, mB, a, b, c, dd, e, f, g, r1, r2, r3⟩ := own.ex
      have hpi : i ≠ p.1 := fun e => ho p.2 (by rw [e])
      refine ⟨⟨B, n, vs, mB, a, b, c, dd, e, f, g, r1, r2, ?_⟩⟩
      rw [Rho.get_del, if_neg hpi] at r3
      rw [Rho.get_put, if_neg hpi]; exact r3
theorem Fm.kpPres (F : Fm C z env s₀ H₀ H ρ o s) (p : Pres env H s s') : Kp H s.heap s'.heap := fun b ob hb hsq e => by
  obtain ⟨xs, k, q⟩ := hsq
  refine p.keep b ob (fun hL => ?_) (fun n hc => ?_) hb e
  · obtain ⟨m, oL, es, ep, hL', hd, _⟩ := F.ns
    rw [← hL, e] at hL'; cases hL'
    rw [hd] at q; cases q
  · obtain ⟨_, v, oc, hoc, hd⟩ := F.cells n b hc
    rw [e] at hoc; cases hoc
    rw [hd] at q; cases q
theorem Fm.store {x : Str} {i : Nat} {v : Value} {d : PyData} {Q : Unit → Shared → Prop} {E : Value → Shared → Prop} (Z : EnvZ z env) (F : Fm C z env s₀ H₀ H ρ o s) (hi : z.nms[i]? = some x) (hk : env.kindOf x = some .local)
    (ho : ∀ xs, o ≠ some (i, xs)) (r : Rz H s.heap d v) (h : ∀ s', Fm C z env s₀ H₀ H (ρ.put i d) o s' → Pres env H s s' → Q () s') : wpAny C.M A (storeName env x v) Q E s :=
  F.storeRaw Z hi hk ho fun s' F' hm p _ => h s' (F'.putAt hi hk ho hm (Rz.kp (F.kpPres p) _ r)) p

/-! ## Statements -/
/-- the outcome of statements: the names, the own list, and what is handed back if they leave -/
abbrev Out := Rho × OwnL × Option PyData

noncomputable def XEnd (C : Cx) (z : Sc) (env : Env) (s₀ : Shared) (H₀ H : List Addr) (out : Out) (s : Shared) (f : Flow) (s' : Shared) : Prop :=
  Pres env H s s' ∧ match out.2.2 with
  | none => f = .next ∧ ∃ H', Fm C z env s₀ H₀ H' out.1 out.2.1 s' ∧ Hid H H' s
  | some d => ∃ v, f = .ret v ∧ Keeps s₀ s' ∧ Rz H₀ s'.heap d v
noncomputable def Xs (C : Cx) (A : Around) (z : Sc) (env : Env) (s₀ : Shared) (H₀ H : List Addr) (t : Sem Flow) (out : Out) (s : Shared) : Prop :=
  ∀ E, wpAny C.M A t (XEnd C z env s₀ H₀ H out s) E s

theorem XEnd.trans {out : Out} {f : Flow} {s'' : Shared} {H' : List Addr} (p : Pres env H s s') (hh : Hid H H' s) (x : XEnd C z env s₀ H₀ H' out s' f s'') : XEnd C z env s₀ H₀ H out s f s'' := by
  obtain ⟨p', y⟩ := x
  refine ⟨p.trans hh p', ?_⟩
  split at y
  · obtain ⟨hf, H'', F, k⟩ := y
    exact ⟨hf, H'', F, hh.trans p k⟩
  · exact y

theorem x_nil (F : Fm C z env s₀ H₀ H ρ o s) : Xs C A z env s₀ H₀ H (execs [] env) (ρ, o, none) s := fun E => wpAny_execs_nil ⟨Pres.refl, rfl, H, F, Hid.refl⟩
theorem x_cons {st : Stmt} {rest : List Stmt} {ρ1 : Rho} {o1 : OwnL} {out : Out} (h1 : Xs C A z env s₀ H₀ H (exec st env) (ρ1, o1, none) s)
    (h2 : ∀ H' s', Fm C z env s₀ H₀ H' ρ1 o1 s' → Xs C A z env s₀ H₀ H' (execs rest env) out s') : Xs C A z env s₀ H₀ H (execs (st :: rest) env) out s := fun E =>
  wpAny_execs_cons (wpAny_mono (h1 E) (fun f s' q => by
    obtain ⟨p, rfl, H', F, hh⟩ := q
    exact wpAny_mono (h2 H' s' F E) (fun f s'' q => q.trans p hh) fun _ _ x => x) fun _ _ x => x)
theorem x_cons_ret {st : Stmt} {rest : List Stmt} {ρ1 : Rho} {o1 : OwnL} {d : PyData} (h1 : Xs C A z env s₀ H₀ H (exec st env) (ρ1, o1, some d) s) : Xs C A z env s₀ H₀ H (execs (st :: rest) env) (ρ1, o1, some d) s := fun E =>
  wpAny_execs_cons (wpAny_mono (h1 E) (fun f s' q => by
    obtain ⟨p, v, rfl, k⟩ := q
    exact ⟨p, v, rfl, k⟩) fun _ _ x => x)

/-- off the own list too -/
theorem own_sub (F : Fm C z env s₀ H₀ H ρ o s) : ∀ b ∈ H₀, b ∈ H := fun b hb => by
  have own := F.own
  cases o with
  | none => exact own ▸ hb
  | some p =>
    obtain ⟨B, n, vs, m, rfl, _⟩ := own.ex
    exact .tail _ hb
theorem Fm.whole (F : Fm C z env s₀ H₀ H ρ o s) : Keeps s₀ s := by
  obtain ⟨h, tk, rfl⟩ := F.same
  exact ⟨h, tk, rfl, F.keep⟩

theorem x_ret {e : Expr} {pos : Pos} {d : PyData} (F : Fm C z env s₀ H₀ H ρ o s) (h : Gv C A H (eval e env) d s) : Xs C A z env s₀ H₀ H (exec (.Return (some e) pos) env) (ρ, o, some d) s := fun E =>
  wpAny_Return_some (h.use fun v s' k r => ⟨Pres.keeps k, v, rfl, Ks.trans F.whole k, Rz.off (fun a ob _ hn hm => hn (own_sub F a hm)) _ r⟩)

theorem x_asg {x : Str} {i : Nat} {e : Expr} {p pos : Pos} {d : PyData} (Z : EnvZ z env) (F : Fm C z env s₀ H₀ H ρ o s) (hi : z.nms[i]? = some x) (hk : env.kindOf x = some .local) (ho : ∀ xs, o ≠ some (i, xs))
    (h : Gv C A H (eval e env) d s) (hs : swapsWith e (some (.Name x p)) pos.line env = pure false) : Xs C A z env s₀ H₀ H (exec (.Assign [.Name x p] e pos) env) (ρ.put i d, o, none) s := fun E =>
  wpAny_Assign_Name (h.use fun v s' k r => (F.keeps k).store Z hi hk ho r fun s'' F'' p => ⟨(Pres.keeps k).trans Hid.refl p, rfl, H, F'', Hid.refl⟩) hs

theorem x_if {c : Expr} {a b : List Stmt} {pos : Pos} {t : Bool} {out : Out} (F : Fm C z env s₀ H₀ H ρ o s) (hc : Gb C A (isTrue c env (eval c env)) t s)
    (h : ∀ s', Fm C z env s₀ H₀ H ρ o s' → Xs C A z env s₀ H₀ H (execs (match t with | true => a | false => b) env) out s') : Xs C A z env s₀ H₀ H (exec (.If c a b pos) env) out s := fun E =>
  wpAny_If (hc.use fun s' k => by
    have := h s' (F.keeps k) E
    cases t with
    | true => exact wpAny_mono this (fun f s'' q => q.trans (Pres.keeps k) Hid.refl) fun _ _ x => x
    | false => exact wpAny_mono this (fun f s'' q => q.trans (Pres.keeps k) Hid.refl) fun _ _ x => x)

/-- x -= k -/
theorem x_sub {x : Str} {i : Nat} {e : Expr} {p pos : Pos} {a b : Int} (Z : EnvZ z env) (F : Fm C z env s₀ H₀ H ρ o s) (hi : z.nms[i]? = some x) (hk : env.kindOf x = some .local) (ho : ∀ xs, o ≠ some (i, xs))
    (ha : ρ.get i = some (.int a)) (h : ∀ s', Keeps s s' → Gv C A H (eval e env) (.int b) s') : Xs C A z env s₀ H₀ H (exec (.AugAssign (.Name x p) .Sub e pos) env) (ρ.put i (.int (a - b)), o, none) s := fun E => by
  obtain ⟨y, v, hy, hh, r⟩ := F.rho i _ ha
  have hyx : y = x := Option.some.inj (hy.symm.trans hi)
  subst hyx
  obtain ⟨t, rfl⟩ := r
  refine wpAny_AugAssign_Name ?_
  have key : wpAny C.M A (eval e env) (fun v s₂ => wpAny C.M A (inplaceOp .Sub (.int a t) v) (fun r s₃ => wpAny C.M A (storeName env y r) (fun _ => XEnd C z env s₀ H₀ H (ρ.put i (.int (a - b)), o, none) s .next) E s₃) E s₂) E s :=
    (h s (Ks.refl s)).use fun v s' k r => by
      obtain ⟨t', rfl⟩ := r
      refine AutoIntOps.isub_0 ?_
      have k2 := Ks.trans k (Ks.tok s' (s'.toks + 1))
      exact (F.keeps k2).store (d := .int (a - b)) Z hi hk ho (Exists.intro _ rfl) fun s'' F'' p => ⟨(Pres.keeps k2).trans Hid.refl p, rfl, H, F'', Hid.refl⟩
  rcases hh with ⟨_, m, hn, hv⟩ | ⟨kc, _⟩
  · exact wpAny_loadName_local Z.fn hk hn hv key
  · rw [hk] at kc; cases kc

end
end Mine
namespace Mine
open PySem PySem.Spec PySem.Calls PyProof.Rows

/-- objects that are no names', no cells', no lists (iterators) -/
structure Alien (env : Env) (h0 : Heap) (H : List Addr) (I : Addr) (h : Heap) : Prop where
  new : h0.get? I = none
  loc : I ≠ env.locals
  cell : ∀ n, env.cells.lookup n ≠ some I
  hid : I ∉ H
  data : ∀ o xs k, h.get? I = some o → o.data ≠ .seq xs k

section
variable {C : Cx} {A : Around} {H H' H₀ : List Addr} {s s' s₀ : Shared} {env : Env} {z : Sc} {ρ : Rho} {o : OwnL}

theorem Fm.kpBut (F : Fm C z env s₀ H₀ H ρ o s) {W : List Addr} {h' : Heap} (a : ∀ I ∈ W, Alien env s₀.heap H I s.heap) (k : ∀ b o, b ∉ W → s.heap.get? b = some o → h'.get? b = some o) : Kp H s.heap h' := fun b ob _ hsq e =>
  k b ob (fun hm => by obtain ⟨xs, n, q⟩ := hsq; exact (a b hm).data ob xs n e q) e
theorem Fm.but (F : Fm C z env s₀ H₀ H ρ o s) {W : List Addr} {h' : Heap} {tk : Nat} (a : ∀ I ∈ W, Alien env s₀.heap H I s.heap) (k : ∀ b o, b ∉ W → s.heap.get? b = some o → h'.get? b = some o) :
    Fm C z env s₀ H₀ H ρ o { s with heap := h', toks := tk } := by
  have kp := F.kpBut a k
  obtain ⟨h1, tk1, hs⟩ := F.same
  have locs : ∀ m, s.heap.Ns env.locals m → h'.Ns env.locals m := fun m hn => hn.at' fun ob e => k _ ob (fun hm => (a _ hm).loc rfl) e
  have cell : ∀ n c v, env.cells.lookup n = some c → s.heap.IsCell c v → h'.IsCell c v := fun n c v hc ⟨oc, e, hd⟩ => ⟨oc, k c oc (fun hm => (a c hm).cell n hc) e, hd⟩
  refine ⟨⟨h', tk, by rw [hs]⟩, fun b ob e => k b ob (fun hm => by rw [(a b hm).new] at e; cases e) (F.keep b ob e), F.fresh, let ⟨m, hn⟩ := F.ns; ⟨m, locs m hn⟩, fun n c e => ?_, F.apart, F.old0, ?_, fun j dj e => ?_, ?_⟩
  · obtain ⟨q, v, hv⟩ := F.cells n c e
    exact ⟨q, v, cell n c v e hv⟩
  · refine ⟨fun b ob e => k b ob (fun hm => ?_) (F.st.old b ob e), F.st.hid, fun b hb => ?_⟩
    · have := F.old0 b ob e
      rw [(a b hm).new] at this; cases this
    · obtain ⟨ob, e⟩ := F.st.inn b hb
      exact ⟨ob, k b ob (fun hm => (a b hm).hid hb) e⟩
  · obtain ⟨y, u, hy, hh, ru⟩ := F.rho j dj e
    refine ⟨y, u, hy, ?_, Rz.kp kp _ ru⟩
    rcases hh with ⟨ky, my, hmy, hv⟩ | ⟨ky, c, hc, hv⟩
    · exact .inl ⟨ky, my, locs my hmy, hv⟩
    · exact .inr ⟨ky, c, hc, cell _ c _ hc hv⟩
  · have own := F.own
    cases o with
    | none => exact own
    | some p =>
      obtain ⟨B, n, vs, mB, a1, b, c, dd, e, f, g, r1⟩ := own.ex
      refine ⟨⟨B, n, vs, mB, a1, b, c, locs mB dd, e, f.at fun ob q => k B ob (fun hm => ?_) q, RzL.kp kp _ g, r1⟩⟩
      obtain ⟨k0, hB⟩ := f
      exact (a B hm).data _ _ _ hB rfl

/-- what is borne stays so over statements -/
theorem hid_off (hh : Hid H H' s) : ∀ a ob, s.heap.get? a = some ob → a ∉ H → a ∉ H' := fun a ob e hn hm => (hh a hm).elim hn fun z => by rw [z] at e; cases e
theorem Fm.rzPres (F : Fm C z env s₀ H₀ H ρ o s) (p : Pres env H s s') (hh : Hid H H' s) {d : PyData} {v : Value} (r : Rz H s.heap d v) : Rz H' s'.heap d v := by
  have r0 : Rz (H ++ H') s.heap d v := Rz.off (fun a ob e hn hm => (List.mem_append.mp hm).elim hn (hid_off hh a ob e hn)) _ r
  have r1 := Rz.kp ((F.kpPres p).sub fun b hb => List.mem_append_left H' hb) _ r0
  exact Rz.off (fun a ob e hn hm => hn (List.mem_append_right H hm)) _ r1


/-! ## while -/
theorem x_while {c : Expr} {body : List Stmt} {pos : Pos} {out : Out} (I : Nat → Rho → OwnL → Prop)
    (turn : ∀ n ρ' o', I n ρ' o' → ∃ t, (∀ H' s', Fm C z env s₀ H₀ H' ρ' o' s' → Gb C A (isTrue c env (eval c env)) t s') ∧
      match t with
      | false => out = (ρ', o', none)
      | true => ∃ o1 : Out, (∀ H' s', Fm C z env s₀ H₀ H' ρ' o' s' → Xs C A z env s₀ H₀ H' (execs body env) o1 s') ∧
        match o1.2.2 with
        | none => ∃ m, m < n ∧ I m o1.1 o1.2.1
        | some d => out.2.2 = some d)
    (F : Fm C z env s₀ H₀ H ρ o s) (n : Nat) (h : I n ρ o) : Xs C A z env s₀ H₀ H (exec (.While c body [] pos) env) out s := fun E => by
  refine wpAny_While (codeAny_whileLoop (A := A.mark none) (fun n s' => ∃ ρ' o' H', I n ρ' o' ∧ Fm C z env s₀ H₀ H' ρ' o' s' ∧ Pres env H s s' ∧ Hid H H' s) ?_ n ⟨ρ, o, H, h, F, Pres.refl, Hid.refl⟩)
  rintro n s' ⟨ρ', o', H', hI, F', p, hh⟩
  obtain ⟨t, ht, hm⟩ := turn n ρ' o' hI
  refine (ht H' s' F').use fun s2 k2 => ?_
  have F2 := F'.keeps k2
  have p2 : Pres env H s s2 := p.trans hh (Pres.keeps k2)
  cases t with
  | false =>
    subst hm
    exact wpAny_execs_nil ⟨p2, rfl, H', F2, hh⟩
  | true =>
    obtain ⟨o1, hb, hr⟩ := hm
    refine wpAny_mono (hb H' s2 F2 _) (fun f s3 q => ?_) fun _ _ x => x
    obtain ⟨p3, q⟩ := q
    split at q
    · rename_i h1
      rw [h1] at hr
      obtain ⟨rfl, H3, F3, hh3⟩ := q
      obtain ⟨m, hlt, hI3⟩ := hr
      exact ⟨m, hlt, o1.1, o1.2.1, H3, hI3, F3, p2.trans hh p3, hh.trans p2 hh3⟩
    · rename_i d h1
      rw [h1] at hr
      obtain ⟨v, rfl, k, r⟩ := q
      refine ⟨p2.trans hh p3, ?_⟩
      rw [hr]
      exact ⟨v, rfl, k, r⟩

/-! ## for x in a tuple -/
theorem x_forT {x : Str} {i : Nat} {px pos : Pos} {iter : Expr} {body : List Stmt} {ls : List PyData} {out : Out} {n : Nat} (R : Room A n) (Z : EnvZ z env) (F : Fm C z env s₀ H₀ H ρ o s)
    (hi : z.nms[i]? = some x) (hk : env.kindOf x = some .local)
    (hs : ∀ x, foldedSetIterable iter env x = pure x) (ha : Gv C A H (eval iter env) (.tuple ls) s) (I : Nat → Rho → OwnL → Prop)
    (turn : ∀ j ρ' o', I j ρ' o' → match ls[j]? with
      | none => out = (ρ', o', none)
      | some d => (∀ xs, o' ≠ some (i, xs)) ∧ ∃ o1 : Out, (∀ H' s', Fm C z env s₀ H₀ H' (ρ'.put i d) o' s' → Xs C A z env s₀ H₀ H' (execs body env) o1 s') ∧
        match o1.2.2 with
        | none => I (j + 1) o1.1 o1.2.1
        | some d => out.2.2 = some d)
    (h : I 0 ρ o) : Xs C A z env s₀ H₀ H (exec (.For (.Name x px) iter body [] pos) env) out s := fun E => by
  refine wpAny_For (ha.use fun xv s₁ k₁ r₁ => ?_) hs
  obtain ⟨t, vs, rfl, htH, ht, hr⟩ := r₁
  have F1 := F.keeps k₁
  have len := RzL.len hr
  have hsz : vs.toList.length = vs.size := by simp
  refine wpAny_pyIter_tuple ht ?_
  have htlt : t < s₁.heap.objs.size := by obtain ⟨_, e, _⟩ := ht; exact Heap.lt_size e
  have hk2 : Keeps s₁ { s₁ with heap := s₁.heap.push { cls := .type "tuple_iterator", data := .fields #[.ref t, .int 0 0] } } := Ks.push s₁ _ _
  have F2 := F1.keeps hk2
  have hIt : ({ s₁ with heap := s₁.heap.push { cls := .type "tuple_iterator", data := .fields #[.ref t, .int 0 0] } } : Shared).heap.IsTupleIter s₁.heap.objs.size t 0 := ⟨_, Heap.get?_push_size _ rfl, rfl, rfl⟩
  have nI : ∀ b ob, s₁.heap.get? b = some ob → b ≠ s₁.heap.objs.size := fun b ob e => Nat.ne_of_lt (Heap.lt_size e)
  have alien : ∀ H', s₁.heap.objs.size ∉ H' → ∀ g : Heap, (∀ ob xs k, g.get? s₁.heap.objs.size = some ob → ob.data ≠ .seq xs k) → Alien env s₀.heap H' s₁.heap.objs.size g := fun H' hn g hd => by
    refine ⟨?_, ?_, ?_, hn, hd⟩
    · cases e : s₀.heap.get? s₁.heap.objs.size with
      | none => rfl
      | some ob => exact absurd rfl (nI _ _ (F1.keep _ _ e))
    · intro e
      obtain ⟨m, oL, _, _, hL, _⟩ := F1.ns
      exact nI _ _ hL e.symm
    · intro nn e
      obtain ⟨_, v, oc, hoc, _⟩ := F1.cells nn _ e
      exact nI _ _ hoc rfl
  have hItH : s₁.heap.objs.size ∉ H := F1.st.size
  have hne : t ≠ s₁.heap.objs.size := Nat.ne_of_lt htlt
  -- the loop
  refine codeAny_forLoop (A := A.mark none) (fun k s' => ∃ ρ' o' H' j, I j ρ' o' ∧ Fm C z env s₀ H₀ H' ρ' o' s' ∧ Pres env H s s' ∧ Hid H H' s ∧ Hid H H' { s₁ with heap := s₁.heap.push { cls := .type "tuple_iterator", data := .fields #[.ref t, .int 0 0] } } ∧
      s'.heap.IsTupleIter s₁.heap.objs.size t j ∧ t ∉ H' ∧ s'.heap.IsTuple t vs ∧ RzL H' s'.heap ls vs.toList ∧ j ≤ ls.length ∧ k = ls.length + 1 - j ∧ (∀ b ob, (s₁.heap.push { cls := .type "tuple_iterator", data := .fields #[.ref t, .int 0 0] }).get? b = some ob → ∃ o', s'.heap.get? b = some o')) ?_ (ls.length + 1)
    ⟨ρ, o, H, 0, h, F2, (Pres.keeps k₁).trans Hid.refl (Pres.keeps hk2), Hid.refl, Hid.refl, hIt, htH, ht.push _, hr.keeps (Ks.heap hk2), Nat.zero_le _, rfl, fun b ob e => ⟨ob, e⟩⟩
  rintro k s' ⟨ρ', o', H', j, hI, F', p, hh, hh2, hit, htH', ht', hr', hj, rfl, hlive⟩
  have hItH' : s₁.heap.objs.size ∉ H' := fun hm => by
    rcases hh2 _ hm with q | q
    · exact hItH q
    · rw [Heap.get?_push_size _ rfl] at q; cases q
  have al : ∀ b ∈ [s₁.heap.objs.size], Alien env s₀.heap H' b s'.heap := fun b hb => by
    rw [List.mem_singleton.mp hb]
    refine alien H' hItH' _ fun ob xs k e q => ?_
    obtain ⟨o2, ho2, _, hd⟩ := hit
    rw [ho2] at e; cases e
    rw [hd] at q; cases q
  have tn := turn j ρ' o' hI
  cases hl : ls[j]? with
  | none =>
    rw [hl] at tn
    have hjl : ls.length ≤ j := List.getElem?_eq_none_iff.mp hl
    have hv : vs[j]? = none := Array.getElem?_eq_none (by omega)
    refine wpAny_pyNext_tuple_end R.h hit ht' hv fun h₁ he₁ => wpAny_execs_nil ?_
    have kk : ∀ b ob, b ∉ [s₁.heap.objs.size] → s'.heap.get? b = some ob → h₁.get? b = some ob := fun b ob hn e => he₁ b ob (fun q => hn (List.mem_singleton.mpr q)) e
    have F3 := F'.but (tk := s'.toks) al kk
    subst tn
    refine ⟨⟨fun b ob h1 h2 h3 e => kk b ob (fun hm => ?_) (p.keep b ob h1 h2 h3 e), fun b ob e => ?_⟩, rfl, H', F3, hh⟩
    · rw [List.mem_singleton.mp hm] at e
      exact nI _ _ (Ks.heap k₁ _ _ e) rfl
    · obtain ⟨o2, e2⟩ := p.live b ob e
      exact ⟨o2, kk b o2 (fun hm => nI _ _ (Ks.heap k₁ _ _ e) (List.mem_singleton.mp hm)) e2⟩
  | some d =>
    rw [hl] at tn
    obtain ⟨hown, o1, hb, hres⟩ := tn
    have hjl : j < ls.length := (List.getElem?_eq_some_iff.mp hl).1
    obtain ⟨v, hv, rv⟩ := Rz.get hr' hl
    refine wpAny_pyNext_tuple_item hit ht' hv fun h₁ hit₁ hs₁ => ?_
    have kk : ∀ b ob, b ∉ [s₁.heap.objs.size] → s'.heap.get? b = some ob → h₁.get? b = some ob := fun b ob hn e => hs₁.extBut b ob (fun q => hn (List.mem_singleton.mpr q)) e
    have F3 := F'.but (tk := s'.toks) al kk
    have kp := F'.kpBut al kk
    have p3 : Pres env H s { s' with heap := h₁ } := ⟨fun b ob h1 h2 h3 e => kk b ob (fun hm => by
        rw [List.mem_singleton.mp hm] at e
        exact nI _ _ (Ks.heap k₁ _ _ e) rfl) (p.keep b ob h1 h2 h3 e), fun b ob e => by
      obtain ⟨o2, e2⟩ := p.live b ob e
      exact ⟨o2, kk b o2 (fun hm => nI _ _ (Ks.heap k₁ _ _ e) (List.mem_singleton.mp hm)) e2⟩⟩
    refine wpAny_assign_Name (F3.store Z hi hk hown (Rz.kp kp _ rv) fun s₄ F4 p4 => ?_)
    refine wpAny_mono (hb H' s₄ F4 _) (fun f s₅ q => ?_) fun _ _ x => x
    obtain ⟨p5, q⟩ := q
    have p34 : Pres env H s s₄ := p3.trans hh p4
    have p35 : Pres env H s s₅ := p34.trans hh p5
    split at q
    · rename_i h1
      rw [h1] at hres
      obtain ⟨rfl, H5, F5, hh5⟩ := q
      have live4 : ∃ o', s₄.heap.get? s₁.heap.objs.size = some o' := by
        obtain ⟨oi, hoi, _⟩ := hit₁
        exact p4.live _ oi hoi
      have stay : ∀ b ob, b ≠ env.locals → (∀ n, env.cells.lookup n ≠ some b) → b ∉ H' → h₁.get? b = some ob → s₅.heap.get? b = some ob := fun b ob x1 x2 x3 e => p5.keep b ob x1 x2 x3 (p4.keep b ob x1 x2 x3 e)
      have a1 := alien H' hItH' h₁ fun ob xs k e q => by
        obtain ⟨o2, ho2, _, hd⟩ := hit₁
        rw [ho2] at e; cases e
        rw [hd] at q; cases q
      have htloc : ∀ g : Heap, g.IsTuple t vs → True := fun _ _ => trivial
      have hit5 : s₅.heap.IsTupleIter s₁.heap.objs.size t (j + 1) := hit₁.at fun ob e => stay _ ob a1.loc a1.cell hItH' e
      have ht1 : h₁.IsTuple t vs := ht'.at fun ob e => hs₁.extBut t ob hne e
      have kp5 : Kp H' h₁ s₅.heap := fun b ob hb' hsq e => F4.kpPres p5 b ob hb' hsq (F3.kpPres p4 b ob hb' hsq e)
      have hhA : Hid H' H5 s₄ := hh5
      have htH5 : t ∉ H5 := fun hm => by
        rcases hh5 t hm with q | q
        · exact htH' q
        · obtain ⟨ot, hot, _⟩ := ht1
          obtain ⟨o2, e2⟩ := p4.live t ot hot
          rw [q] at e2; cases e2
      have ht5 : s₅.heap.IsTuple t vs := by
        obtain ⟨ot, hot, hc, nn, hd⟩ := ht1
        exact ⟨ot, kp5 t ot htH' ⟨vs, nn, hd⟩ hot, hc, nn, hd⟩
      have hr5 : RzL H5 s₅.heap ls vs.toList := by
        have r0 : RzL (H' ++ H5) h₁ ls vs.toList := RzL.off (fun a ob e hn hm => (List.mem_append.mp hm).elim hn fun hm5 => by
          rcases hh5 a hm5 with q | q
          · exact hn q
          · obtain ⟨o2, e2⟩ := p4.live a ob e
            rw [q] at e2; cases e2) _ (RzL.kp kp _ hr')
        exact RzL.off (fun a ob e hn hm => hn (List.mem_append_right H' hm)) _ (RzL.kp (kp5.sub fun b hb => List.mem_append_left H5 hb) _ r0)
      have live5 : ∀ b ob, (s₁.heap.push { cls := .type "tuple_iterator", data := .fields #[.ref t, .int 0 0] }).get? b = some ob → (∃ o', s₄.heap.get? b = some o') ∧ ∃ o', s₅.heap.get? b = some o' := fun b ob e => by
        obtain ⟨o1, e1⟩ := hlive b ob e
        obtain ⟨o2, e2⟩ : ∃ o', h₁.get? b = some o' := by
          by_cases hbi : b = s₁.heap.objs.size
          · obtain ⟨oi, hoi, _⟩ := hit₁
            exact ⟨oi, hbi ▸ hoi⟩
          · exact ⟨o1, hs₁.extBut b o1 hbi e1⟩
        obtain ⟨o3, e3⟩ := p4.live b o2 e2
        exact ⟨⟨o3, e3⟩, p5.live b o3 e3⟩
      refine ⟨ls.length + 1 - (j + 1), by omega, o1.1, o1.2.1, H5, j + 1, hres, F5, p35, hh.trans p34 hh5, fun b hb => ?_, hit5, htH5, ht5, hr5, hjl, rfl, fun b ob e => (live5 b ob e).2⟩
      rcases hh5 b hb with q | q
      · exact hh2 b q
      · refine .inr ?_
        cases e : (s₁.heap.push { cls := .type "tuple_iterator", data := .fields #[.ref t, .int 0 0] }).get? b with
        | none => rfl
        | some ob =>
          obtain ⟨o', e'⟩ := (live5 b ob e).1
          rw [q] at e'; cases e'
    · rename_i d' h1
      rw [h1] at hres
      obtain ⟨v', rfl, k', r'⟩ := q
      refine ⟨p35, ?_⟩
      rw [hres]
      exact ⟨v', rfl, k', r'⟩

end
end Mine
namespace Mine
open PySem PySem.Spec PySem.Calls PyProof.Rows

noncomputable def Rho.puts : Rho → List Nat → List PyData → Rho
  | r, i :: is, d :: ds => (r.put i d).puts is ds
  | r, _, _ => r
/-- a tree that stores a name -/
noncomputable def StoreF (C : Cx) (A : Around) (env : Env) (x : Str) (f : Value → Sem Unit) : Prop := ∀ (v : Value) (Q : Unit → Shared → Prop) (E : Value → Shared → Prop) (s : Shared), wpAny C.M A (storeName env x v) Q E s → wpAny C.M A (f v) Q E s

section
variable {C : Cx} {A : Around} {H H' H₀ : List Addr} {s s' s₀ : Shared} {env : Env} {z : Sc} {ρ : Rho} {o : OwnL}

theorem storeF_bind {x : Str} : StoreF C A env x (bindName env x) := fun v Q E s h => wpAny_bindName h
theorem storeF_assign {x : Str} {p : Pos} : StoreF C A env x (assign (.Name x p) env) := fun v Q E s h => wpAny_assign_Name h

theorem in_order {Q : Unit → Shared → Prop} {E : Value → Shared → Prop} (Z : EnvZ z env) : ∀ (fs : List (Value → Sem Unit)) (is : List Nat) (xs : List Str) (ds : List PyData) (vs : List Value) (ρ : Rho) (s : Shared),
    fs.length = is.length → xs.length = is.length → ds.length = is.length → (∀ (k : Nat) f x, fs[k]? = some f → xs[k]? = some x → StoreF C A env x f) → (∀ (k : Nat) i x, is[k]? = some i → xs[k]? = some x → z.nms[i]? = some x ∧ env.kindOf x = some .local ∧ ∀ ys, o ≠ some (i, ys)) →
    Fm C z env s₀ H₀ H ρ o s → RzL H s.heap ds vs → (∀ s', Fm C z env s₀ H₀ H (ρ.puts is ds) o s' → Pres env H s s' → Q () s') → wpAny C.M A (assignInOrder fs vs) Q E s
  | [], is, _, ds, vs, ρ, s, h1, _, h3, _, _, F, r, h => by
    have e1 : is = [] := List.length_eq_zero_iff.mp h1.symm
    subst e1
    have e2 : ds = [] := List.length_eq_zero_iff.mp h3
    subst e2
    cases r
    exact wpAny_pure (h s F Pres.refl)
  | f :: fs, is, xs, ds, vs, ρ, s, h1, h2, h3, hf, hx, F, r, h => by
    cases is with
    | nil => cases h1
    | cons i is =>
      cases xs with
      | nil => cases h2
      | cons x xs =>
        cases ds with
        | nil => cases h3
        | cons d ds =>
          obtain ⟨v, vs', rfl, r1, r2⟩ := r
          obtain ⟨a1, a2, a3⟩ := hx 0 i x rfl rfl
          show wpAny C.M A (do holding vs' (f v); assignInOrder fs vs') Q E s
          refine wpAny_bind (wpAny_holding (hf 0 f x rfl rfl v _ _ _ (F.store Z a1 a2 a3 r1 fun s' F' p => ?_)))
          exact in_order Z fs is xs ds vs' (ρ.put i d) s' (Nat.succ.inj h1) (Nat.succ.inj h2) (Nat.succ.inj h3) (fun k f x e1 e2 => hf (k + 1) f x e1 e2) (fun k i x e1 e2 => hx (k + 1) i x e1 e2) F' (RzL.kp (F.kpPres p) _ r2)
            fun s'' F'' p' => h s'' F'' (p.trans Hid.refl p')

theorem rzl_rev {h : Heap} : ∀ {ds : List PyData} {vs : List Value}, RzL H h ds vs → RzL H h ds.reverse vs.reverse
  | [], _, r => by cases r; simp [RzL]
  | d :: ds, _, r => by
    obtain ⟨v, vs', rfl, r1, r2⟩ := r
    rw [List.reverse_cons, List.reverse_cons]
    have r3 : RzL H h [d] [v] := ⟨v, [], rfl, r1, rfl⟩
    exact RzL.app (rzl_rev r2) r3

theorem ext_keeps {h' : Heap} (he : Heap.ExtBut s.heap.objs.size s.heap h') : Keeps s { s with heap := h' } := ⟨h', _, rfl, fun b o e => he b o (Nat.ne_of_lt (Heap.lt_size e)) e⟩

/-- a, b = e, a tuple written out: the names are stored from behind -/
theorem x_asgT_sw {elts : List Expr} {k : Nat} {tpos pos : Pos} {value : Expr} {names : List Str} {is : List Nat} {ds : List PyData} {n : Nat} (R : Room A n) (Z : EnvZ z env) (F : Fm C z env s₀ H₀ H ρ o s)
    (hv : Gv C A H (eval value env) (.tuple ds) s) (hl : names.length = is.length) (hd : ds.length = is.length)
    (hx : ∀ (k : Nat) i x, is[k]? = some i → names[k]? = some x → z.nms[i]? = some x ∧ env.kindOf x = some .local ∧ ∀ ys, o ≠ some (i, ys))
    (hs : swapsWithSole [.Tuple elts k tpos] value pos.line env = pure false) (hw : swappedStores [.Tuple elts k tpos] value env = pure (some names)) :
    Xs C A z env s₀ H₀ H (exec (.Assign [.Tuple elts k tpos] value pos) env) (ρ.puts is.reverse ds.reverse, o, none) s := fun E => by
  refine Assign_Tuple_swapped (hv.use fun v s1 k1 r1 => ?_) hs hw
  obtain ⟨t, vs, rfl, _, ht, hr⟩ := r1
  have len := RzL.len hr
  have hsz : vs.toList.length = vs.size := by simp
  rw [show names.length = vs.size by omega]
  refine wpAny_unpackItems_tuple R.h ht fun h' he => ?_
  have k2 := ext_keeps he
  have k3 := Ks.trans k1 k2
  refine in_order Z (names.reverse.map fun n => bindName env n) is.reverse names.reverse ds.reverse vs.toList.reverse ρ _ (by simp [hl]) (by simp [hl]) (by simp [hd]) ?_ ?_ (F.keeps k3) (rzl_rev (hr.keeps (Ks.heap k2))) fun s' F' p => ⟨(Pres.keeps k3).trans Hid.refl p, rfl, H, F', Hid.refl⟩
  · intro j f x e1 e2
    rw [List.getElem?_map, e2] at e1
    cases e1
    exact storeF_bind
  · intro j i x e1 e2
    have hj : j < is.length := by
      have := (List.getElem?_eq_some_iff.mp e1).1
      simpa using this
    rw [List.getElem?_reverse hj] at e1
    rw [List.getElem?_reverse (by omega), hl] at e2
    exact hx _ i x e1 e2

theorem assignEach_names : ∀ (xs : List (Str × Pos)), (assignEach (xs.map fun x => Expr.Name x.1 x.2) env) = xs.map fun x => (false, assign (.Name x.1 x.2) env)
  | [] => rfl
  | x :: r => by
    rw [List.map_cons, List.map_cons, ← assignEach_names r]
    rfl
/-- a, b = e, any tuple -/
theorem x_asgT {xs : List (Str × Pos)} {k : Nat} {tpos pos : Pos} {value : Expr} {is : List Nat} {ds : List PyData} {n : Nat} (R : Room A n) (Z : EnvZ z env) (F : Fm C z env s₀ H₀ H ρ o s)
    (hv : Gv C A H (eval value env) (.tuple ds) s) (hl : xs.length = is.length) (hd : ds.length = is.length)
    (hx : ∀ (k : Nat) i x, is[k]? = some i → (xs.map (·.1))[k]? = some x → z.nms[i]? = some x ∧ env.kindOf x = some .local ∧ ∀ ys, o ≠ some (i, ys))
    (hs : swapsWithSole [.Tuple (xs.map fun x => Expr.Name x.1 x.2) k tpos] value pos.line env = pure false) (hw : swappedStores [.Tuple (xs.map fun x => Expr.Name x.1 x.2) k tpos] value env = pure none) :
    Xs C A z env s₀ H₀ H (exec (.Assign [.Tuple (xs.map fun x => Expr.Name x.1 x.2) k tpos] value pos) env) (ρ.puts is ds, o, none) s := fun E => by
  refine Assign_Tuple (hv.use fun v s1 k1 r1 => ?_) hs hw
  obtain ⟨t, vs, rfl, _, ht, hr⟩ := r1
  have len := RzL.len hr
  have hsz : vs.toList.length = vs.size := by simp
  have ha := assignEach_names (env := env) xs
  refine wpAny_assign_Tuple R.h ht (by rw [ha, List.length_map]; omega) ?_ fun h' he => ?_
  · rw [ha]
    rw [List.findIdx?_eq_none_iff]
    intro p hp
    obtain ⟨q, _, rfl⟩ := List.mem_map.mp hp
    rfl
  have k2 := ext_keeps he
  have k3 := Ks.trans k1 k2
  rw [ha, List.map_map]
  refine in_order Z _ is (xs.map (·.1)) ds vs.toList ρ _ (by simp [hl]) (by simp [hl]) hd ?_ hx (F.keeps k3) (hr.keeps (Ks.heap k2)) fun s' F' p => ⟨(Pres.keeps k3).trans Hid.refl p, rfl, H, F', Hid.refl⟩
  intro j f x e1 e2
  rw [List.getElem?_map] at e1 e2
  obtain ⟨q, hq, rfl⟩ := Option.map_eq_some_iff.mp e1
  rw [hq] at e2
  cases e2
  exact storeF_assign

/-! ## A list of the frame's own -/
/-- a tree that gives a list that stands nowhere yet -/
noncomputable def Gf (C : Cx) (A : Around) (H : List Addr) (t : Sem Value) (ds : List PyData) (s : Shared) : Prop :=
  ∀ E, wpAny C.M A t (fun v s' => Keeps s s' ∧ ∃ B vs, v = .ref B ∧ s.heap.get? B = none ∧ B ∉ H ∧ s'.heap.PlainList B vs ∧ RzL (B :: H) s'.heap ds vs.toList) E s
theorem gf_rep {elts : List Expr} {e : Expr} {p pos : Pos} {xs : List PyData} {k : Int} (S : St C H s) (hl : ∀ s', Keeps s s' → Gv C A H (eval (.List elts p) env) (.list xs) s') (he : ∀ s', Keeps s s' → Gv C A H (eval e env) (.int k) s')
    (h0 : 0 ≤ k) (hz : xs.length * k.toNat ≤ 5000) (hk : k ≤ 5000) : Gf C A H (eval (.BinOp (.List elts p) .Mult e pos) env) (List.replicate k.toNat xs).flatten s := fun E => by
  refine wpAny_BinOp ((hl s (Ks.refl s)).use fun v s1 k1 r1 => (he s1 k1).use fun u s2 k2 r2 => ?_)
  obtain ⟨l, va, rfl, _, hlp, ra⟩ := r1.keeps (Ks.heap k2)
  obtain ⟨t, rfl⟩ := r2
  have len := RzL.len ra
  have e1 : va.toList.length = va.size := by simp
  have S2 := S.keeps (Ks.trans k1 k2)
  obtain ⟨n, ho⟩ := hlp
  have hz2 : va.size * k.toNat ≤ 5000 := by rw [← e1, len]; exact hz
  have hsz' : va.size * k.toNat ≤ 2 ^ 24 := by omega
  have h63 : k < 2 ^ 63 := by omega
  have k12 := Ks.trans k1 k2
  have fresh : s.heap.get? s2.heap.objs.size = none := by
    cases e : s.heap.get? s2.heap.objs.size with
    | none => rfl
    | some o => exact absurd (Heap.lt_size (Ks.heap k12 _ _ e)) (Nat.lt_irrefl _)
  refine wpAny_binaryOp_repeat_ref (T := "list") (U := "int") (by decide) ⟨_, ho, rfl⟩ (fun s' => typeIs_int s' k t) noFill_list_mul F.fills_int_mul F.slot_int_rmul repeat_list F.slot_int_index.lookup
    (call_meets F.slot_int_rmul (typeIs_int s2 k t) F.entry_int_rmul (F.args_int_rmul_2 _ _) (lm_int_rmul_list_any k t l va n none #[])
      ⟨ho, rfl, ⟨_, ho, rfl⟩, call_meets F.slot_list_mul ⟨_, ho, rfl⟩ F.entry_list_mul (F.args_list_mul_2 _ _)
        (lm_list_mul_any l va n none #[] k t (by simp [Builtin.List.listFitsIndex]; omega) (by omega) (by simp [Builtin.List.listTooLong, sizeLine]; omega))
        ⟨ho, ?_⟩⟩)
  refine ⟨Ks.trans k12 (Ks.push s2 _ _), _, _, rfl, fresh, S2.size, ⟨_, Heap.get?_push_size _ rfl⟩, ?_⟩
  rw [listMul_foldl_if]
  have r3 : RzL (s2.heap.objs.size :: H) s2.heap (List.replicate k.toNat xs).flatten (List.replicate k.toNat va.toList).flatten :=
    RzL.off (fun a o e hn hm => by
      rcases List.mem_cons.mp hm with rfl | hm
      · exact absurd (Heap.lt_size e) (Nat.lt_irrefl _)
      · exact hn hm) _ (RzL.rep ra _)
  exact r3.keeps fun _ _ e => Heap.get?_push_of_some _ e

/-- the frame takes the list as its own, hidden from all else -/
theorem Fm.hide {B : Addr} {vs : Array Value} (F : Fm C z env s₀ H₀ H₀ ρ none s) (k : Keeps s s') (hB : s.heap.get? B = none) (hp : s'.heap.PlainList B vs) : Fm C z env s₀ (B :: H₀) (B :: H₀) ρ none s' := by
  have F' := F.keeps k
  refine ⟨F'.same, F'.keep, F'.fresh, F'.ns, F'.cells, F'.apart, F'.old0, ⟨F'.st.old, fun b hb => ?_, fun b hb => ?_⟩, fun j d e => ?_, rfl⟩
  · rcases List.mem_cons.mp hb with rfl | hb
    · cases e : C.h0.get? b with
      | none => rfl
      | some o => rw [F.st.old b o e] at hB; cases hB
    · exact F'.st.hid b hb
  · rcases List.mem_cons.mp hb with rfl | hb
    · obtain ⟨n, e⟩ := hp
      exact ⟨_, e⟩
    · exact F'.st.inn b hb
  · obtain ⟨x, v, a, b, r⟩ := F.rho j d e
    refine ⟨x, v, a, b.keeps (Ks.heap k), Rz.keeps (Rz.off (fun a o e hn hm => ?_) _ r) (Ks.heap k)⟩
    rcases List.mem_cons.mp hm with rfl | hm
    · rw [hB] at e; cases e
    · exact hn hm
theorem Fm.take {B : Addr} {x : Str} {i : Nat} {vs : Array Value} {xs : List PyData} (F : Fm C z env s₀ (B :: H₀) (B :: H₀) ρ none s) (hi : z.nms[i]? = some x) (hk : env.kindOf x = some .local)
    (hm : ∃ m, s.heap.Ns env.locals m ∧ m x = some (.ref B)) (hp : s.heap.PlainList B vs) (r : RzL (B :: H₀) s.heap xs vs.toList) (hB : s₀.heap.get? B = none) (hn : B ∉ H₀) (hρ : ρ.get i = none) : Fm C z env s₀ H₀ (B :: H₀) ρ (some (i, xs)) s := by
  obtain ⟨m, h1, h2⟩ := hm
  refine ⟨F.same, F.keep, F.fresh, F.ns, F.cells, F.apart, F.old0, F.st, F.rho, ⟨⟨B, x, vs, m, rfl, hi, hk, h1, h2, ?_, ?_, hB, hn, hρ⟩⟩⟩
  · exact hp
  · exact r

/-- x = [..] * n, a list of the frame's own -/
theorem x_own {x : Str} {i : Nat} {e : Expr} {p pos : Pos} {xs : List PyData} (Z : EnvZ z env) (F : Fm C z env s₀ H₀ H₀ ρ none s) (hi : z.nms[i]? = some x) (hk : env.kindOf x = some .local)
    (h : Gf C A H₀ (eval e env) xs s) (hs : swapsWith e (some (.Name x p)) pos.line env = pure false) : Xs C A z env s₀ H₀ H₀ (exec (.Assign [.Name x p] e pos) env) (ρ.del i, some (i, xs), none) s := fun E =>
  wpAny_Assign_Name (wpAny_mono (h E) (fun v s' q => by
    obtain ⟨k, B, vs, rfl, hB, hn, hp, r⟩ := q
    have F1 := F.hide k hB hp
    have hB0 : s₀.heap.get? B = none := by
      cases e : s₀.heap.get? B with
      | none => rfl
      | some ob => rw [F.keep B ob e] at hB; cases hB
    have hBloc : B ≠ env.locals := fun e => by
      obtain ⟨m, oL, es, ep, hL, hd, _⟩ := F1.ns
      obtain ⟨n, hBs⟩ := hp
      rw [← e, hBs] at hL; cases hL; cases hd
    refine F1.storeRaw Z hi hk (fun ys e => by cases e) fun s'' F'' hm p kL => ?_
    have hp'' : s''.heap.PlainList B vs := hp.at fun ob e => kL B ob hBloc e
    refine ⟨⟨fun b ob h1 _ _ e => kL b ob h1 (Ks.heap k b ob e), fun b ob e => p.live b ob (Ks.heap k b ob e)⟩, rfl, B :: H₀, F''.take hi hk hm hp'' (RzL.kp (F1.kpPres p) _ r) hB0 hn (by rw [Rho.get_del, if_pos rfl]), fun b hb => ?_⟩
    rcases List.mem_cons.mp hb with rfl | hb
    · exact .inr hB
    · exact .inl hb) fun _ _ x => x) hs

/-- x, y = (e, [..] * n): the second a list of the frame's own -/
theorem x_own2 {x y : Str} {i j : Nat} {e1 e2 : Expr} {px py tpos pos vpos : Pos} {k k' : Nat} {d : PyData} {ys : List PyData} {n : Nat} (R : Room A n) (Z : EnvZ z env) (F : Fm C z env s₀ H₀ H₀ ρ none s)
    (hi : z.nms[i]? = some x) (hk : env.kindOf x = some .local) (hj : z.nms[j]? = some y) (hky : env.kindOf y = some .local) (hij : i ≠ j)
    (h1 : Gv C A H₀ (eval e1 env) d s) (h2 : ∀ s', Keeps s s' → Gf C A H₀ (eval e2 env) ys s') (st1 : NotStar e1) (st2 : NotStar e2)
    (hs : swapsWithSole [.Tuple [.Name x px, .Name y py] k tpos] (.Tuple [e1, e2] k' vpos) pos.line env = pure false) (hw : swappedStores [.Tuple [.Name x px, .Name y py] k tpos] (.Tuple [e1, e2] k' vpos) env = pure (some [x, y])) :
    Xs C A z env s₀ H₀ H₀ (exec (.Assign [.Tuple [.Name x px, .Name y py] k tpos] (.Tuple [e1, e2] k' vpos) pos) env) ((ρ.del j).put i d, some (j, ys), none) s := fun E => by
  refine Assign_Tuple_swapped (wpAny_Tuple ?_) hs hw
  refine wpAny_items_cons (h1.use fun v s1 k1 r1 => ?_) (st1 env [e2])
  refine wpAny_items_cons (wpAny_mono (h2 s1 k1 _) (fun u s2 q => ?_) fun _ _ x => x) (st2 env [])
  obtain ⟨k2, B, vs, rfl, hB, hn, hp, r⟩ := q
  refine wpAny_items_nil ⟨by rw [size_line]; show 2 ≤ _; omega, ?_⟩
  have k3 := Ks.push s2 { cls := .type "tuple", data := .seq [v, Value.ref B].toArray } s2.toks
  have k13 := Ks.trans k2 k3
  have F1 := F.keeps k1
  have hp3 := hp.at fun ob e => Ks.heap k3 B ob e
  have F2 := F1.hide k13 hB hp3
  have ht : ({ s2 with heap := s2.heap.push { cls := .type "tuple", data := .seq [v, Value.ref B].toArray } } : Shared).heap.IsTuple s2.heap.objs.size #[v, .ref B] := ⟨_, Heap.get?_push_size _ rfl, rfl, _, rfl⟩
  have un := fun Q E h => wpAny_unpackItems_tuple (prog := C.prog) (w := C.w) (A := A) (E := E) (Q := Q) R.h ht h
  refine un _ E fun h' he => ?_
  have k4 : Keeps { s2 with heap := s2.heap.push { cls := .type "tuple", data := .seq [v, Value.ref B].toArray } } _ := ext_keeps he
  have F3 := F2.keeps k4
  have hp4 := hp3.at fun ob e => Ks.heap k4 B ob e
  have hBloc : B ≠ env.locals := fun e => by
    obtain ⟨m, oL, es, ep, hL, hd, _⟩ := F3.ns
    obtain ⟨n, hBs⟩ := hp4
    rw [← e, hBs] at hL; cases hL; cases hd
  have hB0 : s₀.heap.get? B = none := by
    cases e : s₀.heap.get? B with
    | none => rfl
    | some ob => rw [F1.keep B ob e] at hB; cases hB
  have r4 : RzL (B :: H₀) h' ys vs.toList := (r.keeps (Ks.heap k3)).keeps (Ks.heap k4)
  have rv4 : Rz (B :: H₀) h' d v := Rz.keeps (Rz.off (fun a o e hn hm => by
    rcases List.mem_cons.mp hm with rfl | hm
    · rw [hB] at e; cases e
    · exact hn hm) _ r1) fun b ob e => Ks.heap k4 b ob (Ks.heap k13 b ob e)
  show wpAny C.M A (do holding [v] (bindName env y (.ref B)); do holding [] (bindName env x v); pure ()) _ _ _
  refine wpAny_bind (wpAny_holding (wpAny_bindName (F3.storeRaw Z hj hky (fun _ e => by cases e) fun s5 F5 hm5 p5 kL5 => ?_)))
  have hp5 := hp4.at fun ob e => kL5 B ob hBloc e
  have F6 := F5.take hj hky hm5 hp5 (RzL.kp (F3.kpPres p5) _ r4) hB0 hn (by rw [Rho.get_del, if_pos rfl])
  refine wpAny_bind (wpAny_holding (wpAny_bindName (F6.store Z hi hk (fun _ e => by cases e; exact hij rfl) (Rz.kp (F3.kpPres p5) _ rv4) fun s7 F7 p7 => wpAny_pure ?_)))
  have k14 := Ks.trans (Ks.trans k1 k13) k4
  have pAll : Pres env H₀ s s7 := by
    have q0 : Pres env H₀ s s5 := ⟨fun b ob x1 _ _ e => kL5 b ob x1 (Ks.heap k14 b ob e), fun b ob e => p5.live b ob (Ks.heap k14 b ob e)⟩
    refine q0.trans (H' := B :: H₀) (fun b hb => ?_) p7
    rcases List.mem_cons.mp hb with rfl | hb
    · refine .inr ?_
      cases e : s.heap.get? b with
      | none => rfl
      | some ob => rw [Ks.heap k1 b ob e] at hB; cases hB
    · exact .inl hb
  refine ⟨pAll, rfl, B :: H₀, F7, fun b hb => ?_⟩
  rcases List.mem_cons.mp hb with rfl | hb
  · refine .inr ?_
    cases e : s.heap.get? b with
    | none => rfl
    | some ob => rw [Ks.heap k1 b ob e] at hB; cases hB
  · exact .inl hb

/-- the own list is let go of: plain data from here on -/
theorem Fm.freeze {i : Nat} {xs : List PyData} (F : Fm C z env s₀ H₀ H ρ (some (i, xs)) s) : Fm C z env s₀ H₀ H₀ (ρ.put i (.list xs)) none s := by
  obtain ⟨B, x, vs, m, rfl, hi, hk, hm, hx, hp, r, hB, hn, hρ⟩ := F.own.ex
  have off : ∀ (a : Addr) (ob : Obj), s.heap.get? a = some ob → a ∉ B :: H₀ → a ∉ H₀ := fun a ob _ hn hm => hn (.tail _ hm)
  refine ⟨F.same, F.keep, F.fresh, F.ns, F.cells, F.apart, F.old0, ⟨F.st.old, fun b hb => F.st.hid b (.tail _ hb), fun b hb => F.st.inn b (.tail _ hb)⟩, fun j d e => ?_, rfl⟩
  rw [Rho.get_put] at e
  by_cases hij : i = j
  · rw [if_pos hij] at e; cases e
    exact ⟨x, .ref B, hij ▸ hi, .inl ⟨hk, m, hm, hx⟩, B, vs, rfl, hn, hp, RzL.off off _ r⟩
  · rw [if_neg hij] at e
    obtain ⟨y, v, a, b, rv⟩ := F.rho j d e
    exact ⟨y, v, a, b, Rz.off off _ rv⟩

/-- its items read -/
theorem gv_oget {x : Str} {i k : Nat} {e : Expr} {px pos : Pos} {xs : List PyData} {d : PyData} (Z : EnvZ z env) (F : Fm C z env s₀ H₀ H ρ (some (i, xs)) s) (hi : z.nms[i]? = some x) (hd : NotDebug x)
    (h : Gv C A H (eval e env) (.int (k : Nat)) s) (hk : k ≤ 100000) (hx : xs[k]? = some d) (hs : ∀ t k tk, subscripted e false (.ref t) (.int k tk) = operate [.ref t, .int k tk] (getItem (.ref t) (.int k tk))) :
    Gv C A H (eval (.Subscript (.Name x px) e pos) env) d s := fun E => by
  obtain ⟨B, y, vs, m, rfl, hy, hky, hm, hmx, hp, r, hB, hn, hρ⟩ := F.own.ex
  have hyx : y = x := Option.some.inj (hy.symm.trans hi)
  subst hyx
  refine Subscript_ (wpAny_Name (wpAny_loadName_local Z.fn hky hm hmx (h.use fun u s2 k2 r2 => ?_)) hd)
  obtain ⟨t, rfl⟩ := r2
  obtain ⟨v, hv, rv⟩ := Rz.get (r.keeps (Ks.heap k2)) hx
  exact subscriptTail_builtinR (hp.isList.at fun ob e => Ks.heap k2 _ ob e).typeIs slot_list_getitem.lookup (wpAny_getItem_list (hp.isList.at fun ob e => Ks.heap k2 _ ob e) (Int.natCast_nonneg k) (by omega) hv ⟨rfl, k2, rv⟩) (hs _ _ _)

theorem set_item' {l : Addr} {vs : Array Value} {x : Int} {t : Tok} {v : Value} {Q : Unit → Shared → Prop} {E : Value → Shared → Prop} (hp : s.heap.PlainList l vs) (h0 : 0 ≤ x) (hk : x < vs.size) (h63 : x < 2 ^ 63)
    (h : ∀ h', h'.PlainList l (vs.setIfInBounds x.toNat v) → Heap.SameBut l s.heap h' → Q () { s with heap := h' }) : wpAny C.M A (setItem (.ref l) (.int x t) v) Q E s := by
  obtain ⟨n, ho⟩ := hp
  have hT : s.TypeIs (.ref l) "list" := ⟨_, ho, rfl⟩
  unfold setItem
  refine wpAny_holding ?_
  refine wpAny_bind (wpAny_sequenceKey hT (by decide) ?_)
  refine wpAny_bind (wpAny_callSpecial?_slot (name := Str.ofString "__setitem__") hT slot_list_setitem (wpAny_call_entry slot_list_setitem hT entry_list_setitem ?_ (args_list_setitem _ _ _)))
  show wpAny _ _ (Builtin.List.listSubscript? (.int x t) >>= _) _ _ s
  refine wpAny_bind (wpAny_listSubscript_int (fitsIndex_of h0 h63) ?_)
  clear h63
  obtain ⟨k, rfl⟩ := Int.eq_ofNat_of_zero_le h0
  have hk' : k < vs.size := by omega
  show wpAny _ _ ((seqItemAt l k >>= fun r => pure (r.map (k, ·))) >>= _) _ _ s
  refine wpAny_bind (wpAny_bind (wpAny_seqItemAt ho rfl (wpAny_pure ?_)))
  rw [Array.getElem?_eq_getElem hk']
  show wpAny _ _ (setSeqItemAt l k v >>= _) _ _ s
  refine wpAny_bind (wpAny_setSeqItemAt ho rfl ?_)
  have fin := h (s.heap.update l (Obj.mapSeq (·.setIfInBounds k v))) ⟨_, Heap.get?_update_self _ ho rfl⟩ (Heap.SameBut.update ..)
  first
    | exact wpAny_bind (wpAny_pure (wpAny_pure ⟨.none, rfl, wpAny_pure fin⟩))
    | exact wpAny_pure ⟨.none, rfl, wpAny_pure fin⟩
theorem set_item {l : Addr} {vs : Array Value} {k : Nat} {t : Tok} {v : Value} {Q : Unit → Shared → Prop} {E : Value → Shared → Prop} (hp : s.heap.PlainList l vs) (hk : k < vs.size) (h63 : k ≤ 100000)
    (h : ∀ h', h'.PlainList l (vs.setIfInBounds k v) → Heap.SameBut l s.heap h' → Q () { s with heap := h' }) : wpAny C.M A (setItem (.ref l) (.int (k : Nat) t) v) Q E s :=
  set_item' hp (Int.natCast_nonneg k) (by omega) (by omega) (by rw [Int.toNat_natCast]; exact h)

/-- x[i] = e, x the own list -/
theorem x_sto {x : Str} {i k : Nat} {ei e : Expr} {px p pos : Pos} {xs : List PyData} {d : PyData} (Z : EnvZ z env) (F : Fm C z env s₀ H₀ H ρ (some (i, xs)) s) (hi : z.nms[i]? = some x) (hd : NotDebug x)
    (h : Gv C A H (eval e env) d s) (hidx : ∀ s', Keeps s s' → Gv C A H (eval ei env) (.int (k : Nat)) s') (hk : k ≤ 100000) (hlt : k < xs.length) (hs : swapsWith e (some (.Subscript (.Name x px) ei p)) pos.line env = pure false) :
    Xs C A z env s₀ H₀ H (exec (.Assign [.Subscript (.Name x px) ei p] e pos) env) (ρ, some (i, xs.set k d), none) s := fun E => by
  refine wpAny_Assign_Subscript (h.use fun v s1 k1 r1 => ?_) hs
  have F1 := F.keeps k1
  obtain ⟨B, y, vs, m, rfl, hy, hky, hm, hmx, hp, r, hB, hn, hρ⟩ := F1.own.ex
  have hyx : y = x := Option.some.inj (hy.symm.trans hi)
  subst hyx
  refine wpAny_Name (wpAny_loadName_local Z.fn hky hm hmx ((hidx s1 k1).use fun u s2 k2 r2 => ?_)) hd
  obtain ⟨t, rfl⟩ := r2
  have F2 := F1.keeps k2
  have hp2 := hp.at fun ob e => Ks.heap k2 _ ob e
  have r2 := r.keeps (Ks.heap k2)
  have rv2 := r1.keeps (Ks.heap k2)
  have len : vs.toList.length = xs.length := RzL.len r
  have hsz : vs.toList.length = vs.size := by simp
  refine set_item hp2 (by omega) hk fun h' hp3 hs3 => ?_
  have hBs : ∃ n, s2.heap.get? B = some { cls := .type "list", data := .seq vs n } := hp2
  have hBloc : B ≠ env.locals := fun e => by
    obtain ⟨m, oL, es, ep, hL, hd, _⟩ := F2.ns
    obtain ⟨n, hBs⟩ := hBs
    rw [← e, hBs] at hL; cases hL; cases hd
  have hBcell : ∀ n c v, env.cells.lookup n = some c → s2.heap.IsCell c v → c ≠ B := fun n c v _ ⟨oc, e, hd⟩ q => by
    obtain ⟨n, hBs⟩ := hBs
    rw [q, hBs] at e; cases e; cases hd
  have kp : Kp (B :: H₀) s2.heap h' := fun b ob hb _ e => hs3.extBut b ob (fun q => hb (q ▸ .head _)) e
  obtain ⟨h1, tk1, hsm⟩ := F2.same
  have locs : ∀ m, s2.heap.Ns env.locals m → h'.Ns env.locals m := fun m hm => hm.sameBut hs3 (Ne.symm hBloc)
  refine ⟨?_, rfl, B :: H₀, ⟨⟨h', _, by rw [hsm]⟩, fun b ob e => hs3.extBut b ob (fun q => by rw [q, hB] at e; cases e) (F2.keep b ob e), F2.fresh, let ⟨m, q⟩ := F2.ns; ⟨m, locs m q⟩, fun n c e => ?_, F2.apart, F2.old0, ?_, fun j dj e => ?_, ?_⟩, Hid.refl⟩
  · refine ⟨fun b ob h1 h2 h3 e => hs3.extBut b ob (fun q => h3 (q ▸ .head _)) (Ks.heap k2 b ob (Ks.heap k1 b ob e)), fun b ob e => ?_⟩
    by_cases hb : b = B
    · obtain ⟨n, q⟩ := hp3
      exact ⟨_, hb ▸ q⟩
    · exact ⟨ob, hs3.extBut b ob hb (Ks.heap k2 b ob (Ks.heap k1 b ob e))⟩
  · obtain ⟨q, v, hv⟩ := F2.cells n c e
    exact ⟨q, v, hv.sameBut hs3 (hBcell n c v e hv)⟩
  · refine ⟨fun b ob e => hs3.extBut b ob (fun q => ?_) (F2.st.old b ob e), F2.st.hid, fun b hb => ?_⟩
    · have := F2.old0 b ob e
      rw [q, hB] at this; cases this
    · by_cases hbB : b = B
      · obtain ⟨n, q⟩ := hp3
        exact ⟨_, hbB ▸ q⟩
      · obtain ⟨ob, e⟩ := F2.st.inn b hb
        exact ⟨ob, hs3.extBut b ob hbB e⟩
  · obtain ⟨y', u, a1, a2, ru⟩ := F2.rho j dj e
    refine ⟨y', u, a1, ?_, Rz.kp kp _ ru⟩
    rcases a2 with ⟨ky, my, hmy, hv⟩ | ⟨ky, c, hc, hv⟩
    · exact .inl ⟨ky, my, locs my hmy, hv⟩
    · exact .inr ⟨ky, c, hc, hv.sameBut hs3 (hBcell _ c _ hc hv)⟩
  · refine ⟨⟨B, y, vs.setIfInBounds k v, m, rfl, hy, hky, locs m (hm.keeps (Ks.heap k2)), hmx, hp3, ?_, hB, hn, hρ⟩⟩
    have r3 := RzL.kp kp _ (RzL.set k r2 rv2)
    rw [Array.toList_setIfInBounds]
    exact r3
end
end Mine
namespace Mine
open PySem PySem.Spec PySem.Calls PyProof.Rows

section
variable {C : Cx} {ft : Nat → Option Fi} {gd : Str → Option PyData} {A : Around} {H H' H₀ : List Addr} {s s' s₀ : Shared} {env : Env} {z : Sc} {ρ : Rho} {o : OwnL}

/-- for i, x in enumerate(e) -/
theorem x_forE {xi xv r : Str} {ii iv k1 : Nat} {pi pv pt pr p pos : Pos} {e : Expr} {body : List Stmt} {ls : List PyData} {out : Out} {n : Nat} (R : Room A n) (Z : EnvZ z env) (B : Bas C ft gd) (F : Fm C z env s₀ H₀ H ρ o s)
    (hi : z.nms[ii]? = some xi) (hki : env.kindOf xi = some .local) (hv : z.nms[iv]? = some xv) (hkv : env.kindOf xv = some .local)
    (hr : r = "enumerate") (hg : C.mg r = none) (hbo : bootBuiltins r = some (.type "enumerate")) (hx : z.names.lookup r = some .globalImplicit) (hst : NotStar e)
    (ha : Gv C A H (eval e env) (.list ls) s) (I : Nat → Rho → OwnL → Prop)
    (turn : ∀ j ρ' o', I j ρ' o' → match ls[j]? with
      | none => out = (ρ', o', none)
      | some d => (∀ xs, o' ≠ some (ii, xs)) ∧ (∀ xs, o' ≠ some (iv, xs)) ∧ ∃ o1 : Out, (∀ H' s', Fm C z env s₀ H₀ H' ((ρ'.put ii (.int (j : Nat))).put iv d) o' s' → Xs C A z env s₀ H₀ H' (execs body env) o1 s') ∧
        match o1.2.2 with
        | none => I (j + 1) o1.1 o1.2.1
        | some d => out.2.2 = some d)
    (h : I 0 ρ o) : Xs C A z env s₀ H₀ H (exec (.For (.Tuple [.Name xi pi, .Name xv pv] k1 pt) (.Call (.Name r pr) [e] [] p) body [] pos) env) out s := fun E => by
  refine wpAny_For ?_ (by intro _; rfl)
  rw [call_arm]
  refine wpAny_bind (name_bi Z.toEnvS F.st B hx hg (by subst hr; decide) hbo (by subst hr; show (_ == _) = false; decide) ?_)
  have hs1 : ∀ e' ∈ [e], NotStar e' := fun e' hm => by rw [List.mem_singleton.mp hm]; exact hst
  have g : GvL C A H (spliced (backTo p (starEach [e] env))) [.list ls] s := gl_cons ha (fun s' _ => gl_nil) (hst env [])
  refine PySem.callWith_type (plain_args hs1) (args_of (by simp) hs1 g fun as s₁ k₁ r₁ => ?_)
  obtain ⟨w, rfl, l, vs, rfl, hlH, hl, hrl⟩ := rz1 r₁
  have F1 := F.keeps k₁
  have len := RzL.len hrl
  have hsz : vs.toList.length = vs.size := by simp
  obtain ⟨nl, hlo⟩ := id hl
  refine call_enumerate_1 hlo fun G he hit hGz hGk => ?_
  have k₂ : Keeps s₁ { s₁ with heap := G } := ⟨G, _, rfl, hGk⟩
  have F2 := F1.keeps k₂
  have k12 := Ks.trans k₁ k₂
  refine wpAny_pyIter_enum he ?_
  have nI : ∀ b ob, s₁.heap.get? b = some ob → b ≠ s₁.heap.objs.size ∧ b ≠ s₁.heap.objs.size + 1 := fun b ob e => ⟨Nat.ne_of_lt (Heap.lt_size e), Nat.ne_of_lt (Nat.lt_succ_of_lt (Heap.lt_size e))⟩
  generalize hen : s₁.heap.objs.size + 1 = en at he nI ⊢
  generalize hitn : s₁.heap.objs.size = it at he hit nI hen ⊢
  have hei : en ≠ it := by rw [← hen]; exact Nat.ne_of_gt (Nat.lt_succ_self _)
  have new1 : s₁.heap.get? it = none := by
    cases e : s₁.heap.get? it with
    | none => rfl
    | some ob => exact absurd rfl (nI _ _ e).1
  have new2 : s₁.heap.get? en = none := by
    cases e : s₁.heap.get? en with
    | none => rfl
    | some ob => exact absurd rfl (nI _ _ e).2
  have alien0 : ∀ I, s₁.heap.get? I = none → ∀ H', I ∉ H' → ∀ g : Heap, (∀ ob xs k, g.get? I = some ob → ob.data ≠ .seq xs k) → Alien env s₀.heap H' I g := fun I hI H' hn g hd => by
    refine ⟨?_, ?_, ?_, hn, hd⟩
    · cases e : s₀.heap.get? I with
      | none => rfl
      | some ob => rw [F1.keep _ _ e] at hI; cases hI
    · intro e
      obtain ⟨m, oL, _, _, hL, _⟩ := F1.ns
      rw [e, hL] at hI; cases hI
    · intro nn e
      obtain ⟨_, v, oc, hoc, _⟩ := F1.cells nn _ e
      rw [hoc] at hI; cases hI
  have hitH : it ∉ H := fun hm => by
    obtain ⟨ob, e⟩ := F1.st.inn _ hm
    rw [e] at new1; cases new1
  have henH : en ∉ H := fun hm => by
    obtain ⟨ob, e⟩ := F1.st.inn _ hm
    rw [e] at new2; cases new2
  have hlIt : l ≠ it := (nI _ _ hlo).1
  have hlEn : l ≠ en := (nI _ _ hlo).2
  refine codeAny_forLoop_any (A := A.mark none) (fun k s' => ∃ ρ' o' H' j old, I j ρ' o' ∧ Fm C z env s₀ H₀ H' ρ' o' s' ∧ Pres env H s s' ∧ Hid H H' s ∧ Hid H H' { s₁ with heap := G } ∧
      IsEnum s'.heap en it ((j : Nat) : Int) old ∧ s'.heap.IsListIter it l j ∧ l ∉ H' ∧ s'.heap.PlainList l vs ∧ RzL H' s'.heap ls vs.toList ∧ j ≤ ls.length ∧ k = ls.length + 1 - j ∧ (∀ b ob, G.get? b = some ob → ∃ o', s'.heap.get? b = some o')) ?_ (ls.length + 1)
    ⟨ρ, o, H, 0, .none, h, F2, Pres.keeps k12, Hid.refl, Hid.refl, he, hit, hlH, ⟨nl, hGk _ _ hlo⟩, hrl.keeps hGk, Nat.zero_le _, rfl, fun b ob e => ⟨ob, e⟩⟩
  rintro k s' ⟨ρ', o', H', j, old, hI, F', pp, hh, hh2, he', hit', hlH', hl', hr', hj, rfl, hlive⟩
  have hitH' : it ∉ H' := fun hm => by
    rcases hh2 _ hm with q | q
    · exact hitH q
    · obtain ⟨oi, hoi, _⟩ := hit
      rw [hoi] at q; cases q
  have henH' : en ∉ H' := fun hm => by
    rcases hh2 _ hm with q | q
    · exact henH q
    · rw [he] at q; cases q
  have noEn : ∀ (g : Heap) i x, IsEnum g en it i x → ∀ ob xs k, g.get? en = some ob → ob.data ≠ .seq xs k := fun g i x hx ob xs k e q => by
    rw [hx] at e; cases e; cases q
  have noIt : ∀ (g : Heap) i, g.IsListIter it l i → ∀ ob xs k, g.get? it = some ob → ob.data ≠ .seq xs k := fun g i hx ob xs k e q => by
    obtain ⟨o2, ho2, _, hd⟩ := hx
    rw [ho2] at e; cases e
    rw [hd] at q; cases q
  have al : ∀ b ∈ [en, it], Alien env s₀.heap H' b s'.heap := fun b hb => by
    rcases List.mem_cons.mp hb with rfl | hb
    · exact alien0 _ new2 H' henH' _ (noEn _ _ _ he')
    · rw [List.mem_singleton.mp hb]
      exact alien0 _ new1 H' hitH' _ (noIt _ _ hit')
  have oldS : ∀ b ob, s.heap.get? b = some ob → b ∉ [en, it] := fun b ob e hm => by
    have e1 := Ks.heap k₁ b ob e
    rcases List.mem_cons.mp hm with rfl | hm
    · rw [new2] at e1; cases e1
    · rw [List.mem_singleton.mp hm, new1] at e1; cases e1
  have tn := turn j ρ' o' hI
  cases hlj : ls[j]? with
  | none =>
    rw [hlj] at tn
    have hjl : ls.length ≤ j := List.getElem?_eq_none_iff.mp hlj
    have hvj : vs[j]? = none := Array.getElem?_eq_none (by omega)
    refine wpAny_pyNext_enum_end R.h he' hit' hl'.isList hvj fun h₁ he₁ => wpAny_execs_nil ?_
    have kk : ∀ b ob, b ∉ [en, it] → s'.heap.get? b = some ob → h₁.get? b = some ob := fun b ob hn e => he₁ b ob (fun q => hn (q ▸ .tail _ (.head _))) e
    have F3 := F'.but (tk := s'.toks) al kk
    subst tn
    refine ⟨⟨fun b ob h1 h2 h3 e => kk b ob (oldS b ob e) (pp.keep b ob h1 h2 h3 e), fun b ob e => ?_⟩, rfl, H', F3, hh⟩
    obtain ⟨o2, e2⟩ := pp.live b ob e
    exact ⟨o2, kk b o2 (oldS b ob e) e2⟩
  | some d =>
    rw [hlj] at tn
    obtain ⟨hown1, hown2, o1, hb, hres⟩ := tn
    have hjl : j < ls.length := (List.getElem?_eq_some_iff.mp hlj).1
    obtain ⟨v, hvj, rv⟩ := Rz.get hr' hlj
    refine wpAny_pyNext_enum_item he' hit' hl'.isList hvj hei fun h₁ heo hit₁ ht₁ hz₁ hk₁ => ?_
    refine wpAny_letOwnedTupleGo_enum heo fun h₂ he₂ hs₂ => ?_
    replace hs₂ : Heap.SameBut en h₁ h₂ := hs₂
    have hTen : s'.heap.objs.size ≠ en := Nat.ne_of_gt (Heap.lt_size he')
    have ht₂ : h₂.IsTuple s'.heap.objs.size #[.int j s'.toks, v] := ⟨_, (hs₂.2 _ hTen).trans ht₁, rfl, _, rfl⟩
    have hz₂ : h₂.objs.size = s'.heap.objs.size + 1 := hs₂.1.trans hz₁
    refine wpAny_assign_Tuple R.h ht₂ rfl rfl fun h₃ hx₃ => ?_
    replace hx₃ : Heap.ExtBut h₂.objs.size h₂ h₃ := hx₃
    have k23 : ∀ b ob, h₂.get? b = some ob → h₃.get? b = some ob := fun b ob e => hx₃ b ob (Nat.ne_of_lt (Heap.lt_size e)) e
    have kk : ∀ b ob, b ∉ [en, it] → s'.heap.get? b = some ob → h₃.get? b = some ob := fun b ob hn e =>
      k23 b ob (hs₂.extBut b ob (fun q => hn (q ▸ .head _)) (hk₁ b ob (fun q => hn (q ▸ .head _)) (fun q => hn (q ▸ .tail _ (.head _))) e))
    have F3 := F'.but (tk := s'.toks + 1) al kk
    have kp := F'.kpBut al kk
    have he₃ : IsEnum h₃ en it ((j : Int) + 1) v := k23 _ _ he₂
    have hit₃ : h₃.IsListIter it l (j + 1) := (hit₁.extBut hs₂.extBut (Ne.symm hei)).at fun ob e => k23 it ob e
    have liveS : ∀ b ob, s'.heap.get? b = some ob → ∃ o', h₃.get? b = some o' := fun b ob e => by
      by_cases hb1 : b = en
      · exact ⟨_, hb1 ▸ he₃⟩
      · by_cases hb2 : b = it
        · obtain ⟨oi, hoi, _⟩ := hit₃
          exact ⟨oi, hb2 ▸ hoi⟩
        · exact ⟨ob, kk b ob (fun hm => by
            rcases List.mem_cons.mp hm with q | hm
            · exact hb1 q
            · exact hb2 (List.mem_singleton.mp hm)) e⟩
    have p3 : Pres env H s { s' with heap := h₃, toks := s'.toks + 1 } := ⟨fun b ob h1 h2 h3 e => kk b ob (oldS b ob e) (pp.keep b ob h1 h2 h3 e), fun b ob e => by
      obtain ⟨o2, e2⟩ := pp.live b ob e
      exact liveS b o2 e2⟩
    have rl3 : RzL H' h₃ [.int (j : Nat), d] [.int j s'.toks, v] := ⟨_, _, rfl, ⟨_, rfl⟩, ⟨_, _, rfl, Rz.kp kp _ rv, rfl⟩⟩
    refine in_order Z [assign (.Name xi pi) env, assign (.Name xv pv) env] [ii, iv] [xi, xv] [.int (j : Nat), d] [.int j s'.toks, v] ρ' _ rfl rfl rfl ?_ ?_ F3 rl3 fun s₄ F4 p4 => ?_
    · intro k f x e1 e2
      match k with
      | 0 => cases e1; cases e2; exact storeF_assign
      | 1 => cases e1; cases e2; exact storeF_assign
      | k + 2 => cases e1
    · intro k i x e1 e2
      match k with
      | 0 => cases e1; cases e2; exact ⟨hi, hki, hown1⟩
      | 1 => cases e1; cases e2; exact ⟨hv, hkv, hown2⟩
      | k + 2 => cases e1
    refine wpAny_mono (hb H' s₄ F4 _) (fun f s₅ q => ?_) fun _ _ x => x
    obtain ⟨p5, q⟩ := q
    have p34 : Pres env H s s₄ := p3.trans hh p4
    have p35 : Pres env H s s₅ := p34.trans hh p5
    split at q
    · rename_i h1
      rw [h1] at hres
      obtain ⟨rfl, H5, F5, hh5⟩ := q
      have stay : ∀ b ob, b ≠ env.locals → (∀ n, env.cells.lookup n ≠ some b) → b ∉ H' → h₃.get? b = some ob → s₅.heap.get? b = some ob := fun b ob x1 x2 x3 e => p5.keep b ob x1 x2 x3 (p4.keep b ob x1 x2 x3 e)
      have aEn := alien0 _ new2 H' henH' h₃ (noEn _ _ _ he₃)
      have aIt := alien0 _ new1 H' hitH' h₃ (noIt _ _ hit₃)
      have he5 : IsEnum s₅.heap en it (((j + 1 : Nat)) : Int) v := by
        have : ((j + 1 : Nat) : Int) = (j : Int) + 1 := by push_cast; rfl
        rw [this]
        exact stay _ _ aEn.loc aEn.cell henH' he₃
      have hit5 : s₅.heap.IsListIter it l (j + 1) := hit₃.at fun ob e => stay _ ob aIt.loc aIt.cell hitH' e
      have kp5 : Kp H' h₃ s₅.heap := fun b ob hb' hsq e => F4.kpPres p5 b ob hb' hsq (F3.kpPres p4 b ob hb' hsq e)
      have hl3 : h₃.PlainList l vs := hl'.at fun ob e => kk l ob (fun hm => by
        rcases List.mem_cons.mp hm with q | hm
        · exact hlEn q
        · exact hlIt (List.mem_singleton.mp hm)) e
      have hlH5 : l ∉ H5 := fun hm => by
        rcases hh5 l hm with q | q
        · exact hlH' q
        · obtain ⟨nn, hol⟩ := hl3
          obtain ⟨o2, e2⟩ := p4.live l _ hol
          rw [q] at e2; cases e2
      have hl5 : s₅.heap.PlainList l vs := hl3.at fun ob e => by
        obtain ⟨nn, hol⟩ := hl3
        rw [hol] at e; cases e
        exact kp5 l _ hlH' ⟨vs, nn, rfl⟩ hol
      have hr5 : RzL H5 s₅.heap ls vs.toList := by
        have r0 : RzL (H' ++ H5) h₃ ls vs.toList := RzL.off (fun a ob e hn hm => (List.mem_append.mp hm).elim hn fun hm5 => by
          rcases hh5 a hm5 with q | q
          · exact hn q
          · obtain ⟨o2, e2⟩ := p4.live a ob e
            rw [q] at e2; cases e2) _ (RzL.kp kp _ hr')
        exact RzL.off (fun a ob e hn hm => hn (List.mem_append_right H' hm)) _ (RzL.kp (kp5.sub fun b hb => List.mem_append_left H5 hb) _ r0)
      have live5 : ∀ b ob, G.get? b = some ob → (∃ o', s₄.heap.get? b = some o') ∧ ∃ o', s₅.heap.get? b = some o' := fun b ob e => by
        obtain ⟨o1, e1⟩ := hlive b ob e
        obtain ⟨o2, e2⟩ := liveS b o1 e1
        obtain ⟨o3, e3⟩ := p4.live b o2 e2
        exact ⟨⟨o3, e3⟩, p5.live b o3 e3⟩
      refine ⟨ls.length + 1 - (j + 1), by omega, o1.1, o1.2.1, H5, j + 1, v, hres, F5, p35, hh.trans p34 hh5, fun b hb => ?_, he5, hit5, hlH5, hl5, hr5, hjl, rfl, fun b ob e => (live5 b ob e).2⟩
      rcases hh5 b hb with q | q
      · exact hh2 b q
      · refine .inr ?_
        show G.get? b = none
        cases e : G.get? b with
        | none => rfl
        | some ob =>
          obtain ⟨o', e'⟩ := (live5 b ob e).1
          rw [q] at e'; cases e'
    · rename_i d' h1
      rw [h1] at hres
      obtain ⟨v', rfl, k', r'⟩ := q
      refine ⟨p35, ?_⟩
      rw [hres]
      exact ⟨v', rfl, k', r'⟩

/-! ## A def's call -/
/-- the names bound at the call's start -/
noncomputable def bind0 (is : List Nat) (ds : List PyData) : Rho := Rho.puts [] is ds

end
end Mine
namespace Mine
open PySem PySem.Spec PySem.Calls PyProof.Rows

/-! ## A def's call -/
noncomputable def rho0 : Nat → List D → Rho
  | _, [] => []
  | n, d :: ds => (n, d) :: rho0 (n + 1) ds
theorem rho0_get : ∀ {ds : List D} {n i : Nat} {d : D}, (rho0 n ds).get i = some d → ∃ k, i = n + k ∧ ds[k]? = some d
  | [], n, i, d, h => by cases h
  | e :: ds, n, i, d, h => by
    unfold rho0 Rho.get at h
    rw [beq_of] at h
    by_cases q : n = i
    · simp only [q, decide_true] at h
      cases h
      exact ⟨0, by omega, by simp⟩
    · simp only [q, decide_false] at h
      obtain ⟨k, rfl, hk⟩ := rho0_get h
      exact ⟨k + 1, by omega, by simpa using hk⟩

theorem bindL_off {ko : Str → Option NameKind} : ∀ {bs : List (Str × Value)} {m : Str → Option Value} {x : Str}, x ∉ bs.map (·.1) → bindL ko bs m x = m x
  | [], m, x, _ => rfl
  | (n, v) :: r, m, x, h => by
    unfold bindL
    rw [bindL_off (fun q => h (by simp at q ⊢; exact .inr q))]
    have hx : x ≠ n := fun q => h (by simp [q])
    by_cases hk : ko n = some .local <;> simp [hk, hx]
theorem bindC_off {ko : Str → Option NameKind} : ∀ {bs : List (Str × Value)} {m : Str → Option Value} {x : Str}, x ∉ bs.map (·.1) → bindC ko bs m x = m x
  | [], m, x, _ => rfl
  | (n, v) :: r, m, x, h => by
    unfold bindC
    rw [bindC_off (fun q => h (by simp at q ⊢; exact .inr q))]
    have hx : x ≠ n := fun q => h (by simp [q])
    by_cases hk : ko n = some .local <;> simp [hk, hx]
theorem bind_get {ko : Str → Option NameKind} : ∀ {xs : List Str} {vs : List Value} {m cm : Str → Option Value} {k : Nat} {x : Str} {v : Value}, xs.Nodup → xs[k]? = some x → vs[k]? = some v →
    (ko x = some .local → bindL ko (xs.zip vs) m x = some v) ∧ (ko x ≠ some .local → bindC ko (xs.zip vs) cm x = some v)
  | [], _, _, _, _, _, _, _, h, _ => by simp at h
  | _ :: _, [], _, _, _, _, _, _, _, h => by simp at h
  | y :: xs, u :: vs, m, cm, 0, x, v, nd, h1, h2 => by
    simp at h1 h2; subst h1; subst h2
    have hn : y ∉ (xs.zip vs).map (·.1) := fun q => by
      have : y ∈ xs := by
        obtain ⟨p, hp, rfl⟩ := List.mem_map.mp q
        exact (List.of_mem_zip hp).1
      exact (List.nodup_cons.mp nd).1 this
    rw [List.zip_cons_cons]
    refine ⟨fun hk => ?_, fun hk => ?_⟩
    · unfold bindL; rw [bindL_off hn]; simp [hk]
    · unfold bindC; rw [bindC_off hn, if_neg hk]; simp
  | y :: xs, u :: vs, m, cm, k + 1, x, v, nd, h1, h2 => by
    simp at h1 h2
    rw [List.zip_cons_cons]
    unfold bindL bindC
    exact bind_get (List.nodup_cons.mp nd).2 h1 h2

theorem cellsFrom_acc : ∀ {names : List (Str × NameKind)} {n : Nat} {acc : List (Str × Addr)} {x : Str}, (acc.lookup x).isSome = true → ((cellsFrom n names acc).lookup x).isSome = true
  | [], _, _, _, h => h
  | (y, k) :: r, n, acc, x, h => by
    unfold cellsFrom
    split
    · refine cellsFrom_acc ?_
      rw [List.lookup_cons]
      cases x == y <;> simp [h]
    · exact cellsFrom_acc h
theorem cellsFrom_has : ∀ {names : List (Str × NameKind)} {n : Nat} {acc : List (Str × Addr)} {x : Str}, (x, NameKind.cell) ∈ names → ((cellsFrom n names acc).lookup x).isSome = true
  | (y, k) :: r, n, acc, x, h => by
    unfold cellsFrom
    rcases List.mem_cons.mp h with e | h
    · cases e
      rw [if_pos (by decide)]
      exact cellsFrom_acc (by simp [List.lookup_cons])
    · split <;> exact cellsFrom_has h

/-- what a def's text must be for its call to be taken -/
structure FdOk (fd : FuncData) (body : List Stmt) (z : Sc) (ar : Nat) : Prop where
  body : fd.body = .stmts body
  names : fd.scope.names = z.names
  clo : fd.closure = []
  gl : fd.globals = mainGlobals
  bi : fd.builtins = builtinsNs
  co : fd.scope.isCoroutine = false
  gen : fd.scope.isGenerator = false
  kind : fd.scope.kind = .function
  nd : z.nms.Nodup
  len : ar ≤ z.nms.length
  pk : ∀ x ∈ z.nms.take ar, z.names.lookup x = some .local ∨ (z.names.lookup x = some .cell ∧ (x, NameKind.cell) ∈ z.names)
  bind : ∀ vs : List Value, vs.length = ar → bindArgs fd ⟨vs, []⟩ = pure ((z.nms.take ar).zip vs)

section
variable {C : Cx} {A : Around} {H : List Addr} {s : Shared}
theorem envC {fd : FuncData} {z : Sc} {L a : Addr} {body : List Stmt} {ar : Nat} (K : FdOk fd body z ar) : EnvZ z (callEnvC fd L a) :=
  { fn := K.kind, gl := K.gl, bi := K.bi, glob := fun x h => by show fd.scope.names.lookup x = _; rw [K.names]; exact h, nd := K.nd }

/-- the frame at a call's start -/
theorem fm_start {fd : FuncData} {z : Sc} {a : Addr} {body : List Stmt} {ar : Nat} {vs : List Value} {ds : List D} {s₁ : Shared} (K : FdOk fd body z ar) (S : St C H s) (r : RzL H s.heap ds vs) (hl : ds.length = ar)
    (X : InCallC s (callEnvC fd s.heap.objs.size a).locals (bindL (callEnvC fd s.heap.objs.size a).kindOf ((z.nms.take ar).zip vs) fun _ => none) (callEnvC fd s.heap.objs.size a).cells
        (bindC (callEnvC fd s.heap.objs.size a).kindOf ((z.nms.take ar).zip vs) fun _ => none) s₁) :
    Fm C z (callEnvC fd s.heap.objs.size a) s H H (rho0 0 ds) none s₁ := by
  have ks : Keeps s s₁ := let ⟨h, tk, e⟩ := X.toInCall.same; ⟨h, tk, e, by have := X.toInCall.keep; rw [e] at this; exact this⟩
  have none_of : ∀ c, s.heap.objs.size ≤ c → s.heap.get? c = none := fun c hc => by
    cases e : s.heap.get? c with
    | none => rfl
    | some o => exact absurd (Nat.lt_of_lt_of_le (Heap.lt_size e) hc) (Nat.lt_irrefl _)
  refine ⟨X.toInCall.same, X.toInCall.keep, none_of _ (Nat.le_refl _), ⟨_, X.toInCall.ns⟩, fun n c e => ⟨none_of c (Nat.le_of_lt (X.above n c (mem_of_lookup e))), _, X.cell n c e⟩, fun n n' c e e' => name_of_addr X.apart (mem_of_lookup e) (mem_of_lookup e'), S.old, S.keeps ks, fun i d e => ?_, rfl⟩
  obtain ⟨k, rfl, hk⟩ := rho0_get e
  obtain ⟨v, hv, rv⟩ := RzL.get r hk
  have hkl : k < ar := by have := (List.getElem?_eq_some_iff.mp hk).1; omega
  have hx : z.nms[0 + k]? = some (z.nms[k]'(by have := K.len; omega)) := by rw [Nat.zero_add]; exact List.getElem?_eq_getElem _
  have hxt : (z.nms.take ar)[k]? = some (z.nms[k]'(by have := K.len; omega)) := by rw [List.getElem?_take, if_pos hkl]; exact List.getElem?_eq_getElem _
  refine ⟨_, v, hx, ?_, rv.keeps X.toInCall.keep⟩
  have nd : (z.nms.take ar).Nodup := K.nd.sublist (List.take_sublist _ _)
  have ko : (callEnvC fd s.heap.objs.size a).kindOf = fun x => z.names.lookup x := by
    funext x; show fd.scope.names.lookup x = _; rw [K.names]
  obtain ⟨b1, b2⟩ := bind_get (ko := (callEnvC fd s.heap.objs.size a).kindOf) (m := fun _ => none) (cm := fun _ => none) nd hxt hv
  rcases K.pk _ (List.mem_of_getElem? hxt) with hloc | ⟨hcell, hmem⟩
  · refine .inl ⟨by rw [ko]; exact hloc, _, X.toInCall.ns, b1 (by rw [ko]; exact hloc)⟩
  · have hsome : ((callEnvC fd s.heap.objs.size a).cells.lookup (z.nms[k]'(by have := K.len; omega))).isSome = true := by
      show ((cellsFrom _ fd.scope.names []).lookup _).isSome = true
      rw [K.names]; exact cellsFrom_has hmem
    obtain ⟨c, hc⟩ := Option.isSome_iff_exists.mp hsome
    refine .inr ⟨by rw [ko]; exact hcell, c, hc, ?_⟩
    have := X.cell _ c hc
    rw [b2 (by rw [ko]; intro q; exact absurd (hcell.symm.trans q) (by decide))] at this
    exact this

/-- a call, raising or not -/
theorem call_raw {fd : FuncData} {z : Sc} {a : Addr} {o : Obj} {body : List Stmt} {ar : Nat} {vs : List Value} {ds : List D} {Q : Value → Shared → Prop} {E : Value → Shared → Prop} (K : FdOk fd body z ar) (hd : A.depth < recursionLimit) (S : St C H s) (r : RzL H s.heap ds vs) (hl : ds.length = ar)
    (ho : s.heap.get? a = some o) (hdt : o.data = .func fd) (hlim : s.heap.NoLimit) (hcd : s.heap.CodeRec fd.code fd.qualname)
    (h : ∀ s₁, Fm C z (callEnvC fd s.heap.objs.size a) s H H (rho0 0 ds) none s₁ →
      wpAny C.M (A.deeper (callEnvC fd s.heap.objs.size a)) (execs body (callEnvC fd s.heap.objs.size a)) (fun f s' => Q (match f with | .ret v => v | _ => .none) s')
        (fun e s' => wpAny C.M (A.deeper (callEnvC fd s.heap.objs.size a)) (leaving (callEnvC fd s.heap.objs.size a) e) (fun _ s'' => E e s'') (fun e' s'' => E e' s'') s') s₁) :
    wpAny C.M A (call (.ref a) vs) Q E s := by
  have len : vs.length = ar := (RzL.len r).trans hl
  refine wpAny_call (codeAny_call_cells hd ho hdt hlim hcd K.body (K.bind vs len) K.clo (fun x hx => ?_) (fun s₁ X => ?_) K.co K.gen K.kind)
  · have hm := (List.of_mem_zip hx).1
    rcases K.pk x.1 hm with hloc | ⟨hcell, hmem⟩
    · exact .inl (by rw [K.names]; exact hloc)
    · exact .inr ⟨by rw [K.names]; exact hcell, by rw [K.names]; exact cellsFrom_has hmem⟩
  · exact h s₁ (fm_start K S r hl X)

theorem call_ok {ft : Nat → Option Fi} {gd : Str → Option D} {z : Sc} {ar n f : Nat} {i : Fi} {ds : List D} {d : D} {ρ' : Rho} {o' : OwnL} (B : Bas C ft gd) (hi : ft f = some i) (K : FdOk i.fd i.body z ar) (hl : ds.length = ar)
    (h : ∀ (A : Around) (env : Env) (H : List Addr) (s₀ s : Shared), Room A n → EnvZ z env → (∀ x, env.kindOf x = z.names.lookup x) → Fm C z env s₀ H H (rho0 0 ds) none s → Xs C A z env s₀ H H (execs i.body env) (ρ', o', some d) s) :
    CallOk C ft (n + 1) f ds d := by
  intro i' hi' A H s vs R S r E
  rw [hi] at hi'; cases hi'
  obtain ⟨_, ⟨o, ho, hdt⟩, hcd⟩ := B.fn f i hi
  have kold : ∀ b o, C.h0.get? b = some o → s.heap.get? b = some o := S.old
  refine call_raw K (by have := R.d; omega) S r hl (kold _ _ ho) hdt (B.lim.keeps kold) (hcd.keeps kold) fun s₁ F => ?_
  refine wpAny_mono (h _ _ H s s₁ R.deeper (envC K) (fun x => ?_) F _) (fun f' s' q => ?_) fun _ _ x => x
  · show i.fd.scope.names.lookup x = _; rw [K.names]
  · obtain ⟨_, v, rfl, k, r'⟩ := q
    exact ⟨k, r'⟩
end
end Mine
namespace Mine
open PySem PySem.Spec PySem.Calls PyProof.Rows

/-! ## The small language -/
inductive X
  | cst (d : D) | var (i : Nat) | neg (a : X) | bin (o : Bop) (a b : X) | cmp (o : Cop) (a b : X) | isN (a : X) | notN (a : X)
  | and2 (a b : X) | or2 (a b : X) | and (l : List X) | or (l : List X) | val (a : X) | ite (c a b : X) | idx (a i : X) | upto (a i : X)
  | tup (l : List X) | lst (l : List X) | call (f : Nat) (l : List X) | bi (b : Bi) (l : List X)
  | comp (elt it : X) (caps : List Nat) | compR (elt e : X) (caps : List Nat) | oget (i : Nat) (e : X)
inductive Sm
  | asg (i : Nat) (e : X) | asgS (is : List Nat) (e : X) | sub (i : Nat) (e : X) | ite (c : X) (a b : List Sm) | whl (c : X) (b : List Sm)
  | forT (i : Nat) (e : X) (b : List Sm) | forE (i v : Nat) (e : X) (b : List Sm) | ret (e : X) | own (i : Nat) (l : List X) (k : X) | own2 (i j : Nat) (e : X) (l : List X) (k : X)
  | sto (i : Nat) (ei e : X) | frz | stuck | rais (kd tx : Str) | asgP (is : List Nat) (e : X)

inductive Job
  | x (ρ : Rho) (o : OwnL) (e : X) | t (ρ : Rho) (o : OwnL) (e : X) | l (ρ : Rho) (o : OwnL) (l : List X) | a (ρ : Rho) (o : OwnL) (l : List X) | o (ρ : Rho) (o : OwnL) (l : List X)
  | m (ρ : Rho) (elt : X) (ls : List D) | r (ρ : Rho) (elt : X) (k m : Nat) | s (ρ : Rho) (o : OwnL) (ss : List Sm) | w (ρ : Rho) (o : OwnL) (c : X) (b : List Sm)
  | f (ρ : Rho) (o : OwnL) (i : Nat) (ls : List D) (b : List Sm) | e (ρ : Rho) (o : OwnL) (i v k : Nat) (ls : List D) (b : List Sm) | c (f : Nat) (ds : List D)
inductive Rs | v (d : D) | b (b : Bool) | l (ds : List D) | out (o : Out)
noncomputable def vOf (r : Option Rs) : Option D := match r with | some (.v d) => some d | _ => none
noncomputable def bOf (r : Option Rs) : Option Bool := match r with | some (.b d) => some d | _ => none
noncomputable def lOf (r : Option Rs) : Option (List D) := match r with | some (.l d) => some d | _ => none
noncomputable def oOf (r : Option Rs) : Option Out := match r with | some (.out d) => some d | _ => none
noncomputable def intOf (d : D) : Option Int := match d with | .int k => some k | _ => none
noncomputable def natOf (d : D) : Option Nat := match d with | .int (.ofNat k) => some k | _ => none
noncomputable def boolOf (d : D) : Option Bool := match d with | .bool k => some k | _ => none
noncomputable def tupOf (d : D) : Option (List D) := match d with | .tuple k => some k | _ => none
noncomputable def lisOf (d : D) : Option (List D) := match d with | .list k => some k | _ => none
theorem vOf_eq {r : Option Rs} {d : D} (h : vOf r = some d) : r = some (.v d) := by unfold vOf at h; split at h <;> cases h; rfl
theorem bOf_eq {r : Option Rs} {d : Bool} (h : bOf r = some d) : r = some (.b d) := by unfold bOf at h; split at h <;> cases h; rfl
theorem lOf_eq {r : Option Rs} {d : List D} (h : lOf r = some d) : r = some (.l d) := by unfold lOf at h; split at h <;> cases h; rfl
theorem oOf_eq {r : Option Rs} {d : Out} (h : oOf r = some d) : r = some (.out d) := by unfold oOf at h; split at h <;> cases h; rfl
theorem intOf_eq {d : D} {k : Int} (h : intOf d = some k) : d = .int k := by unfold intOf at h; split at h <;> cases h; rfl
theorem natOf_eq {d : D} {k : Nat} (h : natOf d = some k) : d = .int (k : Nat) := by unfold natOf at h; split at h <;> cases h; rfl
theorem boolOf_eq {d : D} {k : Bool} (h : boolOf d = some k) : d = .bool k := by unfold boolOf at h; split at h <;> cases h; rfl
theorem tupOf_eq {d : D} {k : List D} (h : tupOf d = some k) : d = .tuple k := by unfold tupOf at h; split at h <;> cases h; rfl
theorem lisOf_eq {d : D} {k : List D} (h : lisOf d = some k) : d = .list k := by unfold lisOf at h; split at h <;> cases h; rfl
noncomputable def thn {α β : Type} (o : Option α) (f : α → Option β) : Option β := match o with | some x => f x | none => none
theorem thn_eq {α β : Type} {o : Option α} {f : α → Option β} {y : β} (h : thn o f = some y) : ∃ x, o = some x ∧ f x = some y := by
  cases o with
  | none => cases h
  | some x => exact ⟨x, rfl, h⟩
noncomputable def when {β : Type} (b : Bool) (r : Option β) : Option β := match b with | true => r | false => none
theorem when_eq {β : Type} {b : Bool} {r : Option β} {y : β} (h : when b r = some y) : b = true ∧ r = some y := by
  cases b with
  | false => cases h
  | true => exact ⟨rfl, h⟩
noncomputable def offO (o : OwnL) (i : Nat) : Bool := match o with | none => true | some p => !(Nat.beq p.1 i)
theorem offO_eq {o : OwnL} {i : Nat} (h : offO o i = true) : ∀ xs, o ≠ some (i, xs) := by
  intro xs e
  subst e
  simp [offO] at h
noncomputable def capR (ρ : Rho) : Nat → List Nat → Option Rho
  | _, [] => some []
  | k, i :: r => thn (ρ.get i) fun d => thn (capR ρ (k + 1) r) fun q => some ((k, d) :: q)
noncomputable def seqOf (d : D) : Option (List D) := match d with | .list k => some k | .tuple k => some k | _ => none

structure Pg where
  df : Nat → Option (Nat × List Sm)
  mem : Nat → List D → Option (Nat × D)

noncomputable def xx_cst (self : Job → Option Rs) (ρ : Rho) (o : OwnL) (d : D) : Option Rs := some (.v d)
noncomputable def xx_var (self : Job → Option Rs) (ρ : Rho) (o : OwnL) (i : Nat) : Option Rs := thn (ρ.get i) fun d => some (.v d)
noncomputable def xx_neg (self : Job → Option Rs) (ρ : Rho) (o : OwnL) (a : X) : Option Rs := thn (vOf (self (.x ρ o a))) fun d => thn (intOf d) fun k => some (.v (.int (-k)))
noncomputable def xx_bin (self : Job → Option Rs) (ρ : Rho) (o : OwnL) (p : Bop) (a : X) (b : X) : Option Rs := thn (vOf (self (.x ρ o a))) fun x => thn (vOf (self (.x ρ o b))) fun y => thn (dbop p x y) fun d => some (.v d)
noncomputable def xx_cmp (self : Job → Option Rs) (ρ : Rho) (o : OwnL) (p : Cop) (a : X) (b : X) : Option Rs := thn (vOf (self (.x ρ o a))) fun x => thn (vOf (self (.x ρ o b))) fun y => thn (dcmp p x y) fun d => some (.v (.bool d))
noncomputable def xx_isN (self : Job → Option Rs) (ρ : Rho) (o : OwnL) (a : X) : Option Rs := thn (vOf (self (.x ρ o a))) fun d => some (.v (.bool (isNone d)))
noncomputable def xx_notN (self : Job → Option Rs) (ρ : Rho) (o : OwnL) (a : X) : Option Rs := thn (vOf (self (.x ρ o a))) fun d => some (.v (.bool (!isNone d)))
noncomputable def xx_and2 (self : Job → Option Rs) (ρ : Rho) (o : OwnL) (a : X) (b : X) : Option Rs := thn (vOf (self (.x ρ o a))) fun d => thn (boolOf d) fun t => match t with | true => self (.x ρ o b) | false => some (.v (.bool false))
noncomputable def xx_or2 (self : Job → Option Rs) (ρ : Rho) (o : OwnL) (a : X) (b : X) : Option Rs := thn (vOf (self (.x ρ o a))) fun d => thn (boolOf d) fun t => match t with | true => some (.v (.bool true)) | false => self (.x ρ o b)
noncomputable def xx_ite (self : Job → Option Rs) (ρ : Rho) (o : OwnL) (c : X) (a : X) (b : X) : Option Rs := thn (bOf (self (.t ρ o c))) fun t => match t with | true => self (.x ρ o a) | false => self (.x ρ o b)
noncomputable def xx_idx (self : Job → Option Rs) (ρ : Rho) (o : OwnL) (a : X) (i : X) : Option Rs := thn (vOf (self (.x ρ o a))) fun x => thn (vOf (self (.x ρ o i))) fun y => thn (didx x y) fun d => some (.v d)
noncomputable def xx_upto (self : Job → Option Rs) (ρ : Rho) (o : OwnL) (a : X) (i : X) : Option Rs := thn (vOf (self (.x ρ o a))) fun x => thn (vOf (self (.x ρ o i))) fun y => thn (dupto x y) fun d => some (.v d)
noncomputable def xx_tup (self : Job → Option Rs) (ρ : Rho) (o : OwnL) (l : List X) : Option Rs := thn (lOf (self (.l ρ o l))) fun ds => when (Nat.ble ds.length 5000) (some (.v (.tuple ds)))
noncomputable def xx_lst (self : Job → Option Rs) (ρ : Rho) (o : OwnL) (l : List X) : Option Rs := thn (lOf (self (.l ρ o l))) fun ds => when (Nat.ble ds.length 5000) (some (.v (.list ds)))
noncomputable def xx_call (self : Job → Option Rs) (ρ : Rho) (o : OwnL) (f : Nat) (l : List X) : Option Rs := thn (lOf (self (.l ρ o l))) fun ds => self (.c f ds)
noncomputable def xx_bi (self : Job → Option Rs) (ρ : Rho) (o : OwnL) (b : Bi) (l : List X) : Option Rs := thn (lOf (self (.l ρ o l))) fun ds => thn (dbi b ds) fun d => some (.v d)
noncomputable def xx_comp (self : Job → Option Rs) (ρ : Rho) (o : OwnL) (elt : X) (it : X) (caps : List Nat) : Option Rs := thn (vOf (self (.x ρ o it))) fun d => thn (seqOf d) fun ls => thn (capR ρ 1 caps) fun ρ' => thn (lOf (self (.m ρ' elt ls))) fun ds => when (Nat.ble ds.length 5000) (some (.v (.list ds)))
noncomputable def xx_compR (self : Job → Option Rs) (ρ : Rho) (o : OwnL) (elt : X) (e : X) (caps : List Nat) : Option Rs := thn (vOf (self (.x ρ o e))) fun d => thn (natOf d) fun m => thn (capR ρ 1 caps) fun ρ' => thn (lOf (self (.r ρ' elt 0 m))) fun ds => when (Nat.ble ds.length 5000) (some (.v (.list ds)))
noncomputable def xx_oget (self : Job → Option Rs) (ρ : Rho) (o : OwnL) (i : Nat) (e : X) : Option Rs := thn o fun p => when (Nat.beq p.1 i) (thn (vOf (self (.x ρ o e))) fun d => thn (natOf d) fun k => when (Nat.ble k 100000) (thn p.2[k]? fun d => some (.v d)))
noncomputable def stepX (self : Job → Option Rs) (ρ : Rho) (o : OwnL) : X → Option Rs
  | .cst d => xx_cst self ρ o d
  | .var i => xx_var self ρ o i
  | .neg a => xx_neg self ρ o a
  | .bin p a b => xx_bin self ρ o p a b
  | .cmp p a b => xx_cmp self ρ o p a b
  | .isN a => xx_isN self ρ o a
  | .notN a => xx_notN self ρ o a
  | .and2 a b => xx_and2 self ρ o a b
  | .or2 a b => xx_or2 self ρ o a b
  | .and _ => none
  | .or _ => none
  | .val _ => none
  | .ite c a b => xx_ite self ρ o c a b
  | .idx a i => xx_idx self ρ o a i
  | .upto a i => xx_upto self ρ o a i
  | .tup l => xx_tup self ρ o l
  | .lst l => xx_lst self ρ o l
  | .call f l => xx_call self ρ o f l
  | .bi b l => xx_bi self ρ o b l
  | .comp elt it caps => xx_comp self ρ o elt it caps
  | .compR elt e caps => xx_compR self ρ o elt e caps
  | .oget i e => xx_oget self ρ o i e
noncomputable def tt_cmp (self : Job → Option Rs) (ρ : Rho) (o : OwnL) (p : Cop) (a : X) (b : X) : Option Rs := thn (vOf (self (.x ρ o a))) fun x => thn (vOf (self (.x ρ o b))) fun y => thn (dcmp p x y) fun d => some (.b d)
noncomputable def tt_isN (self : Job → Option Rs) (ρ : Rho) (o : OwnL) (a : X) : Option Rs := thn (vOf (self (.x ρ o a))) fun d => some (.b (isNone d))
noncomputable def tt_notN (self : Job → Option Rs) (ρ : Rho) (o : OwnL) (a : X) : Option Rs := thn (vOf (self (.x ρ o a))) fun d => some (.b (!isNone d))
noncomputable def tt_and (self : Job → Option Rs) (ρ : Rho) (o : OwnL) (l : List X) : Option Rs := self (.a ρ o l)
noncomputable def tt_or (self : Job → Option Rs) (ρ : Rho) (o : OwnL) (l : List X) : Option Rs := self (.o ρ o l)
noncomputable def tt_val (self : Job → Option Rs) (ρ : Rho) (o : OwnL) (a : X) : Option Rs := thn (vOf (self (.x ρ o a))) fun d => thn (boolOf d) fun t => some (.b t)
noncomputable def stepT (self : Job → Option Rs) (ρ : Rho) (o : OwnL) : X → Option Rs
  | .cmp p a b => tt_cmp self ρ o p a b
  | .isN a => tt_isN self ρ o a
  | .notN a => tt_notN self ρ o a
  | .and l => tt_and self ρ o l
  | .or l => tt_or self ρ o l
  | .val a => tt_val self ρ o a
  | _ => none
noncomputable def cont (self : Job → Option Rs) (r : List Sm) (out : Out) : Option Rs := match out.2.2 with
  | none => self (.s out.1 out.2.1 r)
  | some _ => some (.out out)
noncomputable def ss_ret (self : Job → Option Rs) (ρ : Rho) (o : OwnL) (r : List Sm) (e : X) : Option Rs := thn (vOf (self (.x ρ o e))) fun d => some (.out (ρ, o, some d))
noncomputable def ss_asg (self : Job → Option Rs) (ρ : Rho) (o : OwnL) (r : List Sm) (i : Nat) (e : X) : Option Rs := thn (vOf (self (.x ρ o e))) fun d => when (offO o i) (self (.s (ρ.put i d) o r))
noncomputable def ss_asgS (self : Job → Option Rs) (ρ : Rho) (o : OwnL) (r : List Sm) (is : List Nat) (e : X) : Option Rs := thn (vOf (self (.x ρ o e))) fun d => thn (tupOf d) fun ds => when (Nat.beq ds.length is.length && is.all (offO o)) (self (.s (ρ.puts is.reverse ds.reverse) o r))
noncomputable def ss_sub (self : Job → Option Rs) (ρ : Rho) (o : OwnL) (r : List Sm) (i : Nat) (e : X) : Option Rs := thn (ρ.get i) fun x => thn (intOf x) fun a => thn (vOf (self (.x ρ o e))) fun y => thn (intOf y) fun b => when (offO o i) (self (.s (ρ.put i (.int (a - b))) o r))
noncomputable def ss_ite (self : Job → Option Rs) (ρ : Rho) (o : OwnL) (r : List Sm) (c : X) (a : List Sm) (b : List Sm) : Option Rs := thn (bOf (self (.t ρ o c))) fun t => thn (oOf (self (.s ρ o (match t with | true => a | false => b)))) (cont self r)
noncomputable def ss_whl (self : Job → Option Rs) (ρ : Rho) (o : OwnL) (r : List Sm) (c : X) (b : List Sm) : Option Rs := thn (oOf (self (.w ρ o c b))) (cont self r)
noncomputable def ss_forT (self : Job → Option Rs) (ρ : Rho) (o : OwnL) (r : List Sm) (i : Nat) (e : X) (b : List Sm) : Option Rs := thn (vOf (self (.x ρ o e))) fun d => thn (tupOf d) fun ls => thn (oOf (self (.f ρ o i ls b))) (cont self r)
noncomputable def ss_forE (self : Job → Option Rs) (ρ : Rho) (o : OwnL) (r : List Sm) (i : Nat) (v : Nat) (e : X) (b : List Sm) : Option Rs := thn (vOf (self (.x ρ o e))) fun d => thn (lisOf d) fun ls => thn (oOf (self (.e ρ o i v 0 ls b))) (cont self r)
noncomputable def ss_own (self : Job → Option Rs) (ρ : Rho) (o : OwnL) (r : List Sm) (i : Nat) (l : List X) (k : X) : Option Rs := match o with
    | some _ => none
    | none => thn (lOf (self (.l ρ none l))) fun xs => thn (vOf (self (.x ρ none k))) fun d => thn (natOf d) fun m =>
        when (Nat.ble (xs.length * m) 5000 && Nat.ble m 5000 && Nat.ble xs.length 5000) (self (.s (ρ.del i) (some (i, (List.replicate m xs).flatten)) r))
noncomputable def ss_own2 (self : Job → Option Rs) (ρ : Rho) (o : OwnL) (r : List Sm) (i : Nat) (j : Nat) (e : X) (l : List X) (k : X) : Option Rs := match o with
    | some _ => none
    | none => when (!(Nat.beq i j)) (thn (vOf (self (.x ρ none e))) fun y => thn (lOf (self (.l ρ none l))) fun xs => thn (vOf (self (.x ρ none k))) fun d => thn (natOf d) fun m =>
        when (Nat.ble (xs.length * m) 5000 && Nat.ble m 5000 && Nat.ble xs.length 5000) (self (.s ((ρ.del j).put i y) (some (j, (List.replicate m xs).flatten)) r)))
noncomputable def ss_sto (self : Job → Option Rs) (ρ : Rho) (o : OwnL) (r : List Sm) (i : Nat) (ei : X) (e : X) : Option Rs := thn o fun p => when (Nat.beq p.1 i) (thn (vOf (self (.x ρ o e))) fun d => thn (vOf (self (.x ρ o ei))) fun y => thn (natOf y) fun k =>
        when (Nat.ble k 100000 && Nat.blt k p.2.length) (self (.s ρ (some (i, p.2.set k d)) r)))
noncomputable def ss_frz (self : Job → Option Rs) (ρ : Rho) (o : OwnL) (r : List Sm)  : Option Rs := thn o fun p => self (.s (ρ.put p.1 (.list p.2)) none r)
noncomputable def ss_asgP (self : Job → Option Rs) (ρ : Rho) (o : OwnL) (r : List Sm) (is : List Nat) (e : X) : Option Rs := thn (vOf (self (.x ρ o e))) fun d => thn (tupOf d) fun ds => when (Nat.beq ds.length is.length && is.all (offO o)) (self (.s (ρ.puts is ds) o r))
noncomputable def stepS (self : Job → Option Rs) (ρ : Rho) (o : OwnL) (r : List Sm) : Sm → Option Rs
  | .ret e => ss_ret self ρ o r e
  | .asg i e => ss_asg self ρ o r i e
  | .asgS is e => ss_asgS self ρ o r is e
  | .sub i e => ss_sub self ρ o r i e
  | .ite c a b => ss_ite self ρ o r c a b
  | .whl c b => ss_whl self ρ o r c b
  | .forT i e b => ss_forT self ρ o r i e b
  | .forE i v e b => ss_forE self ρ o r i v e b
  | .own i l k => ss_own self ρ o r i l k
  | .own2 i j e l k => ss_own2 self ρ o r i j e l k
  | .sto i ei e => ss_sto self ρ o r i ei e
  | .frz => ss_frz self ρ o r 
  | .stuck => none
  | .rais _ _ => none
  | .asgP is e => ss_asgP self ρ o r is e
noncomputable def jj_l (self : Job → Option Rs) (ρ : Rho) (o : OwnL) (l : List X) : Option Rs := match l with
    | [] => some (.l [])
    | e :: r => thn (vOf (self (.x ρ o e))) fun d => thn (lOf (self (.l ρ o r))) fun ds => some (.l (d :: ds))
noncomputable def jj_a (self : Job → Option Rs) (ρ : Rho) (o : OwnL) (l : List X) : Option Rs := match l with
    | [] => some (.b true)
    | e :: r => thn (bOf (self (.t ρ o e))) fun t => match t with | true => self (.a ρ o r) | false => some (.b false)
noncomputable def jj_o (self : Job → Option Rs) (ρ : Rho) (o : OwnL) (l : List X) : Option Rs := match l with
    | [] => some (.b false)
    | e :: r => thn (bOf (self (.t ρ o e))) fun t => match t with | true => some (.b true) | false => self (.o ρ o r)
noncomputable def jj_m (self : Job → Option Rs) (ρ : Rho) (elt : X) (ls : List D) : Option Rs := match ls with
    | [] => some (.l [])
    | d :: r => thn (vOf (self (.x ((0, d) :: ρ) none elt))) fun y => thn (lOf (self (.m ρ elt r))) fun ys => some (.l (y :: ys))
noncomputable def jj_r (self : Job → Option Rs) (ρ : Rho) (elt : X) (k : Nat) (m : Nat) : Option Rs := match m with
    | 0 => some (.l [])
    | m + 1 => thn (vOf (self (.x ((0, .int (k : Nat)) :: ρ) none elt))) fun y => thn (lOf (self (.r ρ elt (k + 1) m))) fun ys => some (.l (y :: ys))
noncomputable def jj_s (self : Job → Option Rs) (ρ : Rho) (o : OwnL) (ss : List Sm) : Option Rs := match ss with
    | [] => some (.out (ρ, o, none))
    | st :: r => stepS self ρ o r st
noncomputable def jj_w (self : Job → Option Rs) (ρ : Rho) (o : OwnL) (c : X) (b : List Sm) : Option Rs := thn (bOf (self (.t ρ o c))) fun t => match t with
    | false => some (.out (ρ, o, none))
    | true => thn (oOf (self (.s ρ o b))) fun out => match out.2.2 with
      | none => self (.w out.1 out.2.1 c b)
      | some _ => some (.out out)
noncomputable def jj_f (self : Job → Option Rs) (ρ : Rho) (o : OwnL) (i : Nat) (ls : List D) (b : List Sm) : Option Rs := match ls with
    | [] => some (.out (ρ, o, none))
    | d :: r => when (offO o i) (thn (oOf (self (.s (ρ.put i d) o b))) fun out => match out.2.2 with
      | none => self (.f out.1 out.2.1 i r b)
      | some _ => some (.out out))
noncomputable def jj_e (self : Job → Option Rs) (ρ : Rho) (o : OwnL) (i : Nat) (v : Nat) (k : Nat) (ls : List D) (b : List Sm) : Option Rs := match ls with
    | [] => some (.out (ρ, o, none))
    | d :: r => when (offO o i && offO o v) (thn (oOf (self (.s ((ρ.put i (.int (k : Nat))).put v d) o b))) fun out => match out.2.2 with
      | none => self (.e out.1 out.2.1 i v (k + 1) r b)
      | some _ => some (.out out))
noncomputable def jj_c (P : Pg) (n : Nat) (self : Job → Option Rs) (f : Nat) (ds : List D) : Option Rs := match P.mem f ds with
    | some (m, d) => when (Nat.ble m n) (some (.v d))
    | none => thn (P.df f) fun p => when (Nat.beq ds.length p.1) (thn (oOf (self (.s (rho0 0 ds) none p.2))) fun out => thn out.2.2 fun d => some (.v d))
noncomputable def step (P : Pg) (n : Nat) (self : Job → Option Rs) : Job → Option Rs
  | .x ρ o e => stepX self ρ o e
  | .t ρ o e => stepT self ρ o e
  | .l ρ o l => jj_l self ρ o l
  | .a ρ o l => jj_a self ρ o l
  | .o ρ o l => jj_o self ρ o l
  | .m ρ elt ls => jj_m self ρ elt ls
  | .r ρ elt k m => jj_r self ρ elt k m
  | .s ρ o ss => jj_s self ρ o ss
  | .w ρ o c b => jj_w self ρ o c b
  | .f ρ o i ls b => jj_f self ρ o i ls b
  | .e ρ o i v k ls b => jj_e self ρ o i v k ls b
  | .c f ds => jj_c P n self f ds
noncomputable def run (P : Pg) : Nat → Job → Option Rs
  | 0, _ => none
  | n + 1, j => step P (n + 1) (run P n) j

/-! ## What text they stand for -/
noncomputable def isStar : Expr → Bool
  | .Starred .. => true
  | _ => false
noncomputable def nameAt (line : Nat) : Expr → Option Str
  | .Name id pos => if pos.line == line then some id else none
  | _ => none
theorem fm_congr {α β : Type} {f g : α → Option β} : ∀ {l : List α}, (∀ e ∈ l, f e = g e) → l.filterMap f = l.filterMap g
  | [], _ => rfl
  | a :: l, h => by rw [List.filterMap_cons, List.filterMap_cons, h a (.head _), fm_congr fun e he => h e (.tail _ he)]
structure SwOk (ts vs : List Expr) (names : List Str) : Prop where
  h1 : (!(ts.length == 2 || ts.length == 3) || vs.length != ts.length) = false
  h2 : vs.any isStar = false
  h3 : ts.filterMap (nameAt ((ts.head?.map (·.pos.line)).getD 0)) = names
  h4 : (names.length != ts.length || names.eraseDups.length != names.length) = false
  h5 : vs.all (foldedForSure 8) = false
  h6 : vs.all (constantsAlone 8) = false
theorem sw_of {env : Env} {ts vs : List Expr} {k k' : Nat} {tp vp : Pos} {names : List Str} (hb : env.blockKind = .function) (hk : ∀ x ∈ names, env.kindOf x = some .local) (K : SwOk ts vs names) :
    swappedStores [.Tuple ts k tp] (.Tuple vs k' vp) env = pure (some names) := by
  have e2 : (fun (e : Expr) => match e with | .Starred .. => true | _ => false) = isStar := by funext e; cases e <;> rfl
  have e3 : ts.filterMap (fun (e : Expr) => match e with
    | .Name id pos => if env.kindOf id == some .local && pos.line == ((ts.head?.map (·.pos.line)).getD 0) then some id else none
    | _ => none) = names := by
    rw [← K.h3]
    refine fm_congr fun e he => ?_
    cases e with
    | Name id pos =>
      show (if (env.kindOf id == some .local && pos.line == ((ts.head?.map (·.pos.line)).getD 0)) = true then some id else none) = (if (pos.line == ((ts.head?.map (·.pos.line)).getD 0)) = true then some id else none)
      by_cases hl : (pos.line == ((ts.head?.map (·.pos.line)).getD 0)) = true
      · have hm : id ∈ names := by
          rw [← K.h3]
          refine List.mem_filterMap.mpr ⟨_, he, ?_⟩
          show (if (pos.line == ((ts.head?.map (·.pos.line)).getD 0)) = true then some id else none) = some id
          rw [if_pos hl]
        rw [hk id hm, hl]; rfl
      · have hl' := Bool.eq_false_iff.mpr hl
        rw [hl', Bool.and_false]
    | _ => rfl
  unfold swappedStores
  simp only []
  have h1 : (!(ts.length == 2 || ts.length == 3) || vs.length != ts.length || env.blockKind != .function) = false := by rw [K.h1, hb]; rfl
  rw [h1]
  simp only [Bool.false_eq_true, if_false]
  have h2 := K.h2
  rw [← e2] at h2
  erw [h2]
  simp only [Bool.false_eq_true, if_false]
  erw [e3, K.h4]
  simp only [Bool.false_eq_true, if_false]
  rw [K.h5, K.h6]
  rfl
structure CompSc (z : Sc) (scope : Scope) (x : Str) (caps : List Nat) (ys : List Str) (z' : Sc) : Prop where
  cell : ∀ y ∈ scope.names, y.2 ≠ .cell
  kind : scope.kind = .function
  loc : ∀ y ∈ scope.names, y.2 = .local → scope.names.lookup y.1 = some .local
  hx : scope.names.lookup x = some .local
  hcaps : caps.map (fun i => z.nms[i]?) = ys.map some
  inn : ∀ y ∈ ys, z.names.lookup y = some .cell ∧ scope.names.lookup y = some .free
  free : ∀ y ∈ scope.names, y.2 = .free → y.1 ∈ ys
  nms : z'.nms = x :: ys
  hnames : z'.names = scope.names

noncomputable def bnames : List Str := ["abs", "max", "len", "list", "all", "range", "enumerate"]
abbrev Subd (e : Expr) : Prop := ∀ t k tk, subscripted e false (.ref t) (.int k tk) = operate [.ref t, .int k tk] (getItem (.ref t) (.int k tk))

section
variable (gd : Str → Option D) (fnm : Nat → Option Str)
mutual
inductive ErX : Sc → Expr → X → Prop
  | none {z k pos} : ErX z (.Constant .none k pos) (.cst .none)
  | bool {z b k pos} : ErX z (.Constant (.bool b) k pos) (.cst (.bool b))
  | int {z b k pos} : ErX z (.Constant (.int b) k pos) (.cst (.int b))
  | str {z b k pos} : ErX z (.Constant (.str b) k pos) (.cst (.str b))
  | var {z x pos i} (h : z.nms[i]? = some x) (hd : NotDebug x) : ErX z (.Name x pos) (.var i)
  | glob {z x pos d} (h : z.names.lookup x = some .globalImplicit) (hd : NotDebug x) (hg : gd x = some d) : ErX z (.Name x pos) (.cst d)
  | neg {z e pos a} (h : ErX z e a) : ErX z (.UnaryOp .USub e pos) (.neg a)
  | bin {z l r pos o a b} (h : ErX z l a) (h' : ErX z r b) : ErX z (.BinOp l (Bop.py o) r pos) (.bin o a b)
  | cmp {z l r pos o a b} (h : ErX z l a) (h' : ErX z r b) (hm : behindInMarks (Cop.py o) r = false) : ErX z (.Compare l [Cop.py o] [r] pos) (.cmp o a b)
  | isN {z e k p pos a} (h : ErX z e a) : ErX z (.Compare e [.Is] [.Constant .none k p] pos) (.isN a)
  | notN {z e k p pos a} (h : ErX z e a) : ErX z (.Compare e [.IsNot] [.Constant .none k p] pos) (.notN a)
  | and2 {z x y pos a b} (h : ErX z x a) (h' : ErX z y b) : ErX z (.BoolOp .And [x, y] pos) (.and2 a b)
  | or2 {z x y pos a b} (h : ErX z x a) (h' : ErX z y b) : ErX z (.BoolOp .Or [x, y] pos) (.or2 a b)
  | ite {z c x y pos cc a b} (hc : ErT z c cc) (h : ErX z x a) (h' : ErX z y b) : ErX z (.IfExp c x y pos) (.ite cc a b)
  | idx {z e i pos a b} (h : ErX z e a) (h' : ErX z i b) (hs : Subd i) : ErX z (.Subscript e i pos) (.idx a b)
  | upto {z e i p pos a b} (h : ErX z e a) (h' : ErX z i b) (ht : ∀ o r, letTemporaryGo e o r = pure ()) : ErX z (.Subscript e (.Slice Option.none (some i) Option.none p) pos) (.upto a b)
  | tup {z es k pos l} (h : ErL z es l) : ErX z (.Tuple es k pos) (.tup l)
  | lst {z es pos l} (h : ErL z es l) : ErX z (.List es pos) (.lst l)
  | call {z x p es pos f l} (hx : z.names.lookup x = some .globalImplicit) (hd : NotDebug x) (hf : fnm f = some x) (hne : es ≠ []) (h : ErL z es l) : ErX z (.Call (.Name x p) es [] pos) (.call f l)
  | bi {z x p es pos b l} (hx : z.names.lookup x = some .globalImplicit) (hb : x = Bi.nm b) (hne : es ≠ []) (h : ErL z es l) : ErX z (.Call (.Name x p) es [] pos) (.bi b l)
  | comp {z scope x px iter elt pos xe xi caps ys z'} (h : ErX z iter xi) (K : CompSc z scope x caps ys z') (hs : ∀ env x, foldedSetIterable iter env x = pure x) (h' : ErX z' elt xe) :
      ErX z (.ListComp elt [⟨.Name x px, iter, [], 0⟩] scope pos) (.comp xe xi caps)
  | compR {z scope x px r pr e p elt pos xe xi caps ys z'} (h : ErX z e xi) (hr : r = ("range" : Str)) (hx : z.names.lookup r = some .globalImplicit) (hst : NotStar e) (K : CompSc z scope x caps ys z')
      (hs : ∀ env x, foldedSetIterable (.Call (.Name r pr) [e] [] p) env x = pure x) (h' : ErX z' elt xe) :
      ErX z (.ListComp elt [⟨.Name x px, .Call (.Name r pr) [e] [] p, [], 0⟩] scope pos) (.compR xe xi caps)
  | oget {z x px i e pos a} (h : ErX z e a) (hi : z.nms[i]? = some x) (hd : NotDebug x) (hs : Subd e) : ErX z (.Subscript (.Name x px) e pos) (.oget i a)
inductive ErL : Sc → List Expr → List X → Prop
  | nil {z} : ErL z [] []
  | cons {z e es a l} (h : ErX z e a) (hs : NotStar e) (h' : ErL z es l) : ErL z (e :: es) (a :: l)
inductive ErT : Sc → Expr → X → Prop
  | cmp {z l r pos o a b} (h : ErX z l a) (h' : ErX z r b) (hm : behindInMarks (Cop.py o) r = false) : ErT z (.Compare l [Cop.py o] [r] pos) (.cmp o a b)
  | isN {z e k p pos a} (h : ErX z e a) : ErT z (.Compare e [.Is] [.Constant .none k p] pos) (.isN a)
  | notN {z e k p pos a} (h : ErX z e a) : ErT z (.Compare e [.IsNot] [.Constant .none k p] pos) (.notN a)
  | and {z es pos l} (h : ErA z es l) : ErT z (.BoolOp .And es pos) (.and l)
  | or {z es pos l} (h : ErA z es l) : ErT z (.BoolOp .Or es pos) (.or l)
  | val {z e a} (h : ErX z e a) (he : ∀ env whole, isTrue e env whole = (do let v ← whole; standAt e.pos; holding [v] (truthy v))) : ErT z e (.val a)
inductive ErA : Sc → List Expr → List X → Prop
  | nil {z} : ErA z [] []
  | cons {z e es a l} (h : ErT z e a) (h' : ErA z es l) : ErA z (e :: es) (a :: l)
end

inductive ErB : Sc → List Stmt → List Sm → Prop
  | nil {z} : ErB z [] []
  | frz {z ss l} (h : ErB z ss l) : ErB z ss (.frz :: l)
  | stuck {z ss} : ErB z ss [.stuck]
  | rais {z np cpos pos p1 p2 k1 k2 kd tx ss l} (hx : z.names.lookup ("CasFail" : Str) = some .globalImplicit) (h' : ErB z ss l) :
      ErB z (.Raise (some (.Call (.Name "CasFail" np) [.Constant (.str kd) k1 p1, .Constant (.str tx) k2 p2] [] cpos)) none pos :: ss) (.rais kd tx :: l)
  | ret {z e pos ss a l} (h : ErX gd fnm z e a) (h' : ErB z ss l) : ErB z (.Return (some e) pos :: ss) (.ret a :: l)
  | asg {z x p e pos i ss a l} (hi : z.nms[i]? = some x) (hk : z.names.lookup x = some .local) (h : ErX gd fnm z e a) (hs : ∀ env, swapsWith e (some (.Name x p)) pos.line env = pure false) (h' : ErB z ss l) :
      ErB z (.Assign [.Name x p] e pos :: ss) (.asg i a :: l)
  | asgS {z ts vs k k' tpos vpos pos names is ss a l} (hn : is.map (fun i => z.nms[i]?) = names.map some) (hk : ∀ x ∈ names, z.names.lookup x = some .local) (h : ErX gd fnm z (.Tuple vs k' vpos) a)
      (hs : ∀ env, swapsWithSole [.Tuple ts k tpos] (.Tuple vs k' vpos) pos.line env = pure false) (hw : SwOk ts vs names) (h' : ErB z ss l) :
      ErB z (.Assign [.Tuple ts k tpos] (.Tuple vs k' vpos) pos :: ss) (.asgS is a :: l)
  | asgP {z k tpos pos value is ss a l} {xs : List (Str × Pos)} (hn : is.map (fun i => z.nms[i]?) = (xs.map (·.1)).map some) (hk : ∀ x ∈ xs.map (·.1), z.names.lookup x = some .local) (h : ErX gd fnm z value a)
      (hs : ∀ env, swapsWithSole [.Tuple (xs.map fun (x : Str × Pos) => Expr.Name x.1 x.2) k tpos] value pos.line env = pure false) (hw : ∀ env, swappedStores [.Tuple (xs.map fun (x : Str × Pos) => Expr.Name x.1 x.2) k tpos] value env = pure none) (h' : ErB z ss l) :
      ErB z (.Assign [.Tuple (xs.map fun (x : Str × Pos) => Expr.Name x.1 x.2) k tpos] value pos :: ss) (.asgP is a :: l)
  | sub {z x p e pos i ss a l} (hi : z.nms[i]? = some x) (hk : z.names.lookup x = some .local) (h : ErX gd fnm z e a) (h' : ErB z ss l) : ErB z (.AugAssign (.Name x p) .Sub e pos :: ss) (.sub i a :: l)
  | ite {z c x y pos ss a p q l} (hc : ErT gd fnm z c a) (h : ErB z x p) (h1 : ErB z y q) (h' : ErB z ss l) : ErB z (.If c x y pos :: ss) (.ite a p q :: l)
  | whl {z c x pos ss a p l} (hc : ErT gd fnm z c a) (h : ErB z x p) (h' : ErB z ss l) : ErB z (.While c x [] pos :: ss) (.whl a p :: l)
  | forT {z x px it body pos ss i a p l} (hi : z.nms[i]? = some x) (hk : z.names.lookup x = some .local) (hs : ∀ env x, foldedSetIterable it env x = pure x) (ha : ErX gd fnm z it a) (h : ErB z body p) (h' : ErB z ss l) :
      ErB z (.For (.Name x px) it body [] pos :: ss) (.forT i a p :: l)
  | forE {z xi xv r pi pv pt pr p pos k1 e body ss ii iv a q l} (hi : z.nms[ii]? = some xi) (hki : z.names.lookup xi = some .local) (hv : z.nms[iv]? = some xv) (hkv : z.names.lookup xv = some .local)
      (hr : r = ("enumerate" : Str)) (hx : z.names.lookup r = some .globalImplicit) (hst : NotStar e) (ha : ErX gd fnm z e a) (h : ErB z body q) (h' : ErB z ss l) :
      ErB z (.For (.Tuple [.Name xi pi, .Name xv pv] k1 pt) (.Call (.Name r pr) [e] [] p) body [] pos :: ss) (.forE ii iv a q :: l)
  | own {z x p es pp e pb pos i ss a b l} (hi : z.nms[i]? = some x) (hk : z.names.lookup x = some .local) (h : ErL gd fnm z es a) (h1 : ErX gd fnm z e b)
      (hs : ∀ env, swapsWith (.BinOp (.List es pp) .Mult e pb) (some (.Name x p)) pos.line env = pure false) (h' : ErB z ss l) : ErB z (.Assign [.Name x p] (.BinOp (.List es pp) .Mult e pb) pos :: ss) (.own i a b :: l)
  | own2 {z x y e1 es pp e pb px py tpos pos vpos k k' i j ss c a b l} (hi : z.nms[i]? = some x) (hk : z.names.lookup x = some .local) (hj : z.nms[j]? = some y) (hkj : z.names.lookup y = some .local)
      (h0 : ErX gd fnm z e1 c) (h : ErL gd fnm z es a) (h1 : ErX gd fnm z e b) (st : NotStar e1)
      (hs : ∀ env, swapsWithSole [.Tuple [.Name x px, .Name y py] k tpos] (.Tuple [e1, .BinOp (.List es pp) .Mult e pb] k' vpos) pos.line env = pure false)
      (hw : SwOk [.Name x px, .Name y py] [e1, .BinOp (.List es pp) .Mult e pb] [x, y]) (h' : ErB z ss l) :
      ErB z (.Assign [.Tuple [.Name x px, .Name y py] k tpos] (.Tuple [e1, .BinOp (.List es pp) .Mult e pb] k' vpos) pos :: ss) (.own2 i j c a b :: l)
  | sto {z x px ei p e pos i ss a b l} (hi : z.nms[i]? = some x) (hd : NotDebug x) (h : ErX gd fnm z ei a) (h1 : ErX gd fnm z e b) (hs : ∀ env, swapsWith e (some (.Subscript (.Name x px) ei p)) pos.line env = pure false) (h' : ErB z ss l) :
      ErB z (.Assign [.Subscript (.Name x px) ei p] e pos :: ss) (.sto i a b :: l)
end
end Mine
namespace Mine
open PySem PySem.Spec PySem.Calls PyProof.Rows

/-! ## A comprehension's own frame -/
structure EnvX (z : Sc) (env : Env) : Prop extends EnvS z env where
  cel : ∀ y, z.names.lookup y = some .cell → env.kindOf y = some .cell
structure EnvF (z : Sc) (env : Env) : Prop extends EnvZ z env where
  kd : ∀ x, env.kindOf x = z.names.lookup x
theorem EnvF.toX {z : Sc} {env : Env} (Z : EnvF z env) : EnvX z env := { toEnvS := Z.toEnvS, cel := fun y h => (Z.kd y).trans h }

structure Xm (C : Cx) (z : Sc) (env : Env) (H : List Addr) (ρ : Rho) (o : OwnL) (s : Shared) : Prop where
  st : St C H s
  rho : EnvR z env H ρ s.heap
  own : ∀ p, o = some p → EnvZ z env ∧ ∃ s₀ H₀, Fm C z env s₀ H₀ H ρ o s

section
variable {C : Cx} {ft : Nat → Option Fi} {gd : Str → Option D} {A : Around} {H : List Addr} {s s' s₀ : Shared} {env : Env} {z : Sc} {ρ : Rho} {o : OwnL}
theorem Xm.keeps (V : Xm C z env H ρ o s) (k : Keeps s s') : Xm C z env H ρ o s' :=
  ⟨V.st.keeps k, V.rho.keeps (Ks.heap k), fun p e => let ⟨Z, s₀, H₀, F⟩ := V.own p e; ⟨Z, s₀, H₀, F.keeps k⟩⟩
theorem Fm.xm {H₀ : List Addr} (Z : EnvF z env) (F : Fm C z env s₀ H₀ H ρ o s) : Xm C z env H ρ o s := ⟨F.st, F.rho, fun _ _ => ⟨Z.toEnvZ, _, _, F⟩⟩

theorem gv_or2 {x y : Expr} {pos : Pos} {a : Bool} {c : PyData} (hx : Gv C A H (eval x env) (.bool a) s) (hy : a = false → ∀ s', Keeps s s' → Gv C A H (eval y env) c s') :
    Gv C A H (eval (.BoolOp .Or [x, y] pos) env) (match a with | true => .bool true | false => c) s := fun E =>
  wpAny_Or2 (hx.use fun v s1 k1 r1 => by
    have e : v = .bool a := r1
    subst e
    refine wpAny_truthy_bool ?_
    cases a with
    | true => exact ⟨k1, rfl⟩
    | false => exact (hy rfl s1 k1).use fun u s2 k2 r2 => ⟨Ks.trans k1 k2, r2⟩)

noncomputable def closG (env : Env) : List (Str × NameKind) → List (Str × Addr) → List (Str × Addr)
  | [], acc => acc
  | (n, k) :: r, acc => closG env r (if k == .free then (n, (env.cells.lookup n).getD 0) :: acc else acc)
theorem closure_for (f : Str × NameKind → List (Str × Addr) → Sem (ForInStep (List (Str × Addr))))
    (hf : ∀ n k cs, f (n, k) cs = if k == .free then (do let c ← cellOf env n; pure (.yield ((n, c) :: cs))) else pure (.yield cs)) :
    ∀ (names : List (Str × NameKind)) (acc : List (Str × Addr)), (∀ y ∈ names, y.2 = .free → (env.cells.lookup y.1).isSome = true) → forIn names acc f = pure (closG env names acc)
  | [], acc, _ => by rw [List.forIn_nil]; rfl
  | (n, k) :: r, acc, h => by
    rw [List.forIn_cons, hf]
    unfold closG
    by_cases hk : (k == NameKind.free) = true
    · rw [if_pos hk, if_pos hk]
      obtain ⟨c, hc⟩ := Option.isSome_iff_exists.mp (h (n, k) List.mem_cons_self (by simpa using hk))
      have hc' : env.cells.lookup n = some c := hc
      have : cellOf env n = pure c := by unfold cellOf; rw [hc']
      rw [this, hc']
      exact closure_for f hf r _ fun y hy => h y (List.mem_cons_of_mem _ hy)
    · rw [if_neg hk, if_neg hk]
      exact closure_for f hf r _ fun y hy => h y (List.mem_cons_of_mem _ hy)
theorem closureFor_eq {scope : Scope} (h : ∀ y ∈ scope.names, y.2 = .free → (env.cells.lookup y.1).isSome = true) : closureFor scope env = pure (closG env scope.names []) := by
  unfold closureFor
  have := closure_for (env := env) (fun (x : Str × NameKind) cs => match x with | (n, k) => if k == .free then (do let c ← cellOf env n; pure (.yield ((n, c) :: cs))) else pure (.yield cs)) (fun _ _ _ => rfl) scope.names [] h
  exact (congrArg (fun t => t >>= fun cs => pure cs) this).trans rfl
theorem closG_mem : ∀ {names : List (Str × NameKind)} {acc : List (Str × Addr)} {y : Str} {c : Addr}, (closG env names acc).lookup y = some c → (acc.lookup y = some c) ∨ (c = (env.cells.lookup y).getD 0)
  | [], acc, y, c, h => .inl h
  | (n, k) :: r, acc, y, c, h => by
    unfold closG at h
    rcases closG_mem h with h1 | h1
    · split at h1
      · rw [List.lookup_cons] at h1
        cases hb : y == n with
        | true =>
          rw [hb] at h1
          simp at h1
          have : y = n := beq_iff_eq.mp hb
          exact .inr (by rw [this]; exact h1.symm)
        | false => rw [hb] at h1; exact .inl h1
      · exact .inl h1
    · exact .inr h1
theorem closG_acc : ∀ {names : List (Str × NameKind)} {acc : List (Str × Addr)} {y : Str}, (acc.lookup y).isSome = true → ((closG env names acc).lookup y).isSome = true
  | [], _, _, h => h
  | (n, k) :: r, acc, y, h => by
    unfold closG
    refine closG_acc ?_
    split
    · rw [List.lookup_cons]; cases y == n <;> simp [h]
    · exact h
theorem closG_has : ∀ {names : List (Str × NameKind)} {acc : List (Str × Addr)} {y : Str}, (y, NameKind.free) ∈ names → ((closG env names acc).lookup y).isSome = true
  | (n, k) :: r, acc, y, h => by
    unfold closG
    rcases List.mem_cons.mp h with e | h
    · cases e
      refine closG_acc ?_
      rw [if_pos (by decide), List.lookup_cons]; simp
    · exact closG_has h
theorem closG_look {names : List (Str × NameKind)} {y : Str} {c : Addr} (hm : (y, NameKind.free) ∈ names) (hc : env.cells.lookup y = some c) : (closG env names []).lookup y = some c := by
  obtain ⟨c', e⟩ := Option.isSome_iff_exists.mp (closG_has (env := env) (acc := []) hm)
  rcases closG_mem e with h | h
  · cases h
  · rw [e, h, hc]; rfl

/-- a free name that the frame around holds in a cell is a cell of the comprehension's -/
theorem lookup_relabel_free (hf : env.scope.kind = .function) : ∀ {names : List (Str × NameKind)} {x : Str}, env.kindOf x = some .cell → names.lookup x = some .free →
    (names.map fun (n, k) => if (k == NameKind.free && env.scope.kind == .function && env.kindOf n == some .cell) then (n, NameKind.cell) else (n, k)).lookup x = some .cell
  | [], _, _, h => by simp at h
  | (n, k) :: r, x, hc, h => by
    have ih := @lookup_relabel_free hf r x hc
    show List.lookup x ((if (k == NameKind.free && env.scope.kind == .function && env.kindOf n == some .cell) = true then (n, NameKind.cell) else (n, k)) :: _) = _
    cases hx : x == n with
    | true =>
      simp only [List.lookup_cons, hx] at h
      cases h
      have : x = n := beq_iff_eq.mp hx
      subst this
      simp [hf, hc, List.lookup_cons]
    | false =>
      simp only [List.lookup_cons, hx] at h
      by_cases hcc : (k == NameKind.free && env.scope.kind == .function && env.kindOf n == some .cell) = true
      · rw [if_pos hcc]; simp only [List.lookup_cons, hx]; exact ih h
      · rw [if_neg hcc]; simp only [List.lookup_cons, hx]; exact ih h
theorem lookup_relabel_other {k0 : NameKind} (hk0 : k0 ≠ .free) : ∀ {names : List (Str × NameKind)} {x : Str}, names.lookup x = some k0 →
    (names.map fun (n, k) => if (k == NameKind.free && env.scope.kind == .function && env.kindOf n == some .cell) then (n, NameKind.cell) else (n, k)).lookup x = some k0
  | [], _, h => by simp at h
  | (n, k) :: r, x, h => by
    have ih := @lookup_relabel_other k0 hk0 r x
    show List.lookup x ((if (k == NameKind.free && env.scope.kind == .function && env.kindOf n == some .cell) = true then (n, NameKind.cell) else (n, k)) :: _) = _
    cases hx : x == n with
    | true =>
      simp only [List.lookup_cons, hx] at h
      cases h
      have : (k0 == NameKind.free) = false := by simpa using hk0
      simp [List.lookup_cons, hx, this]
    | false =>
      simp only [List.lookup_cons, hx] at h
      by_cases hcc : (k == NameKind.free && env.scope.kind == .function && env.kindOf n == some .cell) = true
      · rw [if_pos hcc]; simp only [List.lookup_cons, hx]; exact ih h
      · rw [if_neg hcc]; simp only [List.lookup_cons, hx]; exact ih h

theorem mem_of_lookup' {names : List (Str × NameKind)} {y : Str} {k : NameKind} (h : names.lookup y = some k) : (y, k) ∈ names := mem_of_lookup h

theorem capR_get : ∀ {caps : List Nat} {k0 : Nat} {ρ' : Rho} {j : Nat} {d : D}, capR ρ k0 caps = some ρ' → ρ'.get j = some d → ∃ k i, j = k0 + k ∧ caps[k]? = some i ∧ ρ.get i = some d
  | [], k0, ρ', j, d, h, e => by cases h; cases e
  | i :: r, k0, ρ', j, d, h, e => by
    obtain ⟨di, hi, h⟩ := thn_eq h
    obtain ⟨q, hq, h⟩ := thn_eq h
    cases h
    unfold Rho.get at e
    rw [beq_of] at e
    by_cases hj : k0 = j
    · simp only [hj, decide_true] at e
      cases e
      exact ⟨0, i, by omega, by simp, hi⟩
    · simp only [hj, decide_false] at e
      obtain ⟨k, i', rfl, h1, h2⟩ := capR_get hq e
      exact ⟨k + 1, i', by omega, by simpa using h1, h2⟩
theorem capR_all : ∀ {caps : List Nat} {k0 : Nat} {ρ' : Rho} {i : Nat}, capR ρ k0 caps = some ρ' → i ∈ caps → ∃ d, ρ.get i = some d
  | i :: r, k0, ρ', i', h, hm => by
    obtain ⟨di, hi, h⟩ := thn_eq h
    obtain ⟨q, hq, h⟩ := thn_eq h
    rcases List.mem_cons.mp hm with rfl | hm
    · exact ⟨di, hi⟩
    · exact capR_all hq hm

theorem held_cell {h : Heap} {y : Str} {v : Value} (hk : env.kindOf y = some .cell) (q : Held env h y v) : ∃ c, env.cells.lookup y = some c ∧ h.IsCell c (some v) := by
  rcases q with ⟨k, _⟩ | ⟨_, c, hc, hv⟩
  · rw [hk] at k; cases k
  · exact ⟨c, hc, hv⟩

theorem comp_env {scope : Scope} {x : Str} {caps : List Nat} {ys : List Str} {z' : Sc} {ρ' : Rho} (Z : EnvX z env) (V : Xm C z env H ρ o s) (K : CompSc z scope x caps ys z') (hc : capR ρ 1 caps = some ρ') :
    closureFor scope env = pure (closG env scope.names []) ∧ ∀ (L D : Addr) (s₃ : Shared) (m₃ : Str → Option Value) (v : Value) (di : PyData), s.heap.get? D = none → (∃ o, s₃.heap.get? D = some o) → (∀ b o, s.heap.get? b = some o → s₃.heap.get? b = some o) →
      Rz (D :: H) s₃.heap di v → s₃.heap.Ns L m₃ → m₃ x = some v → EnvX z' (compEnvC scope (closG env scope.names []) L env) ∧ Xm C z' (compEnvC scope (closG env scope.names []) L env) (D :: H) ((0, di) :: ρ') none s₃ := by
  have cap : ∀ (k i : Nat), caps[k]? = some i → ∃ y, ys[k]? = some y ∧ z.nms[i]? = some y := fun k i hk => by
    have h1 : (caps.map (fun i => z.nms[i]?))[k]? = some (z.nms[i]?) := by rw [List.getElem?_map, hk]; rfl
    rw [K.hcaps, List.getElem?_map] at h1
    cases hy : ys[k]? with
    | none => rw [hy] at h1; cases h1
    | some y => rw [hy] at h1; exact ⟨y, rfl, (Option.some.inj h1).symm⟩
  have cap' : ∀ y ∈ ys, ∃ i ∈ caps, z.nms[i]? = some y := fun y hy => by
    have : some y ∈ ys.map some := List.mem_map.mpr ⟨y, hy, rfl⟩
    rw [← K.hcaps] at this
    obtain ⟨i, hi, e⟩ := List.mem_map.mp this
    exact ⟨i, hi, e⟩
  have hcel : ∀ y ∈ ys, ∃ c, env.cells.lookup y = some c := fun y hy => by
    obtain ⟨i, hi, e⟩ := cap' y hy
    obtain ⟨d, hd⟩ := capR_all hc hi
    obtain ⟨y', v, hy', hh, _⟩ := V.rho i d hd
    rw [e] at hy'; cases hy'
    obtain ⟨c, hc, _⟩ := held_cell (Z.cel y (K.inn y hy).1) hh
    exact ⟨c, hc⟩
  refine ⟨closureFor_eq fun y hy hf => ?_, fun L D s₃ m₃ v di hD ho hk r hns hm => ⟨⟨⟨K.kind, Z.gl, Z.bi, fun y hy => ?_⟩, fun y hy => ?_⟩, ⟨fun b ob e => hk b ob (V.st.old b ob e), fun b hb => ?_, fun b hb => ?_⟩, fun j d e => ?_, fun p e => by cases e⟩⟩
  · obtain ⟨c, e⟩ := hcel y.1 (K.free y hy hf)
    rw [e]; rfl
  · rw [K.hnames] at hy
    exact lookup_relabel_other (by decide) hy
  · rw [K.hnames] at hy
    exact absurd rfl (K.cell _ (mem_of_lookup' hy))
  · rcases List.mem_cons.mp hb with rfl | hb
    · cases e : C.h0.get? b with
      | none => rfl
      | some ob => rw [V.st.old b ob e] at hD; cases hD
    · exact V.st.hid b hb
  · rcases List.mem_cons.mp hb with rfl | hb
    · exact ho
    · obtain ⟨ob, e⟩ := V.st.inn b hb
      exact ⟨ob, hk b ob e⟩
  · unfold Rho.get at e
    rw [beq_of] at e
    by_cases hj : 0 = j
    · simp only [hj, decide_true] at e
      cases e
      subst hj
      exact ⟨x, v, by rw [K.nms]; rfl, .inl ⟨lookup_relabel_local K.hx, m₃, hns, hm⟩, r⟩
    · simp only [hj, decide_false] at e
      obtain ⟨k, i, rfl, h1, h2⟩ := capR_get hc e
      obtain ⟨y, hy, hny⟩ := cap k i h1
      obtain ⟨y', u, hy', hh, ru⟩ := V.rho i d h2
      rw [hny] at hy'; cases hy'
      have hin := K.inn y (List.mem_of_getElem? hy)
      have kc := Z.cel y hin.1
      obtain ⟨c, hc1, hc2⟩ := held_cell kc hh
      refine ⟨y, u, by rw [K.nms, Nat.add_comm]; exact hy, .inr ⟨?_, c, ?_, hc2.keeps hk⟩, ?_⟩
      · exact lookup_relabel_free Z.fn kc hin.2
      · exact closG_look (mem_of_lookup' hin.2) hc1
      · refine (Rz.off (fun a ob e hn hm => ?_) _ ru).keeps hk
        rcases List.mem_cons.mp hm with rfl | hm
        · rw [hD] at e; cases e
        · exact hn hm
end
end Mine
namespace Mine
open PySem PySem.Spec PySem.Calls PyProof.Rows

/-! ## The small language tells what the text does -/
structure Wd (C : Cx) (ft : Nat → Option Fi) (gd : Str → Option D) (fnm : Nat → Option Str) (P : Pg) : Prop where
  B : Bas C ft gd
  N : ∀ x ∈ bnames, C.mg x = none
  df : ∀ f ar ir, P.df f = some (ar, ir) → ∃ i z, ft f = some i ∧ FdOk i.fd i.body z ar ∧ ErB gd fnm z i.body ir
  fn : ∀ f x, fnm f = some x → ∃ i, ft f = some i ∧ i.name = x
  mem : ∀ f ds m d, P.mem f ds = some (m, d) → CallOk C ft m f ds d

structure All (C : Cx) (ft : Nat → Option Fi) (gd : Str → Option D) (fnm : Nat → Option Str) (P : Pg) (n : Nat) : Prop where
  x : ∀ ρ o e d, run P n (.x ρ o e) = some (.v d) → ∀ z t, ErX gd fnm z t e → ∀ A env H s, Room A n → EnvX z env → Xm C z env H ρ o s → Gv C A H (eval t env) d s
  t : ∀ ρ o e b, run P n (.t ρ o e) = some (.b b) → ∀ z t, ErT gd fnm z t e → ∀ A env H s, Room A n → EnvX z env → Xm C z env H ρ o s → Gb C A (isTrue t env (eval t env)) b s
  l : ∀ ρ o l ds, run P n (.l ρ o l) = some (.l ds) → ∀ z ts, ErL gd fnm z ts l → ∀ A env H s, Room A n → EnvX z env → Xm C z env H ρ o s → ∀ pos, GvL C A H (spliced (backTo pos (starEach ts env))) ds s
  a : ∀ ρ o l b, run P n (.a ρ o l) = some (.b b) → ∀ z ts, ErA gd fnm z ts l → ∀ A env H s, Room A n → EnvX z env → Xm C z env H ρ o s → Gb C A (allTrue .And ts env) b s
  o : ∀ ρ o l b, run P n (.o ρ o l) = some (.b b) → ∀ z ts, ErA gd fnm z ts l → ∀ A env H s, Room A n → EnvX z env → Xm C z env H ρ o s → Gb C A (allTrue .Or ts env) b s
  m : ∀ ρ elt ls ds, run P n (.m ρ elt ls) = some (.l ds) → ls.length = ds.length ∧ ∀ (i : Nat) di d, ls[i]? = some di → ds[i]? = some d → ∃ m, m < n ∧ run P m (.x ((0, di) :: ρ) none elt) = some (.v d)
  r : ∀ ρ elt k j ds, run P n (.r ρ elt k j) = some (.l ds) → j = ds.length ∧ ∀ (i : Nat) d, ds[i]? = some d → ∃ m, m < n ∧ run P m (.x ((0, .int ((k + i : Nat) : Int)) :: ρ) none elt) = some (.v d)
  s : ∀ ρ o ss out, run P n (.s ρ o ss) = some (.out out) → ∀ z ts, ErB gd fnm z ts ss → ∀ A env s₀ H₀ H s, Room A n → EnvF z env → Fm C z env s₀ H₀ H ρ o s → Xs C A z env s₀ H₀ H (execs ts env) out s
  c : ∀ f ds d, run P n (.c f ds) = some (.v d) → CallOk C ft n f ds d

section
variable {C : Cx} {ft : Nat → Option Fi} {gd : Str → Option D} {fnm : Nat → Option Str} {P : Pg}

theorem notStar_of : ∀ {z : Sc} {ts : List Expr} {l : List X}, ErL gd fnm z ts l → ∀ e ∈ ts, NotStar e
  | _, [], _, _, _, h => by cases h
  | _, t :: ts, _, h, e, he => by
    cases h with
    | cons h hs h' =>
      rcases List.mem_cons.mp he with rfl | he
      · exact hs
      · exact notStar_of h' e he
theorem bi_hb {b : Bi} : bootBuiltins b.nm = some b.val := by cases b <;> rfl
theorem bi_name {b : Bi} : b.nm ≠ ("__name__" : Str) := by cases b <;> decide
theorem bi_dbg {b : Bi} : NotDebug b.nm := by cases b <;> (show (_ == _) = false; decide)
theorem bi_in {b : Bi} : b.nm ∈ bnames := by cases b <;> decide

theorem sound_x {n : Nat} (W : Wd C ft gd fnm P) (ih : ∀ m, m < n + 1 → All C ft gd fnm P m) (ρ : Rho) (o : OwnL) (e : X) (d : D) (h : stepX (run P n) ρ o e = some (.v d)) (z : Sc) (t : Expr) (k : ErX gd fnm z t e)
    (A : Around) (env : Env) (H : List Addr) (s : Shared) (R : Room A (n + 1)) (Z : EnvX z env) (V : Xm C z env H ρ o s) : Gv C A H (eval t env) d s := by
  have R' : Room A n := R.less (Nat.le_succ n)
  have I := ih n (Nat.lt_succ_self n)
  cases k with
  | none => cases h; exact gv_none
  | bool => cases h; exact gv_bool
  | int => cases h; exact gv_int
  | str => cases h; exact gv_str
  | var hi hd =>
    obtain ⟨d', hg, h⟩ := thn_eq h
    cases h
    obtain ⟨x', v, hx', hh, r⟩ := V.rho _ _ hg
    rw [hi] at hx'; cases hx'
    exact gv_name Z.fn hh r hd
  | glob hx hd hg =>
    cases h
    obtain ⟨v, hv, r⟩ := W.B.dat _ _ hg
    exact gv_glob Z.toEnvS V.st W.B.g hx hv r hd
  | neg ha =>
    obtain ⟨da, h1, h⟩ := thn_eq h
    obtain ⟨k, h2, h⟩ := thn_eq h
    cases h
    rw [intOf_eq h2] at h1
    exact gv_neg (I.x _ _ _ _ (vOf_eq h1) _ _ ha A env H s R' Z V)
  | bin ha hb =>
    obtain ⟨da, h1, h⟩ := thn_eq h
    obtain ⟨db, h2, h⟩ := thn_eq h
    obtain ⟨dc, h3, h⟩ := thn_eq h
    cases h
    exact gv_bin h3 V.st (I.x _ _ _ _ (vOf_eq h1) _ _ ha A env H s R' Z V) fun s' k => I.x _ _ _ _ (vOf_eq h2) _ _ hb A env H s' R' Z (V.keeps k)
  | cmp ha hb hm =>
    obtain ⟨da, h1, h⟩ := thn_eq h
    obtain ⟨db, h2, h⟩ := thn_eq h
    obtain ⟨dc, h3, h⟩ := thn_eq h
    cases h
    exact gv_cmp R' h3 (I.x _ _ _ _ (vOf_eq h1) _ _ ha A env H s R' Z V) (fun s' k => I.x _ _ _ _ (vOf_eq h2) _ _ hb A env H s' R' Z (V.keeps k)) hm
  | isN ha =>
    obtain ⟨da, h1, h⟩ := thn_eq h
    cases h
    exact gv_isNone (I.x _ _ _ _ (vOf_eq h1) _ _ ha A env H s R' Z V)
  | notN ha =>
    obtain ⟨da, h1, h⟩ := thn_eq h
    cases h
    exact gv_notNone (I.x _ _ _ _ (vOf_eq h1) _ _ ha A env H s R' Z V)
  | and2 ha hb =>
    obtain ⟨da, h1, h⟩ := thn_eq h
    obtain ⟨b, h2, h⟩ := thn_eq h
    rw [boolOf_eq h2] at h1
    have ga := I.x _ _ _ _ (vOf_eq h1) _ _ ha A env H s R' Z V
    cases b with
    | false =>
      cases h
      exact gv_and2 (a := false) (c := .none) ga fun e => by cases e
    | true => exact gv_and2 (a := true) (c := d) ga fun _ s' k => I.x _ _ _ _ h _ _ hb A env H s' R' Z (V.keeps k)
  | or2 ha hb =>
    obtain ⟨da, h1, h⟩ := thn_eq h
    obtain ⟨b, h2, h⟩ := thn_eq h
    rw [boolOf_eq h2] at h1
    have ga := I.x _ _ _ _ (vOf_eq h1) _ _ ha A env H s R' Z V
    cases b with
    | true =>
      cases h
      exact gv_or2 (a := true) (c := .none) ga fun e => by cases e
    | false => exact gv_or2 (a := false) (c := d) ga fun _ s' k => I.x _ _ _ _ h _ _ hb A env H s' R' Z (V.keeps k)
  | ite hc ha hb =>
    obtain ⟨b, h1, h⟩ := thn_eq h
    refine gv_ite (I.t _ _ _ _ (bOf_eq h1) _ _ hc A env H s R' Z V) (fun e s' k => ?_) (fun e s' k => ?_)
    · subst e; exact I.x _ _ _ _ h _ _ ha A env H s' R' Z (V.keeps k)
    · subst e; exact I.x _ _ _ _ h _ _ hb A env H s' R' Z (V.keeps k)
  | idx ha hb hs =>
    obtain ⟨da, h1, h⟩ := thn_eq h
    obtain ⟨db, h2, h⟩ := thn_eq h
    obtain ⟨dc, h3, h⟩ := thn_eq h
    cases h
    exact gv_idx h3 (I.x _ _ _ _ (vOf_eq h1) _ _ ha A env H s R' Z V) (fun s' k => I.x _ _ _ _ (vOf_eq h2) _ _ hb A env H s' R' Z (V.keeps k)) hs
  | upto ha hb hs =>
    obtain ⟨da, h1, h⟩ := thn_eq h
    obtain ⟨db, h2, h⟩ := thn_eq h
    obtain ⟨dc, h3, h⟩ := thn_eq h
    cases h
    exact gv_upto h3 V.st (I.x _ _ _ _ (vOf_eq h1) _ _ ha A env H s R' Z V) (fun s' k => I.x _ _ _ _ (vOf_eq h2) _ _ hb A env H s' R' Z (V.keeps k)) hs
  | tup hl =>
    obtain ⟨ds, h1, h⟩ := thn_eq h
    obtain ⟨h2, h⟩ := when_eq h
    cases h
    exact gv_tuple V.st (Nat.le_of_ble_eq_true h2) (I.l _ _ _ _ (lOf_eq h1) _ _ hl A env H s R' Z V _)
  | lst hl =>
    obtain ⟨ds, h1, h⟩ := thn_eq h
    obtain ⟨h2, h⟩ := when_eq h
    cases h
    exact gv_list V.st (Nat.le_of_ble_eq_true h2) (I.l _ _ _ _ (lOf_eq h1) _ _ hl A env H s R' Z V _)
  | call hx hd hf hne hl =>
    obtain ⟨ds, h1, h⟩ := thn_eq h
    obtain ⟨i, hi, hn⟩ := W.fn _ _ hf
    exact gv_call Z.toEnvS V.st W.B R' hi hn hx hd hne (notStar_of hl) (I.l _ _ _ _ (lOf_eq h1) _ _ hl A env H s R' Z V _) (I.c _ _ _ h)
  | bi hx hb hne hl =>
    obtain ⟨ds, h1, h⟩ := thn_eq h
    obtain ⟨d', h2, h⟩ := thn_eq h
    cases h
    subst hb
    exact gv_callB Z.toEnvS V.st W.B R' h2 (W.N _ bi_in) bi_name bi_hb hx bi_dbg hne (notStar_of hl) (I.l _ _ _ _ (lOf_eq h1) _ _ hl A env H s R' Z V _)
  | comp hit K hs helt =>
    obtain ⟨d', h1, h⟩ := thn_eq h
    obtain ⟨ls, h2, h⟩ := thn_eq h
    obtain ⟨ρ', h3, h⟩ := thn_eq h
    obtain ⟨ds, h4, h⟩ := thn_eq h
    obtain ⟨h5, h⟩ := when_eq h
    cases h
    obtain ⟨hcl, henv⟩ := comp_env Z V K h3
    obtain ⟨hlen, hel⟩ := I.m _ _ _ _ (lOf_eq h4)
    have hi := I.x _ _ _ _ (vOf_eq h1) _ _ hit A env H s R' Z V
    have he : ∀ (i : Nat) (di d : PyData), ls[i]? = some di → ds[i]? = some d → EltOk C A H s env _ _ _ _ di d := fun i di d h6 h7 => by
      intro L D' s₃ m₃ v hD ho hk r hns hm
      obtain ⟨m, hm', hrun⟩ := hel i di d h6 h7
      obtain ⟨Z3, V3⟩ := henv L D' s₃ m₃ v di hD ho hk r hns hm
      exact (ih m (by omega)).x _ _ _ _ hrun _ _ helt A _ _ s₃ (R'.less (by omega)) Z3 V3
    have K' : CompS env _ _ _ _ := ⟨hcl, K.cell, K.kind, K.loc, K.hx, hs env⟩
    unfold seqOf at h2
    split at h2
    · cases h2
      exact gv_comp_list V.st R' K' hlen (Nat.le_of_ble_eq_true h5) hi he
    · cases h2
      exact gv_comp_tuple V.st R' K' hlen (Nat.le_of_ble_eq_true h5) hi he
    · cases h2
  | compR hit hr hx hst K hs helt =>
    obtain ⟨d', h1, h⟩ := thn_eq h
    obtain ⟨j, h2, h⟩ := thn_eq h
    obtain ⟨ρ', h3, h⟩ := thn_eq h
    obtain ⟨ds, h4, h⟩ := thn_eq h
    obtain ⟨h5, h⟩ := when_eq h
    cases h
    rw [natOf_eq h2] at h1
    obtain ⟨hcl, henv⟩ := comp_env Z V K h3
    obtain ⟨hlen, hel⟩ := I.r _ _ _ _ _ (lOf_eq h4)
    have hi := I.x _ _ _ _ (vOf_eq h1) _ _ hit A env H s R' Z V
    have K' : CompS env _ _ _ _ := ⟨hcl, K.cell, K.kind, K.loc, K.hx, hs env⟩
    refine gv_comp_range Z.toEnvS V.st W.B R' K' hr (W.N _ (by subst hr; decide)) (by subst hr; rfl) hx hst hlen (Nat.le_of_ble_eq_true h5) hi fun i d h7 => ?_
    intro L D' s₃ m₃ v hD ho hk r hns hm
    obtain ⟨m, hm', hrun⟩ := hel i d h7
    rw [Nat.zero_add] at hrun
    obtain ⟨Z3, V3⟩ := henv L D' s₃ m₃ v _ hD ho hk r hns hm
    exact (ih m (by omega)).x _ _ _ _ hrun _ _ helt A _ _ s₃ (R'.less (by omega)) Z3 V3
  | oget he hi hd hs =>
    obtain ⟨p, h1, h⟩ := thn_eq h
    obtain ⟨h2, h⟩ := when_eq h
    obtain ⟨dk, h3, h⟩ := thn_eq h
    obtain ⟨kk, h4, h⟩ := thn_eq h
    obtain ⟨h5, h⟩ := when_eq h
    obtain ⟨dd, h6, h⟩ := thn_eq h
    cases h
    subst h1
    obtain ⟨ip, xs⟩ := p
    have hpi : ip = _ := Nat.eq_of_beq_eq_true h2
    subst hpi
    rw [natOf_eq h4] at h3
    obtain ⟨Zz, s₀, H₀, F⟩ := V.own _ rfl
    exact gv_oget Zz F hi hd (I.x _ _ _ _ (vOf_eq h3) _ _ he A env H s R' Z V) (Nat.le_of_ble_eq_true h5) h6 hs

theorem sound_t {n : Nat} (W : Wd C ft gd fnm P) (I : All C ft gd fnm P n) (ρ : Rho) (o : OwnL) (e : X) (b : Bool) (h : stepT (run P n) ρ o e = some (.b b)) (z : Sc) (t : Expr) (k : ErT gd fnm z t e)
    (A : Around) (env : Env) (H : List Addr) (s : Shared) (R : Room A (n + 1)) (Z : EnvX z env) (V : Xm C z env H ρ o s) : Gb C A (isTrue t env (eval t env)) b s := by
  have R' : Room A n := R.less (Nat.le_succ n)
  cases k with
  | cmp ha hb hm =>
    obtain ⟨da, h1, h⟩ := thn_eq h
    obtain ⟨db, h2, h⟩ := thn_eq h
    obtain ⟨dc, h3, h⟩ := thn_eq h
    cases h
    exact gb_cmp R' h3 (I.x _ _ _ _ (vOf_eq h1) _ _ ha A env H s R' Z V) (fun s' k => I.x _ _ _ _ (vOf_eq h2) _ _ hb A env H s' R' Z (V.keeps k)) hm
  | isN ha =>
    obtain ⟨da, h1, h⟩ := thn_eq h
    cases h
    exact gb_isNone (I.x _ _ _ _ (vOf_eq h1) _ _ ha A env H s R' Z V)
  | notN ha =>
    obtain ⟨da, h1, h⟩ := thn_eq h
    cases h
    exact gb_notNone (I.x _ _ _ _ (vOf_eq h1) _ _ ha A env H s R' Z V)
  | and hl => exact gb_and (I.a _ _ _ _ h _ _ hl A env H s R' Z V)
  | or hl => exact gb_or (I.o _ _ _ _ h _ _ hl A env H s R' Z V)
  | val ha he =>
    obtain ⟨da, h1, h⟩ := thn_eq h
    obtain ⟨db, h2, h⟩ := thn_eq h
    cases h
    rw [boolOf_eq h2] at h1
    exact gb_value (I.x _ _ _ _ (vOf_eq h1) _ _ ha A env H s R' Z V) (he env)

theorem sound_l {n : Nat} (I : All C ft gd fnm P n) (ρ : Rho) (o : OwnL) (l : List X) (ds : List D) (h : run P (n + 1) (.l ρ o l) = some (.l ds)) (z : Sc) (ts : List Expr) (k : ErL gd fnm z ts l)
    (A : Around) (env : Env) (H : List Addr) (s : Shared) (R : Room A (n + 1)) (Z : EnvX z env) (V : Xm C z env H ρ o s) (pos : Pos) : GvL C A H (spliced (backTo pos (starEach ts env))) ds s := by
  have R' : Room A n := R.less (Nat.le_succ n)
  cases k with
  | nil => cases h; exact gl_nil
  | cons ha hs hr =>
    obtain ⟨da, h1, h⟩ := thn_eq h
    obtain ⟨db, h2, h⟩ := thn_eq h
    cases h
    exact gl_cons (I.x _ _ _ _ (vOf_eq h1) _ _ ha A env H s R' Z V) (fun s' k => I.l _ _ _ _ (lOf_eq h2) _ _ hr A env H s' R' Z (V.keeps k) pos) (hs env _)
theorem sound_a {n : Nat} (I : All C ft gd fnm P n) (ρ : Rho) (o : OwnL) (l : List X) (b : Bool) (h : run P (n + 1) (.a ρ o l) = some (.b b)) (z : Sc) (ts : List Expr) (k : ErA gd fnm z ts l)
    (A : Around) (env : Env) (H : List Addr) (s : Shared) (R : Room A (n + 1)) (Z : EnvX z env) (V : Xm C z env H ρ o s) : Gb C A (allTrue .And ts env) b s := by
  have R' : Room A n := R.less (Nat.le_succ n)
  cases k with
  | nil => cases h; exact ga_nil
  | cons ha hr =>
    obtain ⟨t, h1, h⟩ := thn_eq h
    have g := I.t _ _ _ _ (bOf_eq h1) _ _ ha A env H s R' Z V
    cases t with
    | true => have := ga_cons (b := b) g fun _ s' k => I.a _ _ _ _ h _ _ hr A env H s' R' Z (V.keeps k); simpa using this
    | false => cases h; exact ga_cons (b := false) g fun e => by cases e
theorem sound_o {n : Nat} (I : All C ft gd fnm P n) (ρ : Rho) (o : OwnL) (l : List X) (b : Bool) (h : run P (n + 1) (.o ρ o l) = some (.b b)) (z : Sc) (ts : List Expr) (k : ErA gd fnm z ts l)
    (A : Around) (env : Env) (H : List Addr) (s : Shared) (R : Room A (n + 1)) (Z : EnvX z env) (V : Xm C z env H ρ o s) : Gb C A (allTrue .Or ts env) b s := by
  have R' : Room A n := R.less (Nat.le_succ n)
  cases k with
  | nil => cases h; exact go_nil
  | cons ha hr =>
    obtain ⟨t, h1, h⟩ := thn_eq h
    have g := I.t _ _ _ _ (bOf_eq h1) _ _ ha A env H s R' Z V
    cases t with
    | false => have := go_cons (b := b) g fun _ s' k => I.o _ _ _ _ h _ _ hr A env H s' R' Z (V.keeps k); simpa using this
    | true => cases h; exact go_cons (b := false) g fun e => by cases e
theorem sound_m {n : Nat} (I : All C ft gd fnm P n) (ρ : Rho) (elt : X) (ls ds : List D) (h : run P (n + 1) (.m ρ elt ls) = some (.l ds)) :
    ls.length = ds.length ∧ ∀ (i : Nat) di d, ls[i]? = some di → ds[i]? = some d → ∃ m, m < n + 1 ∧ run P m (.x ((0, di) :: ρ) none elt) = some (.v d) := by
  cases ls with
  | nil => cases h; exact ⟨rfl, fun i di d e => by simp at e⟩
  | cons x r =>
    obtain ⟨da, h1, h⟩ := thn_eq h
    obtain ⟨db, h2, h⟩ := thn_eq h
    cases h
    obtain ⟨h3, h4⟩ := I.m _ _ _ _ (lOf_eq h2)
    refine ⟨by simp [h3], fun i di d e1 e2 => ?_⟩
    cases i with
    | zero => simp at e1 e2; subst e1; subst e2; exact ⟨n, Nat.lt_succ_self _, vOf_eq h1⟩
    | succ i =>
      simp at e1 e2
      obtain ⟨m, hm, hr⟩ := h4 i di d e1 e2
      exact ⟨m, by omega, hr⟩
theorem sound_r {n : Nat} (I : All C ft gd fnm P n) (ρ : Rho) (elt : X) (k j : Nat) (ds : List D) (h : run P (n + 1) (.r ρ elt k j) = some (.l ds)) :
    j = ds.length ∧ ∀ (i : Nat) d, ds[i]? = some d → ∃ m, m < n + 1 ∧ run P m (.x ((0, .int ((k + i : Nat) : Int)) :: ρ) none elt) = some (.v d) := by
  cases j with
  | zero => cases h; exact ⟨rfl, fun i d e => by simp at e⟩
  | succ j =>
    obtain ⟨da, h1, h⟩ := thn_eq h
    obtain ⟨db, h2, h⟩ := thn_eq h
    cases h
    obtain ⟨h3, h4⟩ := I.r _ _ _ _ _ (lOf_eq h2)
    refine ⟨by simp [h3], fun i d e2 => ?_⟩
    cases i with
    | zero => simp at e2; subst e2; exact ⟨n, Nat.lt_succ_self _, vOf_eq h1⟩
    | succ i =>
      simp at e2
      obtain ⟨m, hm, hr⟩ := h4 i d e2
      refine ⟨m, by omega, ?_⟩
      rw [show k + (i + 1) = k + 1 + i by omega]; exact hr
end
end Mine
namespace Mine
open PySem PySem.Spec PySem.Calls PyProof.Rows

section
variable {C : Cx} {ft : Nat → Option Fi} {gd : Str → Option D} {fnm : Nat → Option Str} {P : Pg}

theorem then_cont {n : Nat} {r : List Sm} {out1 out : Out} {st : Stmt} {rest : List Stmt} {A : Around} {z : Sc} {env : Env} {s₀ s : Shared} {H₀ H : List Addr} (I : All C ft gd fnm P n) (h : cont (run P n) r out1 = some (.out out))
    (hr : ErB gd fnm z rest r) (R : Room A n) (Z : EnvF z env) (h1 : Xs C A z env s₀ H₀ H (exec st env) out1 s) : Xs C A z env s₀ H₀ H (execs (st :: rest) env) out s := by
  obtain ⟨ρ1, o1, d1⟩ := out1
  cases d1 with
  | none => exact x_cons h1 fun H' s' F' => I.s _ _ _ _ h _ _ hr A env s₀ H₀ H' s' R Z F'
  | some d => cases h; exact x_cons_ret h1
theorem hx_of {z : Sc} {is : List Nat} {names : List Str} {env : Env} {o : OwnL} (Z : EnvF z env) (hn : is.map (fun i => z.nms[i]?) = names.map some) (hk : ∀ x ∈ names, z.names.lookup x = some .local) (ho : is.all (offO o) = true) :
    ∀ (k : Nat) i x, is[k]? = some i → names[k]? = some x → z.nms[i]? = some x ∧ env.kindOf x = some .local ∧ ∀ ys, o ≠ some (i, ys) := fun k i x h1 h2 => by
  refine ⟨?_, (Z.kd x).trans (hk x (List.mem_of_getElem? h2)), offO_eq (List.all_eq_true.mp ho i (List.mem_of_getElem? h1))⟩
  have e1 : (is.map (fun i => z.nms[i]?))[k]? = some (z.nms[i]?) := by rw [List.getElem?_map, h1]; rfl
  rw [hn, List.getElem?_map, h2] at e1
  exact (Option.some.inj e1).symm
theorem blk_of {z : Sc} {env : Env} (Z : EnvF z env) : env.blockKind = .function := by
  show (if env.scope.kind.isAnnotationScope then ScopeKind.function else env.scope.kind) = _
  rw [Z.fn]; rfl
theorem len_of {z : Sc} {is : List Nat} {names : List Str} (hn : is.map (fun i => z.nms[i]?) = names.map some) : names.length = is.length := by
  have := congrArg List.length hn
  simpa using this.symm
theorem nums_ne {a b : Nat} (h : (!(Nat.beq a b)) = true) : a ≠ b := fun e => by subst e; simp at h

theorem sound_s {n : Nat} (W : Wd C ft gd fnm P) (ih : ∀ m, m < n + 1 → All C ft gd fnm P m) (ρ : Rho) (o : OwnL) (ss : List Sm) (out : Out) (h : run P (n + 1) (.s ρ o ss) = some (.out out)) (z : Sc) (ts : List Stmt)
    (k : ErB gd fnm z ts ss) (A : Around) (env : Env) (s₀ : Shared) (H₀ H : List Addr) (s : Shared) (R : Room A (n + 1)) (Z : EnvF z env) (F : Fm C z env s₀ H₀ H ρ o s) : Xs C A z env s₀ H₀ H (execs ts env) out s := by
  have R' : Room A n := R.less (Nat.le_succ n)
  have I := ih n (Nat.lt_succ_self n)
  have V := F.xm Z
  cases k with
  | nil => cases h; exact x_nil F
  | stuck => cases h
  | rais => cases h
  | frz hr =>
    obtain ⟨p, h1, h⟩ := thn_eq h
    subst h1
    obtain ⟨i, xs⟩ := p
    have F' := F.freeze
    have hs := I.s _ _ _ _ h _ _ hr A env s₀ H₀ H₀ s R' Z F'
    intro E
    refine wpAny_mono (hs E) (fun f s' q => ?_) fun _ _ x => x
    obtain ⟨p, q⟩ := q
    refine ⟨⟨fun b ob h1 h2 h3 e => p.keep b ob h1 h2 (fun hm => h3 (own_sub F b hm)) e, p.live⟩, ?_⟩
    split at q
    · obtain ⟨hf, H', F1, hh⟩ := q
      exact ⟨hf, H', F1, fun b hb => (hh b hb).imp (own_sub F b) id⟩
    · exact q
  | ret he hr =>
    obtain ⟨d, h1, h⟩ := thn_eq h
    cases h
    exact x_cons_ret (x_ret F (I.x _ _ _ _ (vOf_eq h1) _ _ he A env H s R' Z.toX V))
  | asg hi hk he hs hr =>
    obtain ⟨d, h1, h⟩ := thn_eq h
    obtain ⟨h2, h⟩ := when_eq h
    exact x_cons (x_asg Z.toEnvZ F hi ((Z.kd _).trans hk) (offO_eq h2) (I.x _ _ _ _ (vOf_eq h1) _ _ he A env H s R' Z.toX V) (hs env)) fun H' s' F' => I.s _ _ _ _ h _ _ hr A env s₀ H₀ H' s' R' Z F'
  | asgS hn hk he hs hw hr =>
    obtain ⟨d, h1, h⟩ := thn_eq h
    obtain ⟨ds, h2, h⟩ := thn_eq h
    obtain ⟨h3, h⟩ := when_eq h
    obtain ⟨h3, h4⟩ := Bool.and_eq_true_iff.mp h3
    rw [tupOf_eq h2] at h1
    exact x_cons (x_asgT_sw R' Z.toEnvZ F (I.x _ _ _ _ (vOf_eq h1) _ _ he A env H s R' Z.toX V) (len_of hn) (Nat.eq_of_beq_eq_true h3) (hx_of Z hn hk h4) (hs env) (sw_of (blk_of Z) (fun x hx => (Z.kd x).trans (hk x hx)) hw)) fun H' s' F' => I.s _ _ _ _ h _ _ hr A env s₀ H₀ H' s' R' Z F'
  | asgP hn hk he hs hw hr =>
    obtain ⟨d, h1, h⟩ := thn_eq h
    obtain ⟨ds, h2, h⟩ := thn_eq h
    obtain ⟨h3, h⟩ := when_eq h
    obtain ⟨h3, h4⟩ := Bool.and_eq_true_iff.mp h3
    rw [tupOf_eq h2] at h1
    exact x_cons (x_asgT R' Z.toEnvZ F (I.x _ _ _ _ (vOf_eq h1) _ _ he A env H s R' Z.toX V) (by have := len_of hn; simpa using this) (Nat.eq_of_beq_eq_true h3) (hx_of Z hn hk h4) (hs env) (hw env)) fun H' s' F' => I.s _ _ _ _ h _ _ hr A env s₀ H₀ H' s' R' Z F'
  | sub hi hk he hr =>
    obtain ⟨d, h1, h⟩ := thn_eq h
    obtain ⟨a, h2, h⟩ := thn_eq h
    obtain ⟨y, h3, h⟩ := thn_eq h
    obtain ⟨b, h4, h⟩ := thn_eq h
    obtain ⟨h5, h⟩ := when_eq h
    rw [intOf_eq h2] at h1
    rw [intOf_eq h4] at h3
    exact x_cons (x_sub Z.toEnvZ F hi ((Z.kd _).trans hk) (offO_eq h5) h1 fun s' k => I.x _ _ _ _ (vOf_eq h3) _ _ he A env H s' R' Z.toX (V.keeps k)) fun H' s' F' => I.s _ _ _ _ h _ _ hr A env s₀ H₀ H' s' R' Z F'
  | ite hc ha hb hr =>
    obtain ⟨t, h1, h⟩ := thn_eq h
    obtain ⟨out1, h2, h⟩ := thn_eq h
    refine then_cont I h hr R' Z (x_if F (I.t _ _ _ _ (bOf_eq h1) _ _ hc A env H s R' Z.toX V) fun s' F' => ?_)
    cases t with
    | true => exact I.s _ _ _ _ (oOf_eq h2) _ _ ha A env s₀ H₀ H s' R' Z F'
    | false => exact I.s _ _ _ _ (oOf_eq h2) _ _ hb A env s₀ H₀ H s' R' Z F'
  | whl hc hb hr =>
    obtain ⟨out1, h2, h⟩ := thn_eq h
    refine then_cont I h hr R' Z (x_while (fun m ρ' o' => m ≤ n ∧ run P m (.w ρ' o' _ _) = some (.out out1)) ?_ F n ⟨Nat.le_refl _, oOf_eq h2⟩)
    rintro m ρ' o' ⟨hm, hrun⟩
    cases m with
    | zero => cases hrun
    | succ j =>
      have J := ih j (by omega)
      have Rj : Room A j := R'.less (by omega)
      obtain ⟨t, h3, hrun⟩ := thn_eq hrun
      refine ⟨t, fun H' s' F' => J.t _ _ _ _ (bOf_eq h3) _ _ hc A env H' s' Rj Z.toX (F'.xm Z), ?_⟩
      cases t with
      | false => cases hrun; rfl
      | true =>
        obtain ⟨o1, h4, hrun⟩ := thn_eq hrun
        refine ⟨o1, fun H' s' F' => J.s _ _ _ _ (oOf_eq h4) _ _ hb A env s₀ H₀ H' s' Rj Z F', ?_⟩
        obtain ⟨ρ1, ow1, d1⟩ := o1
        cases d1 with
        | none => exact ⟨j, Nat.lt_succ_self _, by omega, hrun⟩
        | some d => cases hrun; rfl
  | forT hi hk hs he hb hr =>
    obtain ⟨d, h1, h⟩ := thn_eq h
    obtain ⟨ls, h2, h⟩ := thn_eq h
    obtain ⟨out1, h3, h⟩ := thn_eq h
    rw [tupOf_eq h2] at h1
    refine then_cont I h hr R' Z (x_forT R' Z.toEnvZ F hi ((Z.kd _).trans hk) (hs env) (I.x _ _ _ _ (vOf_eq h1) _ _ he A env H s R' Z.toX V) (fun j ρ' o' => ∃ m, m ≤ n ∧ run P m (.f ρ' o' _ (ls.drop j) _) = some (.out out1)) ?_ ⟨n, Nat.le_refl _, oOf_eq h3⟩)
    rintro j ρ' o' ⟨m, hm, hrun⟩
    cases m with
    | zero => cases hrun
    | succ m =>
      have J := ih m (by omega)
      have Rj : Room A m := R'.less (by omega)
      cases hd : ls[j]? with
      | none =>
        have : ls.drop j = [] := List.drop_eq_nil_of_le (List.getElem?_eq_none_iff.mp hd)
        rw [this] at hrun
        cases hrun; rfl
      | some dj =>
        have hlt := (List.getElem?_eq_some_iff.mp hd).1
        have e : ls.drop j = dj :: ls.drop (j + 1) := by rw [List.drop_eq_getElem_cons hlt, (List.getElem?_eq_some_iff.mp hd).2]
        rw [e] at hrun
        obtain ⟨h4, hrun⟩ := when_eq hrun
        obtain ⟨o1, h5, hrun⟩ := thn_eq hrun
        refine ⟨offO_eq h4, o1, fun H' s' F' => J.s _ _ _ _ (oOf_eq h5) _ _ hb A env s₀ H₀ H' s' Rj Z F', ?_⟩
        obtain ⟨ρ1, ow1, d1⟩ := o1
        cases d1 with
        | none => exact ⟨m, by omega, hrun⟩
        | some d => cases hrun; rfl
  | forE hi hki hv hkv hre hx hst he hb hr =>
    obtain ⟨d, h1, h⟩ := thn_eq h
    obtain ⟨ls, h2, h⟩ := thn_eq h
    obtain ⟨out1, h3, h⟩ := thn_eq h
    rw [lisOf_eq h2] at h1
    refine then_cont I h hr R' Z (x_forE R' Z.toEnvZ W.B F hi ((Z.kd _).trans hki) hv ((Z.kd _).trans hkv) hre (W.N _ (by subst hre; decide)) (by subst hre; rfl) hx hst (I.x _ _ _ _ (vOf_eq h1) _ _ he A env H s R' Z.toX V)
      (fun j ρ' o' => ∃ m, m ≤ n ∧ run P m (.e ρ' o' _ _ j (ls.drop j) _) = some (.out out1)) ?_ ⟨n, Nat.le_refl _, oOf_eq h3⟩)
    rintro j ρ' o' ⟨m, hm, hrun⟩
    cases m with
    | zero => cases hrun
    | succ m =>
      have J := ih m (by omega)
      have Rj : Room A m := R'.less (by omega)
      cases hd : ls[j]? with
      | none =>
        have : ls.drop j = [] := List.drop_eq_nil_of_le (List.getElem?_eq_none_iff.mp hd)
        rw [this] at hrun
        cases hrun; rfl
      | some dj =>
        have hlt := (List.getElem?_eq_some_iff.mp hd).1
        have e : ls.drop j = dj :: ls.drop (j + 1) := by rw [List.drop_eq_getElem_cons hlt, (List.getElem?_eq_some_iff.mp hd).2]
        rw [e] at hrun
        obtain ⟨h4, hrun⟩ := when_eq hrun
        obtain ⟨h4, h4'⟩ := Bool.and_eq_true_iff.mp h4
        obtain ⟨o1, h5, hrun⟩ := thn_eq hrun
        refine ⟨offO_eq h4, offO_eq h4', o1, fun H' s' F' => J.s _ _ _ _ (oOf_eq h5) _ _ hb A env s₀ H₀ H' s' Rj Z F', ?_⟩
        obtain ⟨ρ1, ow1, d1⟩ := o1
        cases d1 with
        | none => exact ⟨m, by omega, hrun⟩
        | some d => cases hrun; rfl
  | own hi hk hl he hs hr =>
    cases o with
    | some p => cases h
    | none =>
      have hH : H = H₀ := F.own
      subst hH
      obtain ⟨xs, h1, h⟩ := thn_eq h
      obtain ⟨d, h2, h⟩ := thn_eq h
      obtain ⟨m, h3, h⟩ := thn_eq h
      obtain ⟨h4, h⟩ := when_eq h
      obtain ⟨h4, h6⟩ := Bool.and_eq_true_iff.mp h4
      obtain ⟨h4, h5⟩ := Bool.and_eq_true_iff.mp h4
      rw [natOf_eq h3] at h2
      have gf := fun (p pos : Pos) => gf_rep (p := p) (pos := pos) F.st (fun s' k => gv_list (F.st.keeps k) (Nat.le_of_ble_eq_true h6) (I.l _ _ _ _ (lOf_eq h1) _ _ hl A env H s' R' Z.toX (V.keeps k) _)) (fun s' k => I.x _ _ _ _ (vOf_eq h2) _ _ he A env H s' R' Z.toX (V.keeps k))
        (Int.natCast_nonneg m) (by simpa using Nat.le_of_ble_eq_true h4) (by have := Nat.le_of_ble_eq_true h5; omega)
      exact x_cons (x_own Z.toEnvZ F hi ((Z.kd _).trans hk) (gf _ _) (hs env)) fun H' s' F' => I.s _ _ _ _ h _ _ hr A env s₀ H H' s' R' Z F'
  | own2 hi hk hj hkj h0 hl he st hs hw hr =>
    cases o with
    | some p => cases h
    | none =>
      have hH : H = H₀ := F.own
      subst hH
      obtain ⟨hij, h⟩ := when_eq h
      obtain ⟨y, hy, h⟩ := thn_eq h
      obtain ⟨xs, h1, h⟩ := thn_eq h
      obtain ⟨d, h2, h⟩ := thn_eq h
      obtain ⟨m, h3, h⟩ := thn_eq h
      obtain ⟨h4, h⟩ := when_eq h
      obtain ⟨h4, h6⟩ := Bool.and_eq_true_iff.mp h4
      obtain ⟨h4, h5⟩ := Bool.and_eq_true_iff.mp h4
      rw [natOf_eq h3] at h2
      have gf := fun (p pos : Pos) s1 (k1 : Keeps s s1) => gf_rep (p := p) (pos := pos) (F.st.keeps k1) (fun s' k => gv_list (F.st.keeps (Ks.trans k1 k)) (Nat.le_of_ble_eq_true h6) (I.l _ _ _ _ (lOf_eq h1) _ _ hl A env H s' R' Z.toX (V.keeps (Ks.trans k1 k)) _))
        (fun s' k => I.x _ _ _ _ (vOf_eq h2) _ _ he A env H s' R' Z.toX (V.keeps (Ks.trans k1 k))) (Int.natCast_nonneg m) (by simpa using Nat.le_of_ble_eq_true h4) (by have := Nat.le_of_ble_eq_true h5; omega)
      exact x_cons (x_own2 R' Z.toEnvZ F hi ((Z.kd _).trans hk) hj ((Z.kd _).trans hkj) (nums_ne hij) (I.x _ _ _ _ (vOf_eq hy) _ _ h0 A env H s R' Z.toX V) (gf _ _) st (fun _ _ => rfl) (hs env) (sw_of (blk_of Z) (fun x hx => by
          rcases List.mem_cons.mp hx with rfl | hx
          · exact (Z.kd _).trans hk
          · rw [List.mem_singleton.mp hx]; exact (Z.kd _).trans hkj) hw)) fun H' s' F' => I.s _ _ _ _ h _ _ hr A env s₀ H H' s' R' Z F'
  | sto hi hd hei he hs hr =>
    obtain ⟨p, h1, h⟩ := thn_eq h
    subst h1
    obtain ⟨ip, xs⟩ := p
    obtain ⟨h2, h⟩ := when_eq h
    have hpi : ip = _ := Nat.eq_of_beq_eq_true h2
    subst hpi
    obtain ⟨d, h3, h⟩ := thn_eq h
    obtain ⟨y, h4, h⟩ := thn_eq h
    obtain ⟨kk, h5, h⟩ := thn_eq h
    obtain ⟨h6, h⟩ := when_eq h
    obtain ⟨h6a, h7⟩ := Bool.and_eq_true_iff.mp h6
    rw [natOf_eq h5] at h4
    have hlt : kk < xs.length := Nat.le_of_ble_eq_true h7
    exact x_cons (x_sto Z.toEnvZ F hi hd (I.x _ _ _ _ (vOf_eq h3) _ _ he A env H s R' Z.toX V) (fun s' k => I.x _ _ _ _ (vOf_eq h4) _ _ hei A env H s' R' Z.toX (V.keeps k)) (Nat.le_of_ble_eq_true h6a) hlt (hs env)) fun H' s' F' => I.s _ _ _ _ h _ _ hr A env s₀ H₀ H' s' R' Z F'

theorem sound_c {n : Nat} (W : Wd C ft gd fnm P) (I : All C ft gd fnm P n) (f : Nat) (ds : List D) (d : D) (h : run P (n + 1) (.c f ds) = some (.v d)) : CallOk C ft (n + 1) f ds d := by
  have h' : (match P.mem f ds with
    | some (m, d) => when (Nat.ble m (n + 1)) (some (Rs.v d))
    | none => thn (P.df f) fun p => when (Nat.beq ds.length p.1) (thn (oOf (run P n (.s (rho0 0 ds) none p.2))) fun out => thn out.2.2 fun d => some (.v d))) = some (.v d) := h
  clear h
  cases hm : P.mem f ds with
  | some p =>
    obtain ⟨m, d'⟩ := p
    rw [hm] at h'
    obtain ⟨h1, h⟩ := when_eq h'
    cases h
    intro i hi A H s vs R S r
    exact W.mem _ _ _ _ hm i hi A H s vs (R.less (Nat.le_of_ble_eq_true h1)) S r
  | none =>
    rw [hm] at h'
    obtain ⟨p, h1, h⟩ := thn_eq h'
    obtain ⟨h2, h⟩ := when_eq h
    obtain ⟨out, h3, h⟩ := thn_eq h
    obtain ⟨dd, h4, h⟩ := thn_eq h
    cases h
    obtain ⟨i, z, hi, K, hb⟩ := W.df f p.1 p.2 h1
    obtain ⟨ρ', o', d'⟩ := out
    have h4' : d' = some d := h4
    subst h4'
    exact call_ok W.B hi K (Nat.eq_of_beq_eq_true h2) fun A env H s₀ s R Z hk F => I.s _ _ _ _ (oOf_eq h3) _ _ hb A env s₀ H H s R { toEnvZ := Z, kd := hk } F

theorem sound (W : Wd C ft gd fnm P) : ∀ n, All C ft gd fnm P n := fun n => by
  induction n using Nat.strongRecOn with
  | ind n ih =>
    cases n with
    | zero => exact ⟨fun _ _ _ _ h => (by cases h), fun _ _ _ _ h => (by cases h), fun _ _ _ _ h => (by cases h), fun _ _ _ _ h => (by cases h), fun _ _ _ _ h => (by cases h), fun _ _ _ _ h => (by cases h), fun _ _ _ _ _ h => (by cases h), fun _ _ _ _ h => (by cases h), fun _ _ _ h => (by cases h)⟩
    | succ n =>
      have I := ih n (Nat.lt_succ_self n)
      exact ⟨fun ρ o e d h z t k A env H s R Z V => sound_x W ih ρ o e d h z t k A env H s R Z V, fun ρ o e b h z t k A env H s R Z V => sound_t W I ρ o e b h z t k A env H s R Z V,
        fun ρ o l ds h z ts k A env H s R Z V pos => sound_l I ρ o l ds h z ts k A env H s R Z V pos, fun ρ o l b h z ts k A env H s R Z V => sound_a I ρ o l b h z ts k A env H s R Z V,
        fun ρ o l b h z ts k A env H s R Z V => sound_o I ρ o l b h z ts k A env H s R Z V, fun ρ elt ls ds h => sound_m I ρ elt ls ds h, fun ρ elt k j ds h => sound_r I ρ elt k j ds h,
        fun ρ o ss out h z ts k A env s₀ H₀ H s R Z F => sound_s W ih ρ o ss out h z ts k A env s₀ H₀ H s R Z F, fun f ds d h => sound_c W I f ds d h⟩
end
end Mine
namespace Mine
open PySem PySem.Spec PySem.Calls PyProof.Rows

noncomputable def ir_gcd : List Sm := [.asgS [0, 1] (.tup [.bi .abs [.var 0], .bi .abs [.var 1]]), .whl (.cmp .ne (.var 1) (.cst (.int 0))) [.asgS [0, 1] (.tup [.var 1, .bin .fmod (.var 0) (.var 1)])], .ret (.var 0)]
noncomputable def sc_gcd : Sc := ⟨["a", "b"], [("a", .local), ("b", .local), ("abs", .globalImplicit)]⟩
noncomputable def ir_bits_of : List Sm := [.asg 1 (.cst (.int 0)), .forT 2 (.tup [.cst (.int 4096), .cst (.int 64), .cst (.int 1)]) [.asg 3 (.bin .pow (.cst (.int 2)) (.var 2)), .whl (.cmp .ge (.var 0) (.var 3)) [.asgS [0, 1] (.tup [.bin .fdiv (.var 0) (.var 3), .bin .add (.var 1) (.var 2)])]], .ret (.bin .add (.var 1) (.var 0))]
noncomputable def sc_bits_of : Sc := ⟨["n", "found", "many", "step"], [("n", .local), ("found", .local), ("many", .local), ("step", .local)]⟩
noncomputable def ir_rat : List Sm := [.ite (.cmp .eq (.var 1) (.cst (.int 0))) [.rais "division by zero" "a ratio with the bottom 0"] [], .asg 2 (.ite (.cmp .gt (.var 1) (.cst (.int 0))) (.call 0 [.var 0, .var 1]) (.bin .sub (.cst (.int 0)) (.call 0 [.var 0, .var 1]))), .ret (.tup [.bin .fdiv (.var 0) (.var 2), .bin .fdiv (.var 1) (.var 2)])]
noncomputable def sc_rat : Sc := ⟨["top", "bottom", "g"], [("top", .local), ("bottom", .local), ("g", .local), ("CasFail", .globalImplicit), ("gcd", .globalImplicit)]⟩
noncomputable def ir_radd : List Sm := [.ret (.call 2 [.bin .add (.bin .mul (.idx (.var 0) (.cst (.int 0))) (.idx (.var 1) (.cst (.int 1)))) (.bin .mul (.idx (.var 1) (.cst (.int 0))) (.idx (.var 0) (.cst (.int 1)))), .bin .mul (.idx (.var 0) (.cst (.int 1))) (.idx (.var 1) (.cst (.int 1)))])]
noncomputable def sc_radd : Sc := ⟨["a", "b"], [("a", .local), ("b", .local), ("rat", .globalImplicit)]⟩
noncomputable def ir_rmul : List Sm := [.ret (.call 2 [.bin .mul (.idx (.var 0) (.cst (.int 0))) (.idx (.var 1) (.cst (.int 0))), .bin .mul (.idx (.var 0) (.cst (.int 1))) (.idx (.var 1) (.cst (.int 1)))])]
noncomputable def sc_rmul : Sc := ⟨["a", "b"], [("a", .local), ("b", .local), ("rat", .globalImplicit)]⟩
noncomputable def ir_rdiv : List Sm := [.ret (.call 2 [.bin .mul (.idx (.var 0) (.cst (.int 0))) (.idx (.var 1) (.cst (.int 1))), .bin .mul (.idx (.var 0) (.cst (.int 1))) (.idx (.var 1) (.cst (.int 0)))])]
noncomputable def sc_rdiv : Sc := ⟨["a", "b"], [("a", .local), ("b", .local), ("rat", .globalImplicit)]⟩
noncomputable def ir_rneg : List Sm := [.ret (.tup [.bin .sub (.cst (.int 0)) (.idx (.var 0) (.cst (.int 0))), .idx (.var 0) (.cst (.int 1))])]
noncomputable def sc_rneg : Sc := ⟨["a"], [("a", .local)]⟩
noncomputable def ir_rinv : List Sm := [.ret (.call 2 [.idx (.var 0) (.cst (.int 1)), .idx (.var 0) (.cst (.int 0))])]
noncomputable def sc_rinv : Sc := ⟨["a"], [("a", .local), ("rat", .globalImplicit)]⟩
noncomputable def ir_rpower : List Sm := [.ite (.cmp .lt (.var 1) (.cst (.int 0))) [.asgS [0, 1] (.tup [.call 7 [.var 0], .bin .sub (.cst (.int 0)) (.var 1)])] [], .asg 2 (.bi .max2 [.bi .abs [.idx (.var 0) (.cst (.int 0))], .idx (.var 0) (.cst (.int 1))]), .ite (.and [.cmp .gt (.var 1) (.cst (.int 1)), .cmp .gt (.var 2) (.cst (.int 1)), .cmp .gt (.bin .mul (.var 1) (.call 1 [.var 2])) (.cst (.int 200000))]) [.rais "limit" "a number of too many figures"] [], .ret (.tup [.bin .pow (.idx (.var 0) (.cst (.int 0))) (.var 1), .bin .pow (.idx (.var 0) (.cst (.int 1))) (.var 1)])]
noncomputable def sc_rpower : Sc := ⟨["a", "n", "greatest"], [("a", .local), ("n", .local), ("greatest", .local), ("rinv", .globalImplicit), ("max", .globalImplicit), ("abs", .globalImplicit), ("bits_of", .globalImplicit), ("MOST_BITS", .globalImplicit), ("CasFail", .globalImplicit)]⟩
noncomputable def ir_qtrim : List Sm := [.asg 1 (.bi .len [.var 0]), .whl (.and [.cmp .gt (.var 1) (.cst (.int 0)), .cmp .eq (.idx (.idx (.var 0) (.bin .sub (.var 1) (.cst (.int 1)))) (.cst (.int 0))) (.cst (.int 0))]) [.sub 1 (.cst (.int 1))], .ret (.bi .lst [.upto (.var 0) (.var 1)])]
noncomputable def sc_qtrim : Sc := ⟨["row", "size"], [("row", .local), ("size", .local), ("len", .globalImplicit), ("list", .globalImplicit)]⟩
noncomputable def ir_qdegree : List Sm := [.ret (.bin .sub (.bi .len [.var 0]) (.cst (.int 1)))]
noncomputable def sc_qdegree : Sc := ⟨["p"], [("p", .local), ("len", .globalImplicit)]⟩
noncomputable def ir_qlead : List Sm := [.ret (.ite (.cmp .gt (.bi .len [.var 0]) (.cst (.int 0))) (.idx (.var 0) (.neg (.cst (.int 1)))) (.cst (.tuple [.int 0, .int 1])))]
noncomputable def sc_qlead : Sc := ⟨["p"], [("p", .local), ("len", .globalImplicit), ("R0", .globalImplicit)]⟩
noncomputable def ir_qadd : List Sm := [.asg 2 (.bi .max2 [.bi .len [.var 0], .bi .len [.var 1]]), .ret (.call 9 [.compR (.call 3 [.ite (.cmp .lt (.var 0) (.bi .len [.var 1])) (.idx (.var 1) (.var 0)) (.cst (.tuple [.int 0, .int 1])), .ite (.cmp .lt (.var 0) (.bi .len [.var 2])) (.idx (.var 2) (.var 0)) (.cst (.tuple [.int 0, .int 1]))]) (.var 2) [0, 1]])]
noncomputable def sc_qadd : Sc := ⟨["a", "b", "size"], [("a", .cell), ("b", .cell), ("size", .local), ("max", .globalImplicit), ("len", .globalImplicit), ("qtrim", .globalImplicit), ("range", .globalImplicit)]⟩
noncomputable def sc_qaddc : Sc := ⟨["at", "a", "b"], [(".0", .local), ("at", .local), ("radd", .globalImplicit), ("len", .globalImplicit), ("R0", .globalImplicit), ("a", .free), ("b", .free)]⟩
noncomputable def ir_qneg : List Sm := [.ret (.comp (.call 6 [.var 0]) (.var 0) [])]
noncomputable def sc_qneg : Sc := ⟨["p"], [("p", .local)]⟩
noncomputable def sc_qnegc : Sc := ⟨["number"], [(".0", .local), ("number", .local), ("rneg", .globalImplicit)]⟩
noncomputable def ir_qsub : List Sm := [.ret (.call 12 [.var 0, .call 13 [.var 1]])]
noncomputable def sc_qsub : Sc := ⟨["a", "b"], [("a", .local), ("b", .local), ("qadd", .globalImplicit), ("qneg", .globalImplicit)]⟩
noncomputable def ir_qscale : List Sm := [.ret (.ite (.cmp .ne (.idx (.var 1) (.cst (.int 0))) (.cst (.int 0))) (.comp (.call 4 [.var 0, .var 1]) (.var 0) [1]) (.lst []))]
noncomputable def sc_qscale : Sc := ⟨["p", "r"], [("p", .local), ("r", .cell)]⟩
noncomputable def sc_qscalec : Sc := ⟨["number", "r"], [(".0", .local), ("number", .local), ("rmul", .globalImplicit), ("r", .free)]⟩
noncomputable def ir_qraise : List Sm := [.ret (.ite (.cmp .gt (.bi .len [.var 0]) (.cst (.int 0))) (.bin .add (.bin .mul (.lst [.cst (.tuple [.int 0, .int 1])]) (.var 1)) (.bi .lst [.var 0])) (.lst []))]
noncomputable def sc_qraise : Sc := ⟨["p", "many"], [("p", .local), ("many", .local), ("len", .globalImplicit), ("R0", .globalImplicit), ("list", .globalImplicit)]⟩
noncomputable def ir_qmul : List Sm := [.ite (.or [.cmp .eq (.bi .len [.var 0]) (.cst (.int 0)), .cmp .eq (.bi .len [.var 1]) (.cst (.int 0))]) [.ret (.lst [])] [], .own 2 [.cst (.tuple [.int 0, .int 1])] (.bin .sub (.bin .add (.bi .len [.var 0]) (.bi .len [.var 1])) (.cst (.int 1))), .forE 3 4 (.var 0) [.forE 5 6 (.var 1) [.sto 2 (.bin .add (.var 3) (.var 5)) (.call 3 [.oget 2 (.bin .add (.var 3) (.var 5)), .call 4 [.var 4, .var 6]])]], .frz, .ret (.var 2)]
noncomputable def sc_qmul : Sc := ⟨["a", "b", "found", "one", "left", "other", "right"], [("a", .local), ("b", .local), ("found", .local), ("one", .local), ("left", .local), ("other", .local), ("right", .local), ("len", .globalImplicit), ("R0", .globalImplicit), ("enumerate", .globalImplicit), ("radd", .globalImplicit), ("rmul", .globalImplicit)]⟩
noncomputable def ir_qdivmod : List Sm := [.ite (.cmp .eq (.bi .len [.var 1]) (.cst (.int 0))) [.rais "division by zero" "a polynomial is divided by 0"] [], .own2 2 3 (.bi .lst [.var 0]) [.cst (.tuple [.int 0, .int 1])] (.bi .max2 [.cst (.int 0), .bin .add (.bin .sub (.bi .len [.var 0]) (.bi .len [.var 1])) (.cst (.int 1))]), .whl (.cmp .ge (.bi .len [.var 2]) (.bi .len [.var 1])) [.asgS [4, 5] (.tup [.call 5 [.idx (.var 2) (.neg (.cst (.int 1))), .idx (.var 1) (.neg (.cst (.int 1)))], .bin .sub (.bi .len [.var 2]) (.bi .len [.var 1])]), .sto 3 (.var 5) (.var 4), .asg 6 (.call 14 [.upto (.var 2) (.neg (.cst (.int 1))), .call 16 [.call 15 [.upto (.var 1) (.neg (.cst (.int 1))), .var 4], .var 5]]), .asg 2 (.var 6)], .frz, .ret (.tup [.call 9 [.var 3], .var 2])]
noncomputable def sc_qdivmod : Sc := ⟨["a", "b", "rest", "found", "number", "power", "lower"], [("a", .local), ("b", .local), ("rest", .local), ("found", .local), ("number", .local), ("power", .local), ("lower", .local), ("len", .globalImplicit), ("CasFail", .globalImplicit), ("list", .globalImplicit), ("R0", .globalImplicit), ("max", .globalImplicit), ("rdiv", .globalImplicit), ("qsub", .globalImplicit), ("qraise", .globalImplicit), ("qscale", .globalImplicit), ("qtrim", .globalImplicit)]⟩
noncomputable def ir_qmonic : List Sm := [.ret (.ite (.cmp .gt (.bi .len [.var 0]) (.cst (.int 0))) (.call 15 [.var 0, .call 7 [.idx (.var 0) (.neg (.cst (.int 1)))]]) (.lst []))]
noncomputable def sc_qmonic : Sc := ⟨["p"], [("p", .local), ("len", .globalImplicit), ("qscale", .globalImplicit), ("rinv", .globalImplicit)]⟩
noncomputable def ir_qgcd : List Sm := [.whl (.cmp .gt (.bi .len [.var 1]) (.cst (.int 0))) [.asgS [0, 1] (.tup [.var 1, .call 19 [.idx (.call 18 [.var 0, .var 1]) (.cst (.int 1))]])], .ret (.call 19 [.var 0])]
noncomputable def sc_qgcd : Sc := ⟨["a", "b"], [("a", .local), ("b", .local), ("len", .globalImplicit), ("qmonic", .globalImplicit), ("qdivmod", .globalImplicit)]⟩
noncomputable def ir_fmake : List Sm := [.ite (.cmp .eq (.var 1) (.lst [])) [.rais "division by zero" "a rational term without a bottom"] [], .ite (.cmp .eq (.var 0) (.lst [])) [.ret (.cst (.tuple [.list [], .list [.tuple [.int 1, .int 1]]]))] [], .asg 2 (.call 20 [.var 0, .var 1]), .ite (.cmp .gt (.call 10 [.var 2]) (.cst (.int 0))) [.asgS [0, 1] (.tup [.idx (.call 18 [.var 0, .var 2]) (.cst (.int 0)), .idx (.call 18 [.var 1, .var 2]) (.cst (.int 0))])] [], .asg 3 (.call 7 [.call 11 [.var 1]]), .ret (.tup [.call 15 [.var 0, .var 3], .call 15 [.var 1, .var 3]])]
noncomputable def sc_fmake : Sc := ⟨["top", "bottom", "common", "scale"], [("top", .local), ("bottom", .local), ("common", .local), ("scale", .local), ("CasFail", .globalImplicit), ("F0", .globalImplicit), ("qgcd", .globalImplicit), ("qdegree", .globalImplicit), ("qdivmod", .globalImplicit), ("rinv", .globalImplicit), ("qlead", .globalImplicit), ("qscale", .globalImplicit)]⟩
noncomputable def ir_fnumber : List Sm := [.ret (.tup [.ite (.cmp .eq (.var 0) (.cst (.tuple [.int 0, .int 1]))) (.lst []) (.lst [.var 0]), .lst [.cst (.tuple [.int 1, .int 1])]])]
noncomputable def sc_fnumber : Sc := ⟨["r"], [("r", .local), ("R0", .globalImplicit), ("R1", .globalImplicit)]⟩
noncomputable def ir_fadd : List Sm := [.ret (.call 21 [.call 12 [.call 17 [.idx (.var 0) (.cst (.int 0)), .idx (.var 1) (.cst (.int 1))], .call 17 [.idx (.var 1) (.cst (.int 0)), .idx (.var 0) (.cst (.int 1))]], .call 17 [.idx (.var 0) (.cst (.int 1)), .idx (.var 1) (.cst (.int 1))]])]
noncomputable def sc_fadd : Sc := ⟨["f", "g"], [("f", .local), ("g", .local), ("fmake", .globalImplicit), ("qadd", .globalImplicit), ("qmul", .globalImplicit)]⟩
noncomputable def ir_fmul : List Sm := [.ret (.call 21 [.call 17 [.idx (.var 0) (.cst (.int 0)), .idx (.var 1) (.cst (.int 0))], .call 17 [.idx (.var 0) (.cst (.int 1)), .idx (.var 1) (.cst (.int 1))]])]
noncomputable def sc_fmul : Sc := ⟨["f", "g"], [("f", .local), ("g", .local), ("fmake", .globalImplicit), ("qmul", .globalImplicit)]⟩
noncomputable def ir_finv : List Sm := [.ret (.call 21 [.idx (.var 0) (.cst (.int 1)), .idx (.var 0) (.cst (.int 0))])]
noncomputable def sc_finv : Sc := ⟨["f"], [("f", .local), ("fmake", .globalImplicit)]⟩
noncomputable def ir_fpower : List Sm := [.asgS [2, 3, 4] (.tup [.cst (.tuple [.list [.tuple [.int 1, .int 1]], .list [.tuple [.int 1, .int 1]]]), .ite (.cmp .lt (.var 1) (.cst (.int 0))) (.call 25 [.var 0]) (.var 0), .bi .abs [.var 1]]), .whl (.cmp .gt (.var 4) (.cst (.int 0))) [.ite (.cmp .eq (.bin .fmod (.var 4) (.cst (.int 2))) (.cst (.int 1))) [.asg 2 (.call 24 [.var 2, .var 3])] [], .asgS [3, 4] (.tup [.ite (.cmp .gt (.var 4) (.cst (.int 1))) (.call 24 [.var 3, .var 3]) (.var 3), .bin .fdiv (.var 4) (.cst (.int 2))])], .ret (.var 2)]
noncomputable def sc_fpower : Sc := ⟨["f", "n", "found", "base", "left"], [("f", .local), ("n", .local), ("found", .local), ("base", .local), ("left", .local), ("F1", .globalImplicit), ("finv", .globalImplicit), ("abs", .globalImplicit), ("fmul", .globalImplicit)]⟩
noncomputable def ir_whole_exponent : List Sm := [.ret (.ite (.and [.cmp .eq (.idx (.var 0) (.cst (.int 0))) (.cst (.str "num")), .cmp .eq (.idx (.var 0) (.cst (.int 2))) (.cst (.int 1))]) (.idx (.var 0) (.cst (.int 1))) (.cst .none))]
noncomputable def sc_whole_exponent : Sc := ⟨["t"], [("t", .local)]⟩
noncomputable def ir_far_power : List Sm := [.asg 2 (.and2 (.cmp .eq (.bi .max2 [.call 10 [.idx (.var 0) (.cst (.int 0))], .call 10 [.idx (.var 0) (.cst (.int 1))]]) (.cst (.int 0))) (.cmp .ne (.idx (.var 0) (.cst (.int 0))) (.lst []))), .ite (.val (.var 2)) [.ret (.call 22 [.call 8 [.call 5 [.idx (.idx (.var 0) (.cst (.int 0))) (.cst (.int 0)), .idx (.idx (.var 0) (.cst (.int 1))) (.cst (.int 0))], .var 1]])] [], .ite (.cmp .eq (.idx (.var 0) (.cst (.int 0))) (.lst [])) [.ret (.call 26 [.var 0, .var 1])] [], .asg 3 (.call 1 [.bi .maxl [.comp (.bi .max2 [.bi .abs [.idx (.var 0) (.cst (.int 0))], .idx (.var 0) (.cst (.int 1))]) (.bin .add (.idx (.var 0) (.cst (.int 0))) (.idx (.var 0) (.cst (.int 1)))) []]]), .asg 4 (.bin .mul (.bi .abs [.var 1]) (.bi .max2 [.call 10 [.idx (.var 0) (.cst (.int 0))], .call 10 [.idx (.var 0) (.cst (.int 1))]])), .ite (.and [.cmp .gt (.bi .abs [.var 1]) (.cst (.int 1)), .or [.cmp .gt (.var 4) (.cst (.int 2000)), .cmp .gt (.bin .mul (.bi .abs [.var 1]) (.var 3)) (.cst (.int 200000))]]) [.rais "limit" "a power too far to be written out"] [], .ret (.call 26 [.var 0, .var 1])]
noncomputable def sc_far_power : Sc := ⟨["f", "n", "is_number", "bits", "far"], [("f", .local), ("n", .local), ("is_number", .local), ("bits", .local), ("far", .local), ("max", .globalImplicit), ("qdegree", .globalImplicit), ("fnumber", .globalImplicit), ("rpower", .globalImplicit), ("rdiv", .globalImplicit), ("fpower", .globalImplicit), ("bits_of", .globalImplicit), ("abs", .globalImplicit), ("MOST_POWER", .globalImplicit), ("MOST_BITS", .globalImplicit), ("CasFail", .globalImplicit)]⟩
noncomputable def sc_far_powerc : Sc := ⟨["r"], [(".0", .local), ("r", .local), ("max", .globalImplicit), ("abs", .globalImplicit)]⟩
noncomputable def ir_is_rational : List Sm := [.ite (.cmp .eq (.idx (.var 0) (.cst (.int 0))) (.cst (.str "num"))) [.ret (.cst (.bool true))] [], .ite (.cmp .eq (.idx (.var 0) (.cst (.int 0))) (.cst (.str "sym"))) [.ret (.cmp .eq (.idx (.var 0) (.cst (.int 1))) (.var 1))] [], .ite (.cmp .eq (.idx (.var 0) (.cst (.int 0))) (.cst (.str "pow"))) [.ret (.and2 (.notN (.call 27 [.idx (.var 0) (.cst (.int 2))])) (.call 29 [.idx (.var 0) (.cst (.int 1)), .var 1]))] [], .ret (.and2 (.cmp .inn (.idx (.var 0) (.cst (.int 0))) (.tup [.cst (.str "sum"), .cst (.str "prod")])) (.bi .all [.comp (.call 29 [.var 0, .var 1]) (.idx (.var 0) (.cst (.int 1))) [1]]))]
noncomputable def sc_is_rational : Sc := ⟨["t", "name"], [("t", .local), ("name", .cell), ("whole_exponent", .globalImplicit), ("is_rational", .globalImplicit), ("all", .globalImplicit)]⟩
noncomputable def sc_is_rationalc : Sc := ⟨["part", "name"], [(".0", .local), ("part", .local), ("is_rational", .globalImplicit), ("name", .free)]⟩
noncomputable def ir_from_term : List Sm := [.ret (.ite (.val (.call 29 [.var 0, .var 1])) (.call 31 [.var 0, .var 1]) (.cst .none))]
noncomputable def sc_from_term : Sc := ⟨["t", "name"], [("t", .local), ("name", .local), ("is_rational", .globalImplicit), ("from_rational", .globalImplicit)]⟩
noncomputable def ir_from_rational : List Sm := [.ite (.cmp .eq (.idx (.var 0) (.cst (.int 0))) (.cst (.str "num"))) [.ret (.call 22 [.call 2 [.idx (.var 0) (.cst (.int 1)), .idx (.var 0) (.cst (.int 2))]])] [], .ite (.cmp .eq (.idx (.var 0) (.cst (.int 0))) (.cst (.str "sym"))) [.ret (.tup [.lst [.cst (.tuple [.int 0, .int 1]), .cst (.tuple [.int 1, .int 1])], .lst [.cst (.tuple [.int 1, .int 1])]])] [], .ite (.cmp .eq (.idx (.var 0) (.cst (.int 0))) (.cst (.str "pow"))) [.asgS [2, 3] (.tup [.call 31 [.idx (.var 0) (.cst (.int 1)), .var 1], .call 27 [.idx (.var 0) (.cst (.int 2))]]), .ret (.ite (.or [.isN (.var 2), .and [.cmp .lt (.var 3) (.cst (.int 0)), .cmp .eq (.idx (.var 2) (.cst (.int 0))) (.lst [])]]) (.cst .none) (.call 28 [.var 2, .var 3]))] [], .asg 4 (.ite (.cmp .eq (.idx (.var 0) (.cst (.int 0))) (.cst (.str "sum"))) (.cst (.tuple [.list [], .list [.tuple [.int 1, .int 1]]])) (.cst (.tuple [.list [.tuple [.int 1, .int 1]], .list [.tuple [.int 1, .int 1]]]))), .forT 5 (.idx (.var 0) (.cst (.int 1))) [.asg 6 (.call 31 [.var 5, .var 1]), .ite (.isN (.var 6)) [.ret (.cst .none)] [], .asg 4 (.ite (.cmp .eq (.idx (.var 0) (.cst (.int 0))) (.cst (.str "sum"))) (.call 23 [.var 4, .var 6]) (.call 24 [.var 4, .var 6]))], .ret (.var 4)]
noncomputable def sc_from_rational : Sc := ⟨["t", "name", "base", "n", "found", "part", "one"], [("t", .local), ("name", .local), ("base", .local), ("n", .local), ("found", .local), ("part", .local), ("one", .local), ("fnumber", .globalImplicit), ("rat", .globalImplicit), ("R0", .globalImplicit), ("R1", .globalImplicit), ("from_rational", .globalImplicit), ("whole_exponent", .globalImplicit), ("far_power", .globalImplicit), ("F0", .globalImplicit), ("F1", .globalImplicit), ("fadd", .globalImplicit), ("fmul", .globalImplicit)]⟩
noncomputable def dfT : Nat → Option (Nat × List Sm)
  | 0 => some (2, ir_gcd)
  | 1 => some (1, ir_bits_of)
  | 2 => some (2, ir_rat)
  | 3 => some (2, ir_radd)
  | 4 => some (2, ir_rmul)
  | 5 => some (2, ir_rdiv)
  | 6 => some (1, ir_rneg)
  | 7 => some (1, ir_rinv)
  | 8 => some (2, ir_rpower)
  | 9 => some (1, ir_qtrim)
  | 10 => some (1, ir_qdegree)
  | 11 => some (1, ir_qlead)
  | 12 => some (2, ir_qadd)
  | 13 => some (1, ir_qneg)
  | 14 => some (2, ir_qsub)
  | 15 => some (2, ir_qscale)
  | 16 => some (2, ir_qraise)
  | 17 => some (2, ir_qmul)
  | 18 => some (2, ir_qdivmod)
  | 19 => some (1, ir_qmonic)
  | 20 => some (2, ir_qgcd)
  | 21 => some (2, ir_fmake)
  | 22 => some (1, ir_fnumber)
  | 23 => some (2, ir_fadd)
  | 24 => some (2, ir_fmul)
  | 25 => some (1, ir_finv)
  | 26 => some (2, ir_fpower)
  | 27 => some (1, ir_whole_exponent)
  | 28 => some (2, ir_far_power)
  | 29 => some (2, ir_is_rational)
  | 30 => some (2, ir_from_term)
  | 31 => some (2, ir_from_rational)
  | _ => none

mutual
noncomputable def deqB : D → D → Bool
  | .none, .none => true
  | .bool a, .bool b => match a, b with | true, true => true | false, false => true | _, _ => false
  | .int a, .int b => match a, b with | .ofNat x, .ofNat y => Nat.beq x y | .negSucc x, .negSucc y => Nat.beq x y | _, _ => false
  | .str a, .str b => a == b
  | .list a, .list b => deqL a b
  | .tuple a, .tuple b => deqL a b
  | _, _ => false
noncomputable def deqL : List D → List D → Bool
  | [], [] => true
  | a :: r, b :: q => match deqB a b with | true => deqL r q | false => false
  | _, _ => false
end
mutual
theorem deqB_eq : ∀ {a b : D}, deqB a b = true → a = b
  | .none, b, h => by cases b <;> first | rfl | (simp [deqB] at h)
  | .bool a, b, h => by
    cases b <;> simp [deqB] at h
    rename_i b
    cases a <;> cases b <;> simp at h ⊢
  | .int a, b, h => by
    cases b <;> simp [deqB] at h
    rename_i b
    cases a <;> cases b <;> simp at h ⊢ <;> omega
  | .str a, b, h => by
    cases b <;> simp [deqB] at h
    rw [h]
  | .list a, b, h => by
    cases b <;> simp [deqB] at h
    rw [deqL_eq h]
  | .tuple a, b, h => by
    cases b <;> simp [deqB] at h
    rw [deqL_eq h]
  | .dict a, b, h => by cases b <;> simp [deqB] at h
theorem deqL_eq : ∀ {a b : List D}, deqL a b = true → a = b
  | [], b, h => by cases b <;> simp [deqL] at h ⊢
  | a :: r, [], h => by simp [deqL] at h
  | a :: r, b :: q, h => by
    unfold deqL at h
    split at h
    · rename_i h1
      rw [deqB_eq h1, deqL_eq h]
    · cases h
end
noncomputable def isV (r : Option Rs) (d : D) : Bool := match r with | some (.v e) => deqB e d | _ => false
theorem isV_eq {r : Option Rs} {d : D} (h : isV r d = true) : r = some (.v d) := by
  unfold isV at h
  split at h
  · rw [deqB_eq h]
  · cases h
noncomputable def P0 : Pg := ⟨dfT, fun _ _ => none⟩
end Mine
namespace Mine
open PySem PySem.Spec PySem.Calls PyProof.Rows

noncomputable def gdT (x : Str) : Option D := List.lookup x [("R0", .tuple [.int 0, .int 1]), ("R1", .tuple [.int 1, .int 1]), ("MOST_BITS", .int 200000), ("MOST_POWER", .int 2000), ("F0", .tuple [.list [], .list [.tuple [.int 1, .int 1]]]), ("F1", .tuple [.list [.tuple [.int 1, .int 1]], .list [.tuple [.int 1, .int 1]]]), ("_law_x", .tuple [.str "sym", .str "x"])]
theorem gd_R0 : gdT "R0" = some (.tuple [.int 0, .int 1]) := by rfl
theorem gd_R1 : gdT "R1" = some (.tuple [.int 1, .int 1]) := by rfl
theorem gd_MOST_BITS : gdT "MOST_BITS" = some (.int 200000) := by rfl
theorem gd_MOST_POWER : gdT "MOST_POWER" = some (.int 2000) := by rfl
theorem gd_F0 : gdT "F0" = some (.tuple [.list [], .list [.tuple [.int 1, .int 1]]]) := by rfl
theorem gd_F1 : gdT "F1" = some (.tuple [.list [.tuple [.int 1, .int 1]], .list [.tuple [.int 1, .int 1]]]) := by rfl
theorem gd_ulawux : gdT "_law_x" = some (.tuple [.str "sym", .str "x"]) := by rfl
noncomputable def fnT : Nat → Option Str
  | 0 => some "gcd"
  | 1 => some "bits_of"
  | 2 => some "rat"
  | 3 => some "radd"
  | 4 => some "rmul"
  | 5 => some "rdiv"
  | 6 => some "rneg"
  | 7 => some "rinv"
  | 8 => some "rpower"
  | 9 => some "qtrim"
  | 10 => some "qdegree"
  | 11 => some "qlead"
  | 12 => some "qadd"
  | 13 => some "qneg"
  | 14 => some "qsub"
  | 15 => some "qscale"
  | 16 => some "qraise"
  | 17 => some "qmul"
  | 18 => some "qdivmod"
  | 19 => some "qmonic"
  | 20 => some "qgcd"
  | 21 => some "fmake"
  | 22 => some "fnumber"
  | 23 => some "fadd"
  | 24 => some "fmul"
  | 25 => some "finv"
  | 26 => some "fpower"
  | 27 => some "whole_exponent"
  | 28 => some "far_power"
  | 29 => some "is_rational"
  | 30 => some "from_term"
  | 31 => some "from_rational"
  | _ => none
theorem nd_F0 : NotDebug "F0" := by show (_ == _) = false; decide +kernel
theorem nd_F1 : NotDebug "F1" := by show (_ == _) = false; decide +kernel
theorem nd_MOST_BITS : NotDebug "MOST_BITS" := by show (_ == _) = false; decide +kernel
theorem nd_MOST_POWER : NotDebug "MOST_POWER" := by show (_ == _) = false; decide +kernel
theorem nd_R0 : NotDebug "R0" := by show (_ == _) = false; decide +kernel
theorem nd_R1 : NotDebug "R1" := by show (_ == _) = false; decide +kernel
theorem nd_a : NotDebug "a" := by show (_ == _) = false; decide +kernel
theorem nd_at : NotDebug "at" := by show (_ == _) = false; decide +kernel
theorem nd_b : NotDebug "b" := by show (_ == _) = false; decide +kernel
theorem nd_base : NotDebug "base" := by show (_ == _) = false; decide +kernel
theorem nd_bits : NotDebug "bits" := by show (_ == _) = false; decide +kernel
theorem nd_bits_of : NotDebug "bits_of" := by show (_ == _) = false; decide +kernel
theorem nd_bottom : NotDebug "bottom" := by show (_ == _) = false; decide +kernel
theorem nd_common : NotDebug "common" := by show (_ == _) = false; decide +kernel
theorem nd_f : NotDebug "f" := by show (_ == _) = false; decide +kernel
theorem nd_fadd : NotDebug "fadd" := by show (_ == _) = false; decide +kernel
theorem nd_far : NotDebug "far" := by show (_ == _) = false; decide +kernel
theorem nd_far_power : NotDebug "far_power" := by show (_ == _) = false; decide +kernel
theorem nd_finv : NotDebug "finv" := by show (_ == _) = false; decide +kernel
theorem nd_fmake : NotDebug "fmake" := by show (_ == _) = false; decide +kernel
theorem nd_fmul : NotDebug "fmul" := by show (_ == _) = false; decide +kernel
theorem nd_fnumber : NotDebug "fnumber" := by show (_ == _) = false; decide +kernel
theorem nd_found : NotDebug "found" := by show (_ == _) = false; decide +kernel
theorem nd_fpower : NotDebug "fpower" := by show (_ == _) = false; decide +kernel
theorem nd_from_rational : NotDebug "from_rational" := by show (_ == _) = false; decide +kernel
theorem nd_g : NotDebug "g" := by show (_ == _) = false; decide +kernel
theorem nd_gcd : NotDebug "gcd" := by show (_ == _) = false; decide +kernel
theorem nd_greatest : NotDebug "greatest" := by show (_ == _) = false; decide +kernel
theorem nd_is_number : NotDebug "is_number" := by show (_ == _) = false; decide +kernel
theorem nd_is_rational : NotDebug "is_rational" := by show (_ == _) = false; decide +kernel
theorem nd_left : NotDebug "left" := by show (_ == _) = false; decide +kernel
theorem nd_lower : NotDebug "lower" := by show (_ == _) = false; decide +kernel
theorem nd_many : NotDebug "many" := by show (_ == _) = false; decide +kernel
theorem nd_n : NotDebug "n" := by show (_ == _) = false; decide +kernel
theorem nd_name : NotDebug "name" := by show (_ == _) = false; decide +kernel
theorem nd_number : NotDebug "number" := by show (_ == _) = false; decide +kernel
theorem nd_one : NotDebug "one" := by show (_ == _) = false; decide +kernel
theorem nd_other : NotDebug "other" := by show (_ == _) = false; decide +kernel
theorem nd_p : NotDebug "p" := by show (_ == _) = false; decide +kernel
theorem nd_part : NotDebug "part" := by show (_ == _) = false; decide +kernel
theorem nd_power : NotDebug "power" := by show (_ == _) = false; decide +kernel
theorem nd_qadd : NotDebug "qadd" := by show (_ == _) = false; decide +kernel
theorem nd_qdegree : NotDebug "qdegree" := by show (_ == _) = false; decide +kernel
theorem nd_qdivmod : NotDebug "qdivmod" := by show (_ == _) = false; decide +kernel
theorem nd_qgcd : NotDebug "qgcd" := by show (_ == _) = false; decide +kernel
theorem nd_qlead : NotDebug "qlead" := by show (_ == _) = false; decide +kernel
theorem nd_qmonic : NotDebug "qmonic" := by show (_ == _) = false; decide +kernel
theorem nd_qmul : NotDebug "qmul" := by show (_ == _) = false; decide +kernel
theorem nd_qneg : NotDebug "qneg" := by show (_ == _) = false; decide +kernel
theorem nd_qraise : NotDebug "qraise" := by show (_ == _) = false; decide +kernel
theorem nd_qscale : NotDebug "qscale" := by show (_ == _) = false; decide +kernel
theorem nd_qsub : NotDebug "qsub" := by show (_ == _) = false; decide +kernel
theorem nd_qtrim : NotDebug "qtrim" := by show (_ == _) = false; decide +kernel
theorem nd_r : NotDebug "r" := by show (_ == _) = false; decide +kernel
theorem nd_radd : NotDebug "radd" := by show (_ == _) = false; decide +kernel
theorem nd_rat : NotDebug "rat" := by show (_ == _) = false; decide +kernel
theorem nd_rdiv : NotDebug "rdiv" := by show (_ == _) = false; decide +kernel
theorem nd_rest : NotDebug "rest" := by show (_ == _) = false; decide +kernel
theorem nd_right : NotDebug "right" := by show (_ == _) = false; decide +kernel
theorem nd_rinv : NotDebug "rinv" := by show (_ == _) = false; decide +kernel
theorem nd_rmul : NotDebug "rmul" := by show (_ == _) = false; decide +kernel
theorem nd_rneg : NotDebug "rneg" := by show (_ == _) = false; decide +kernel
theorem nd_row : NotDebug "row" := by show (_ == _) = false; decide +kernel
theorem nd_rpower : NotDebug "rpower" := by show (_ == _) = false; decide +kernel
theorem nd_scale : NotDebug "scale" := by show (_ == _) = false; decide +kernel
theorem nd_size : NotDebug "size" := by show (_ == _) = false; decide +kernel
theorem nd_step : NotDebug "step" := by show (_ == _) = false; decide +kernel
theorem nd_t : NotDebug "t" := by show (_ == _) = false; decide +kernel
theorem nd_top : NotDebug "top" := by show (_ == _) = false; decide +kernel
theorem nd_whole_exponent : NotDebug "whole_exponent" := by show (_ == _) = false; decide +kernel
theorem lk_sc_bits_of_found : sc_bits_of.names.lookup ("found" : Str) = some .local := by decide +kernel
theorem lk_sc_bits_of_many : sc_bits_of.names.lookup ("many" : Str) = some .local := by decide +kernel
theorem lk_sc_bits_of_step : sc_bits_of.names.lookup ("step" : Str) = some .local := by decide +kernel
theorem lk_sc_fadd_fmake : sc_fadd.names.lookup ("fmake" : Str) = some .globalImplicit := by decide +kernel
theorem lk_sc_fadd_qadd : sc_fadd.names.lookup ("qadd" : Str) = some .globalImplicit := by decide +kernel
theorem lk_sc_fadd_qmul : sc_fadd.names.lookup ("qmul" : Str) = some .globalImplicit := by decide +kernel
theorem lk_sc_far_power_CasFail : sc_far_power.names.lookup ("CasFail" : Str) = some .globalImplicit := by decide +kernel
theorem lk_sc_far_power_MOST_BITS : sc_far_power.names.lookup ("MOST_BITS" : Str) = some .globalImplicit := by decide +kernel
theorem lk_sc_far_power_MOST_POWER : sc_far_power.names.lookup ("MOST_POWER" : Str) = some .globalImplicit := by decide +kernel
theorem lk_sc_far_power_abs : sc_far_power.names.lookup ("abs" : Str) = some .globalImplicit := by decide +kernel
theorem lk_sc_far_power_bits : sc_far_power.names.lookup ("bits" : Str) = some .local := by decide +kernel
theorem lk_sc_far_power_bits_of : sc_far_power.names.lookup ("bits_of" : Str) = some .globalImplicit := by decide +kernel
theorem lk_sc_far_power_far : sc_far_power.names.lookup ("far" : Str) = some .local := by decide +kernel
theorem lk_sc_far_power_fnumber : sc_far_power.names.lookup ("fnumber" : Str) = some .globalImplicit := by decide +kernel
theorem lk_sc_far_power_fpower : sc_far_power.names.lookup ("fpower" : Str) = some .globalImplicit := by decide +kernel
theorem lk_sc_far_power_is_number : sc_far_power.names.lookup ("is_number" : Str) = some .local := by decide +kernel
theorem lk_sc_far_power_max : sc_far_power.names.lookup ("max" : Str) = some .globalImplicit := by decide +kernel
theorem lk_sc_far_power_qdegree : sc_far_power.names.lookup ("qdegree" : Str) = some .globalImplicit := by decide +kernel
theorem lk_sc_far_power_rdiv : sc_far_power.names.lookup ("rdiv" : Str) = some .globalImplicit := by decide +kernel
theorem lk_sc_far_power_rpower : sc_far_power.names.lookup ("rpower" : Str) = some .globalImplicit := by decide +kernel
theorem lk_sc_far_powerc_abs : sc_far_powerc.names.lookup ("abs" : Str) = some .globalImplicit := by decide +kernel
theorem lk_sc_far_powerc_max : sc_far_powerc.names.lookup ("max" : Str) = some .globalImplicit := by decide +kernel
theorem lk_sc_finv_fmake : sc_finv.names.lookup ("fmake" : Str) = some .globalImplicit := by decide +kernel
theorem lk_sc_fmake_CasFail : sc_fmake.names.lookup ("CasFail" : Str) = some .globalImplicit := by decide +kernel
theorem lk_sc_fmake_F0 : sc_fmake.names.lookup ("F0" : Str) = some .globalImplicit := by decide +kernel
theorem lk_sc_fmake_common : sc_fmake.names.lookup ("common" : Str) = some .local := by decide +kernel
theorem lk_sc_fmake_qdegree : sc_fmake.names.lookup ("qdegree" : Str) = some .globalImplicit := by decide +kernel
theorem lk_sc_fmake_qdivmod : sc_fmake.names.lookup ("qdivmod" : Str) = some .globalImplicit := by decide +kernel
theorem lk_sc_fmake_qgcd : sc_fmake.names.lookup ("qgcd" : Str) = some .globalImplicit := by decide +kernel
theorem lk_sc_fmake_qlead : sc_fmake.names.lookup ("qlead" : Str) = some .globalImplicit := by decide +kernel
theorem lk_sc_fmake_qscale : sc_fmake.names.lookup ("qscale" : Str) = some .globalImplicit := by decide +kernel
theorem lk_sc_fmake_rinv : sc_fmake.names.lookup ("rinv" : Str) = some .globalImplicit := by decide +kernel
theorem lk_sc_fmake_scale : sc_fmake.names.lookup ("scale" : Str) = some .local := by decide +kernel
theorem lk_sc_fmul_fmake : sc_fmul.names.lookup ("fmake" : Str) = some .globalImplicit := by decide +kernel
theorem lk_sc_fmul_qmul : sc_fmul.names.lookup ("qmul" : Str) = some .globalImplicit := by decide +kernel
theorem lk_sc_fnumber_R0 : sc_fnumber.names.lookup ("R0" : Str) = some .globalImplicit := by decide +kernel
theorem lk_sc_fnumber_R1 : sc_fnumber.names.lookup ("R1" : Str) = some .globalImplicit := by decide +kernel
theorem lk_sc_fpower_F1 : sc_fpower.names.lookup ("F1" : Str) = some .globalImplicit := by decide +kernel
theorem lk_sc_fpower_abs : sc_fpower.names.lookup ("abs" : Str) = some .globalImplicit := by decide +kernel
theorem lk_sc_fpower_finv : sc_fpower.names.lookup ("finv" : Str) = some .globalImplicit := by decide +kernel
theorem lk_sc_fpower_fmul : sc_fpower.names.lookup ("fmul" : Str) = some .globalImplicit := by decide +kernel
theorem lk_sc_fpower_found : sc_fpower.names.lookup ("found" : Str) = some .local := by decide +kernel
theorem lk_sc_from_rational_F0 : sc_from_rational.names.lookup ("F0" : Str) = some .globalImplicit := by decide +kernel
theorem lk_sc_from_rational_F1 : sc_from_rational.names.lookup ("F1" : Str) = some .globalImplicit := by decide +kernel
theorem lk_sc_from_rational_R0 : sc_from_rational.names.lookup ("R0" : Str) = some .globalImplicit := by decide +kernel
theorem lk_sc_from_rational_R1 : sc_from_rational.names.lookup ("R1" : Str) = some .globalImplicit := by decide +kernel
theorem lk_sc_from_rational_fadd : sc_from_rational.names.lookup ("fadd" : Str) = some .globalImplicit := by decide +kernel
theorem lk_sc_from_rational_far_power : sc_from_rational.names.lookup ("far_power" : Str) = some .globalImplicit := by decide +kernel
theorem lk_sc_from_rational_fmul : sc_from_rational.names.lookup ("fmul" : Str) = some .globalImplicit := by decide +kernel
theorem lk_sc_from_rational_fnumber : sc_from_rational.names.lookup ("fnumber" : Str) = some .globalImplicit := by decide +kernel
theorem lk_sc_from_rational_found : sc_from_rational.names.lookup ("found" : Str) = some .local := by decide +kernel
theorem lk_sc_from_rational_from_rational : sc_from_rational.names.lookup ("from_rational" : Str) = some .globalImplicit := by decide +kernel
theorem lk_sc_from_rational_one : sc_from_rational.names.lookup ("one" : Str) = some .local := by decide +kernel
theorem lk_sc_from_rational_part : sc_from_rational.names.lookup ("part" : Str) = some .local := by decide +kernel
theorem lk_sc_from_rational_rat : sc_from_rational.names.lookup ("rat" : Str) = some .globalImplicit := by decide +kernel
theorem lk_sc_from_rational_whole_exponent : sc_from_rational.names.lookup ("whole_exponent" : Str) = some .globalImplicit := by decide +kernel
theorem lk_sc_from_term_from_rational : sc_from_term.names.lookup ("from_rational" : Str) = some .globalImplicit := by decide +kernel
theorem lk_sc_from_term_is_rational : sc_from_term.names.lookup ("is_rational" : Str) = some .globalImplicit := by decide +kernel
theorem lk_sc_gcd_abs : sc_gcd.names.lookup ("abs" : Str) = some .globalImplicit := by decide +kernel
theorem lk_sc_is_rational_all : sc_is_rational.names.lookup ("all" : Str) = some .globalImplicit := by decide +kernel
theorem lk_sc_is_rational_is_rational : sc_is_rational.names.lookup ("is_rational" : Str) = some .globalImplicit := by decide +kernel
theorem lk_sc_is_rational_whole_exponent : sc_is_rational.names.lookup ("whole_exponent" : Str) = some .globalImplicit := by decide +kernel
theorem lk_sc_is_rationalc_is_rational : sc_is_rationalc.names.lookup ("is_rational" : Str) = some .globalImplicit := by decide +kernel
theorem lk_sc_qadd_len : sc_qadd.names.lookup ("len" : Str) = some .globalImplicit := by decide +kernel
theorem lk_sc_qadd_max : sc_qadd.names.lookup ("max" : Str) = some .globalImplicit := by decide +kernel
theorem lk_sc_qadd_qtrim : sc_qadd.names.lookup ("qtrim" : Str) = some .globalImplicit := by decide +kernel
theorem lk_sc_qadd_range : sc_qadd.names.lookup ("range" : Str) = some .globalImplicit := by decide +kernel
theorem lk_sc_qadd_size : sc_qadd.names.lookup ("size" : Str) = some .local := by decide +kernel
theorem lk_sc_qaddc_R0 : sc_qaddc.names.lookup ("R0" : Str) = some .globalImplicit := by decide +kernel
theorem lk_sc_qaddc_len : sc_qaddc.names.lookup ("len" : Str) = some .globalImplicit := by decide +kernel
theorem lk_sc_qaddc_radd : sc_qaddc.names.lookup ("radd" : Str) = some .globalImplicit := by decide +kernel
theorem lk_sc_qdegree_len : sc_qdegree.names.lookup ("len" : Str) = some .globalImplicit := by decide +kernel
theorem lk_sc_qdivmod_CasFail : sc_qdivmod.names.lookup ("CasFail" : Str) = some .globalImplicit := by decide +kernel
theorem lk_sc_qdivmod_R0 : sc_qdivmod.names.lookup ("R0" : Str) = some .globalImplicit := by decide +kernel
theorem lk_sc_qdivmod_found : sc_qdivmod.names.lookup ("found" : Str) = some .local := by decide +kernel
theorem lk_sc_qdivmod_len : sc_qdivmod.names.lookup ("len" : Str) = some .globalImplicit := by decide +kernel
theorem lk_sc_qdivmod_list : sc_qdivmod.names.lookup ("list" : Str) = some .globalImplicit := by decide +kernel
theorem lk_sc_qdivmod_lower : sc_qdivmod.names.lookup ("lower" : Str) = some .local := by decide +kernel
theorem lk_sc_qdivmod_max : sc_qdivmod.names.lookup ("max" : Str) = some .globalImplicit := by decide +kernel
theorem lk_sc_qdivmod_qraise : sc_qdivmod.names.lookup ("qraise" : Str) = some .globalImplicit := by decide +kernel
theorem lk_sc_qdivmod_qscale : sc_qdivmod.names.lookup ("qscale" : Str) = some .globalImplicit := by decide +kernel
theorem lk_sc_qdivmod_qsub : sc_qdivmod.names.lookup ("qsub" : Str) = some .globalImplicit := by decide +kernel
theorem lk_sc_qdivmod_qtrim : sc_qdivmod.names.lookup ("qtrim" : Str) = some .globalImplicit := by decide +kernel
theorem lk_sc_qdivmod_rdiv : sc_qdivmod.names.lookup ("rdiv" : Str) = some .globalImplicit := by decide +kernel
theorem lk_sc_qdivmod_rest : sc_qdivmod.names.lookup ("rest" : Str) = some .local := by decide +kernel
theorem lk_sc_qgcd_len : sc_qgcd.names.lookup ("len" : Str) = some .globalImplicit := by decide +kernel
theorem lk_sc_qgcd_qdivmod : sc_qgcd.names.lookup ("qdivmod" : Str) = some .globalImplicit := by decide +kernel
theorem lk_sc_qgcd_qmonic : sc_qgcd.names.lookup ("qmonic" : Str) = some .globalImplicit := by decide +kernel
theorem lk_sc_qlead_R0 : sc_qlead.names.lookup ("R0" : Str) = some .globalImplicit := by decide +kernel
theorem lk_sc_qlead_len : sc_qlead.names.lookup ("len" : Str) = some .globalImplicit := by decide +kernel
theorem lk_sc_qmonic_len : sc_qmonic.names.lookup ("len" : Str) = some .globalImplicit := by decide +kernel
theorem lk_sc_qmonic_qscale : sc_qmonic.names.lookup ("qscale" : Str) = some .globalImplicit := by decide +kernel
theorem lk_sc_qmonic_rinv : sc_qmonic.names.lookup ("rinv" : Str) = some .globalImplicit := by decide +kernel
theorem lk_sc_qmul_R0 : sc_qmul.names.lookup ("R0" : Str) = some .globalImplicit := by decide +kernel
theorem lk_sc_qmul_enumerate : sc_qmul.names.lookup ("enumerate" : Str) = some .globalImplicit := by decide +kernel
theorem lk_sc_qmul_found : sc_qmul.names.lookup ("found" : Str) = some .local := by decide +kernel
theorem lk_sc_qmul_left : sc_qmul.names.lookup ("left" : Str) = some .local := by decide +kernel
theorem lk_sc_qmul_len : sc_qmul.names.lookup ("len" : Str) = some .globalImplicit := by decide +kernel
theorem lk_sc_qmul_one : sc_qmul.names.lookup ("one" : Str) = some .local := by decide +kernel
theorem lk_sc_qmul_other : sc_qmul.names.lookup ("other" : Str) = some .local := by decide +kernel
theorem lk_sc_qmul_radd : sc_qmul.names.lookup ("radd" : Str) = some .globalImplicit := by decide +kernel
theorem lk_sc_qmul_right : sc_qmul.names.lookup ("right" : Str) = some .local := by decide +kernel
theorem lk_sc_qmul_rmul : sc_qmul.names.lookup ("rmul" : Str) = some .globalImplicit := by decide +kernel
theorem lk_sc_qnegc_rneg : sc_qnegc.names.lookup ("rneg" : Str) = some .globalImplicit := by decide +kernel
theorem lk_sc_qraise_R0 : sc_qraise.names.lookup ("R0" : Str) = some .globalImplicit := by decide +kernel
theorem lk_sc_qraise_len : sc_qraise.names.lookup ("len" : Str) = some .globalImplicit := by decide +kernel
theorem lk_sc_qraise_list : sc_qraise.names.lookup ("list" : Str) = some .globalImplicit := by decide +kernel
theorem lk_sc_qscalec_rmul : sc_qscalec.names.lookup ("rmul" : Str) = some .globalImplicit := by decide +kernel
theorem lk_sc_qsub_qadd : sc_qsub.names.lookup ("qadd" : Str) = some .globalImplicit := by decide +kernel
theorem lk_sc_qsub_qneg : sc_qsub.names.lookup ("qneg" : Str) = some .globalImplicit := by decide +kernel
theorem lk_sc_qtrim_len : sc_qtrim.names.lookup ("len" : Str) = some .globalImplicit := by decide +kernel
theorem lk_sc_qtrim_list : sc_qtrim.names.lookup ("list" : Str) = some .globalImplicit := by decide +kernel
theorem lk_sc_qtrim_size : sc_qtrim.names.lookup ("size" : Str) = some .local := by decide +kernel
theorem lk_sc_radd_rat : sc_radd.names.lookup ("rat" : Str) = some .globalImplicit := by decide +kernel
theorem lk_sc_rat_CasFail : sc_rat.names.lookup ("CasFail" : Str) = some .globalImplicit := by decide +kernel
theorem lk_sc_rat_g : sc_rat.names.lookup ("g" : Str) = some .local := by decide +kernel
theorem lk_sc_rat_gcd : sc_rat.names.lookup ("gcd" : Str) = some .globalImplicit := by decide +kernel
theorem lk_sc_rdiv_rat : sc_rdiv.names.lookup ("rat" : Str) = some .globalImplicit := by decide +kernel
theorem lk_sc_rinv_rat : sc_rinv.names.lookup ("rat" : Str) = some .globalImplicit := by decide +kernel
theorem lk_sc_rmul_rat : sc_rmul.names.lookup ("rat" : Str) = some .globalImplicit := by decide +kernel
theorem lk_sc_rpower_CasFail : sc_rpower.names.lookup ("CasFail" : Str) = some .globalImplicit := by decide +kernel
theorem lk_sc_rpower_MOST_BITS : sc_rpower.names.lookup ("MOST_BITS" : Str) = some .globalImplicit := by decide +kernel
theorem lk_sc_rpower_abs : sc_rpower.names.lookup ("abs" : Str) = some .globalImplicit := by decide +kernel
theorem lk_sc_rpower_bits_of : sc_rpower.names.lookup ("bits_of" : Str) = some .globalImplicit := by decide +kernel
theorem lk_sc_rpower_greatest : sc_rpower.names.lookup ("greatest" : Str) = some .local := by decide +kernel
theorem lk_sc_rpower_max : sc_rpower.names.lookup ("max" : Str) = some .globalImplicit := by decide +kernel
theorem lk_sc_rpower_rinv : sc_rpower.names.lookup ("rinv" : Str) = some .globalImplicit := by decide +kernel
noncomputable def adT : Nat → Addr
  | 0 => 41
  | 1 => 48
  | 2 => 57
  | 3 => 64
  | 4 => 71
  | 5 => 78
  | 6 => 85
  | 7 => 92
  | 8 => 99
  | 9 => 106
  | 10 => 113
  | 11 => 120
  | 12 => 125
  | 13 => 130
  | 14 => 137
  | 15 => 142
  | 16 => 149
  | 17 => 156
  | 18 => 163
  | 19 => 170
  | 20 => 177
  | 21 => 190
  | 22 => 197
  | 23 => 204
  | 24 => 211
  | 25 => 218
  | 26 => 225
  | 27 => 232
  | 28 => 237
  | 29 => 242
  | 30 => 249
  | 31 => 256
  | _ => 0
noncomputable def fdAt (P : Params) (a : Addr) : FuncData := match (hd.heap_1 P).lookup a with | some o => (match o.data with | .func fd => fd | _ => default) | none => default
noncomputable def bodyAt (P : Params) (a : Addr) : List Stmt := match (fdAt P a).body with | .stmts b => b | _ => []
end Mine
namespace Mine
open PySem PySem.Spec PySem.Calls PyProof.Rows
theorem er_gcd (P : Params) : ErB gdT fnT sc_gcd (bodyAt P 41) ir_gcd := .asgS (names := ["a", "b"]) rfl (by decide +kernel) (.tup (.cons (.bi lk_sc_gcd_abs rfl (by exact List.cons_ne_nil _ _) (.cons (.var rfl nd_a) (fun _ _ => rfl) (.nil))) (fun _ _ => rfl) (.cons (.bi lk_sc_gcd_abs rfl (by exact List.cons_ne_nil _ _) (.cons (.var rfl nd_b) (fun _ _ => rfl) (.nil))) (fun _ _ => rfl) (.nil)))) (fun _ => rfl) ⟨by decide +kernel, by decide +kernel, by decide +kernel, by decide +kernel, by decide +kernel, by decide +kernel⟩ (.whl (.cmp (o := .ne) (.var rfl nd_b) (.int) rfl) (.asgS (names := ["a", "b"]) rfl (by decide +kernel) (.tup (.cons (.var rfl nd_b) (fun _ _ => rfl) (.cons (.bin (o := .fmod) (.var rfl nd_a) (.var rfl nd_b)) (fun _ _ => rfl) (.nil)))) (fun _ => rfl) ⟨by decide +kernel, by decide +kernel, by decide +kernel, by decide +kernel, by decide +kernel, by decide +kernel⟩ (.nil)) (.ret (.var rfl nd_a) (.nil)))
theorem er_bits_of (P : Params) : ErB gdT fnT sc_bits_of (bodyAt P 48) ir_bits_of := .asg rfl lk_sc_bits_of_found (.int) (fun _ => rfl) (.forT rfl lk_sc_bits_of_many (fun _ _ => rfl) (.tup (.cons (.int) (fun _ _ => rfl) (.cons (.int) (fun _ _ => rfl) (.cons (.int) (fun _ _ => rfl) (.nil))))) (.asg rfl lk_sc_bits_of_step (.bin (o := .pow) (.int) (.var rfl nd_many)) (fun _ => rfl) (.whl (.cmp (o := .ge) (.var rfl nd_n) (.var rfl nd_step) rfl) (.asgS (names := ["n", "found"]) rfl (by decide +kernel) (.tup (.cons (.bin (o := .fdiv) (.var rfl nd_n) (.var rfl nd_step)) (fun _ _ => rfl) (.cons (.bin (o := .add) (.var rfl nd_found) (.var rfl nd_many)) (fun _ _ => rfl) (.nil)))) (fun _ => rfl) ⟨by decide +kernel, by decide +kernel, by decide +kernel, by decide +kernel, by decide +kernel, by decide +kernel⟩ (.nil)) (.nil))) (.ret (.bin (o := .add) (.var rfl nd_found) (.var rfl nd_n)) (.nil)))
theorem er_rat (P : Params) : ErB gdT fnT sc_rat (bodyAt P 57) ir_rat := .ite (.cmp (o := .eq) (.var rfl nd_bottom) (.int) rfl) (.rais lk_sc_rat_CasFail (.nil)) (.nil) (.asg rfl lk_sc_rat_g (.ite (.cmp (o := .gt) (.var rfl nd_bottom) (.int) rfl) (.call lk_sc_rat_gcd nd_gcd rfl (by exact List.cons_ne_nil _ _) (.cons (.var rfl nd_top) (fun _ _ => rfl) (.cons (.var rfl nd_bottom) (fun _ _ => rfl) (.nil)))) (.bin (o := .sub) (.int) (.call lk_sc_rat_gcd nd_gcd rfl (by exact List.cons_ne_nil _ _) (.cons (.var rfl nd_top) (fun _ _ => rfl) (.cons (.var rfl nd_bottom) (fun _ _ => rfl) (.nil)))))) (fun _ => rfl) (.ret (.tup (.cons (.bin (o := .fdiv) (.var rfl nd_top) (.var rfl nd_g)) (fun _ _ => rfl) (.cons (.bin (o := .fdiv) (.var rfl nd_bottom) (.var rfl nd_g)) (fun _ _ => rfl) (.nil)))) (.nil)))
theorem er_radd (P : Params) : ErB gdT fnT sc_radd (bodyAt P 64) ir_radd := .ret (.call lk_sc_radd_rat nd_rat rfl (by exact List.cons_ne_nil _ _) (.cons (.bin (o := .add) (.bin (o := .mul) (.idx (.var rfl nd_a) (.int) (fun _ _ _ => rfl)) (.idx (.var rfl nd_b) (.int) (fun _ _ _ => rfl))) (.bin (o := .mul) (.idx (.var rfl nd_b) (.int) (fun _ _ _ => rfl)) (.idx (.var rfl nd_a) (.int) (fun _ _ _ => rfl)))) (fun _ _ => rfl) (.cons (.bin (o := .mul) (.idx (.var rfl nd_a) (.int) (fun _ _ _ => rfl)) (.idx (.var rfl nd_b) (.int) (fun _ _ _ => rfl))) (fun _ _ => rfl) (.nil)))) (.nil)
theorem er_rmul (P : Params) : ErB gdT fnT sc_rmul (bodyAt P 71) ir_rmul := .ret (.call lk_sc_rmul_rat nd_rat rfl (by exact List.cons_ne_nil _ _) (.cons (.bin (o := .mul) (.idx (.var rfl nd_a) (.int) (fun _ _ _ => rfl)) (.idx (.var rfl nd_b) (.int) (fun _ _ _ => rfl))) (fun _ _ => rfl) (.cons (.bin (o := .mul) (.idx (.var rfl nd_a) (.int) (fun _ _ _ => rfl)) (.idx (.var rfl nd_b) (.int) (fun _ _ _ => rfl))) (fun _ _ => rfl) (.nil)))) (.nil)
theorem er_rdiv (P : Params) : ErB gdT fnT sc_rdiv (bodyAt P 78) ir_rdiv := .ret (.call lk_sc_rdiv_rat nd_rat rfl (by exact List.cons_ne_nil _ _) (.cons (.bin (o := .mul) (.idx (.var rfl nd_a) (.int) (fun _ _ _ => rfl)) (.idx (.var rfl nd_b) (.int) (fun _ _ _ => rfl))) (fun _ _ => rfl) (.cons (.bin (o := .mul) (.idx (.var rfl nd_a) (.int) (fun _ _ _ => rfl)) (.idx (.var rfl nd_b) (.int) (fun _ _ _ => rfl))) (fun _ _ => rfl) (.nil)))) (.nil)
theorem er_rneg (P : Params) : ErB gdT fnT sc_rneg (bodyAt P 85) ir_rneg := .ret (.tup (.cons (.bin (o := .sub) (.int) (.idx (.var rfl nd_a) (.int) (fun _ _ _ => rfl))) (fun _ _ => rfl) (.cons (.idx (.var rfl nd_a) (.int) (fun _ _ _ => rfl)) (fun _ _ => rfl) (.nil)))) (.nil)
theorem er_rinv (P : Params) : ErB gdT fnT sc_rinv (bodyAt P 92) ir_rinv := .ret (.call lk_sc_rinv_rat nd_rat rfl (by exact List.cons_ne_nil _ _) (.cons (.idx (.var rfl nd_a) (.int) (fun _ _ _ => rfl)) (fun _ _ => rfl) (.cons (.idx (.var rfl nd_a) (.int) (fun _ _ _ => rfl)) (fun _ _ => rfl) (.nil)))) (.nil)
theorem er_rpower (P : Params) : ErB gdT fnT sc_rpower (bodyAt P 99) ir_rpower := .ite (.cmp (o := .lt) (.var rfl nd_n) (.int) rfl) (.asgS (names := ["a", "n"]) rfl (by decide +kernel) (.tup (.cons (.call lk_sc_rpower_rinv nd_rinv rfl (by exact List.cons_ne_nil _ _) (.cons (.var rfl nd_a) (fun _ _ => rfl) (.nil))) (fun _ _ => rfl) (.cons (.bin (o := .sub) (.int) (.var rfl nd_n)) (fun _ _ => rfl) (.nil)))) (fun _ => rfl) ⟨by decide +kernel, by decide +kernel, by decide +kernel, by decide +kernel, by decide +kernel, by decide +kernel⟩ (.nil)) (.nil) (.asg rfl lk_sc_rpower_greatest (.bi lk_sc_rpower_max rfl (by exact List.cons_ne_nil _ _) (.cons (.bi lk_sc_rpower_abs rfl (by exact List.cons_ne_nil _ _) (.cons (.idx (.var rfl nd_a) (.int) (fun _ _ _ => rfl)) (fun _ _ => rfl) (.nil))) (fun _ _ => rfl) (.cons (.idx (.var rfl nd_a) (.int) (fun _ _ _ => rfl)) (fun _ _ => rfl) (.nil)))) (fun _ => rfl) (.ite (.and (.cons (.cmp (o := .gt) (.var rfl nd_n) (.int) rfl) (.cons (.cmp (o := .gt) (.var rfl nd_greatest) (.int) rfl) (.cons (.cmp (o := .gt) (.bin (o := .mul) (.var rfl nd_n) (.call lk_sc_rpower_bits_of nd_bits_of rfl (by exact List.cons_ne_nil _ _) (.cons (.var rfl nd_greatest) (fun _ _ => rfl) (.nil)))) (.glob lk_sc_rpower_MOST_BITS nd_MOST_BITS gd_MOST_BITS) rfl) (.nil))))) (.rais lk_sc_rpower_CasFail (.nil)) (.nil) (.ret (.tup (.cons (.bin (o := .pow) (.idx (.var rfl nd_a) (.int) (fun _ _ _ => rfl)) (.var rfl nd_n)) (fun _ _ => rfl) (.cons (.bin (o := .pow) (.idx (.var rfl nd_a) (.int) (fun _ _ _ => rfl)) (.var rfl nd_n)) (fun _ _ => rfl) (.nil)))) (.nil))))
theorem er_qtrim (P : Params) : ErB gdT fnT sc_qtrim (bodyAt P 106) ir_qtrim := .asg rfl lk_sc_qtrim_size (.bi lk_sc_qtrim_len rfl (by exact List.cons_ne_nil _ _) (.cons (.var rfl nd_row) (fun _ _ => rfl) (.nil))) (fun _ => rfl) (.whl (.and (.cons (.cmp (o := .gt) (.var rfl nd_size) (.int) rfl) (.cons (.cmp (o := .eq) (.idx (.idx (.var rfl nd_row) (.bin (o := .sub) (.var rfl nd_size) (.int)) (fun _ _ _ => rfl)) (.int) (fun _ _ _ => rfl)) (.int) rfl) (.nil)))) (.sub rfl lk_sc_qtrim_size (.int) (.nil)) (.ret (.bi lk_sc_qtrim_list rfl (by exact List.cons_ne_nil _ _) (.cons (.upto (.var rfl nd_row) (.var rfl nd_size) (fun _ _ => rfl)) (fun _ _ => rfl) (.nil))) (.nil)))
theorem er_qdegree (P : Params) : ErB gdT fnT sc_qdegree (bodyAt P 113) ir_qdegree := .ret (.bin (o := .sub) (.bi lk_sc_qdegree_len rfl (by exact List.cons_ne_nil _ _) (.cons (.var rfl nd_p) (fun _ _ => rfl) (.nil))) (.int)) (.nil)
theorem er_qlead (P : Params) : ErB gdT fnT sc_qlead (bodyAt P 120) ir_qlead := .ret (.ite (.cmp (o := .gt) (.bi lk_sc_qlead_len rfl (by exact List.cons_ne_nil _ _) (.cons (.var rfl nd_p) (fun _ _ => rfl) (.nil))) (.int) rfl) (.idx (.var rfl nd_p) (.neg (.int)) (fun _ _ _ => rfl)) (.glob lk_sc_qlead_R0 nd_R0 gd_R0)) (.nil)
theorem cs_sc_qaddc : CompSc sc_qadd ⟨.function, [(".0", .local), ("at", .local), ("radd", .globalImplicit), ("len", .globalImplicit), ("R0", .globalImplicit), ("a", .free), ("b", .free)], false, false, []⟩ "at" [0, 1] ["a", "b"] sc_qaddc := ⟨by decide +kernel, rfl, by decide +kernel, by decide +kernel, rfl, by decide +kernel, by decide +kernel, rfl, rfl⟩
theorem er_qadd (P : Params) : ErB gdT fnT sc_qadd (bodyAt P 125) ir_qadd := .asg rfl lk_sc_qadd_size (.bi lk_sc_qadd_max rfl (by exact List.cons_ne_nil _ _) (.cons (.bi lk_sc_qadd_len rfl (by exact List.cons_ne_nil _ _) (.cons (.var rfl nd_a) (fun _ _ => rfl) (.nil))) (fun _ _ => rfl) (.cons (.bi lk_sc_qadd_len rfl (by exact List.cons_ne_nil _ _) (.cons (.var rfl nd_b) (fun _ _ => rfl) (.nil))) (fun _ _ => rfl) (.nil)))) (fun _ => rfl) (.ret (.call lk_sc_qadd_qtrim nd_qtrim rfl (by exact List.cons_ne_nil _ _) (.cons (.compR (z' := sc_qaddc) (.var rfl nd_size) rfl lk_sc_qadd_range (fun _ _ => rfl) (cs_sc_qaddc) (fun _ _ => rfl) (.call lk_sc_qaddc_radd nd_radd rfl (by exact List.cons_ne_nil _ _) (.cons (.ite (.cmp (o := .lt) (.var rfl nd_at) (.bi lk_sc_qaddc_len rfl (by exact List.cons_ne_nil _ _) (.cons (.var rfl nd_a) (fun _ _ => rfl) (.nil))) rfl) (.idx (.var rfl nd_a) (.var rfl nd_at) (fun _ _ _ => rfl)) (.glob lk_sc_qaddc_R0 nd_R0 gd_R0)) (fun _ _ => rfl) (.cons (.ite (.cmp (o := .lt) (.var rfl nd_at) (.bi lk_sc_qaddc_len rfl (by exact List.cons_ne_nil _ _) (.cons (.var rfl nd_b) (fun _ _ => rfl) (.nil))) rfl) (.idx (.var rfl nd_b) (.var rfl nd_at) (fun _ _ _ => rfl)) (.glob lk_sc_qaddc_R0 nd_R0 gd_R0)) (fun _ _ => rfl) (.nil))))) (fun _ _ => rfl) (.nil))) (.nil))
theorem cs_sc_qnegc : CompSc sc_qneg ⟨.function, [(".0", .local), ("number", .local), ("rneg", .globalImplicit)], false, false, []⟩ "number" [] [] sc_qnegc := ⟨by decide +kernel, rfl, by decide +kernel, by decide +kernel, rfl, by decide +kernel, by decide +kernel, rfl, rfl⟩
theorem er_qneg (P : Params) : ErB gdT fnT sc_qneg (bodyAt P 130) ir_qneg := .ret (.comp (z' := sc_qnegc) (.var rfl nd_p) (cs_sc_qnegc) (fun _ _ => rfl) (.call lk_sc_qnegc_rneg nd_rneg rfl (by exact List.cons_ne_nil _ _) (.cons (.var rfl nd_number) (fun _ _ => rfl) (.nil)))) (.nil)
theorem er_qsub (P : Params) : ErB gdT fnT sc_qsub (bodyAt P 137) ir_qsub := .ret (.call lk_sc_qsub_qadd nd_qadd rfl (by exact List.cons_ne_nil _ _) (.cons (.var rfl nd_a) (fun _ _ => rfl) (.cons (.call lk_sc_qsub_qneg nd_qneg rfl (by exact List.cons_ne_nil _ _) (.cons (.var rfl nd_b) (fun _ _ => rfl) (.nil))) (fun _ _ => rfl) (.nil)))) (.nil)
theorem cs_sc_qscalec : CompSc sc_qscale ⟨.function, [(".0", .local), ("number", .local), ("rmul", .globalImplicit), ("r", .free)], false, false, []⟩ "number" [1] ["r"] sc_qscalec := ⟨by decide +kernel, rfl, by decide +kernel, by decide +kernel, rfl, by decide +kernel, by decide +kernel, rfl, rfl⟩
theorem er_qscale (P : Params) : ErB gdT fnT sc_qscale (bodyAt P 142) ir_qscale := .ret (.ite (.cmp (o := .ne) (.idx (.var rfl nd_r) (.int) (fun _ _ _ => rfl)) (.int) rfl) (.comp (z' := sc_qscalec) (.var rfl nd_p) (cs_sc_qscalec) (fun _ _ => rfl) (.call lk_sc_qscalec_rmul nd_rmul rfl (by exact List.cons_ne_nil _ _) (.cons (.var rfl nd_number) (fun _ _ => rfl) (.cons (.var rfl nd_r) (fun _ _ => rfl) (.nil))))) (.lst (.nil))) (.nil)
theorem er_qraise (P : Params) : ErB gdT fnT sc_qraise (bodyAt P 149) ir_qraise := .ret (.ite (.cmp (o := .gt) (.bi lk_sc_qraise_len rfl (by exact List.cons_ne_nil _ _) (.cons (.var rfl nd_p) (fun _ _ => rfl) (.nil))) (.int) rfl) (.bin (o := .add) (.bin (o := .mul) (.lst (.cons (.glob lk_sc_qraise_R0 nd_R0 gd_R0) (fun _ _ => rfl) (.nil))) (.var rfl nd_many)) (.bi lk_sc_qraise_list rfl (by exact List.cons_ne_nil _ _) (.cons (.var rfl nd_p) (fun _ _ => rfl) (.nil)))) (.lst (.nil))) (.nil)
theorem er_qmul (P : Params) : ErB gdT fnT sc_qmul (bodyAt P 156) ir_qmul := .ite (.or (.cons (.cmp (o := .eq) (.bi lk_sc_qmul_len rfl (by exact List.cons_ne_nil _ _) (.cons (.var rfl nd_a) (fun _ _ => rfl) (.nil))) (.int) rfl) (.cons (.cmp (o := .eq) (.bi lk_sc_qmul_len rfl (by exact List.cons_ne_nil _ _) (.cons (.var rfl nd_b) (fun _ _ => rfl) (.nil))) (.int) rfl) (.nil)))) (.ret (.lst (.nil)) (.nil)) (.nil) (.own rfl lk_sc_qmul_found (.cons (.glob lk_sc_qmul_R0 nd_R0 gd_R0) (fun _ _ => rfl) (.nil)) (.bin (o := .sub) (.bin (o := .add) (.bi lk_sc_qmul_len rfl (by exact List.cons_ne_nil _ _) (.cons (.var rfl nd_a) (fun _ _ => rfl) (.nil))) (.bi lk_sc_qmul_len rfl (by exact List.cons_ne_nil _ _) (.cons (.var rfl nd_b) (fun _ _ => rfl) (.nil)))) (.int)) (fun _ => rfl) (.forE rfl lk_sc_qmul_one rfl lk_sc_qmul_left rfl lk_sc_qmul_enumerate (fun _ _ => rfl) (.var rfl nd_a) (.forE rfl lk_sc_qmul_other rfl lk_sc_qmul_right rfl lk_sc_qmul_enumerate (fun _ _ => rfl) (.var rfl nd_b) (.sto rfl nd_found (.bin (o := .add) (.var rfl nd_one) (.var rfl nd_other)) (.call lk_sc_qmul_radd nd_radd rfl (by exact List.cons_ne_nil _ _) (.cons (.oget (.bin (o := .add) (.var rfl nd_one) (.var rfl nd_other)) rfl nd_found (fun _ _ _ => rfl)) (fun _ _ => rfl) (.cons (.call lk_sc_qmul_rmul nd_rmul rfl (by exact List.cons_ne_nil _ _) (.cons (.var rfl nd_left) (fun _ _ => rfl) (.cons (.var rfl nd_right) (fun _ _ => rfl) (.nil)))) (fun _ _ => rfl) (.nil)))) (fun _ => rfl) (.nil)) (.nil)) (.frz (.ret (.var rfl nd_found) (.nil)))))
theorem er_qdivmod (P : Params) : ErB gdT fnT sc_qdivmod (bodyAt P 163) ir_qdivmod := .ite (.cmp (o := .eq) (.bi lk_sc_qdivmod_len rfl (by exact List.cons_ne_nil _ _) (.cons (.var rfl nd_b) (fun _ _ => rfl) (.nil))) (.int) rfl) (.rais lk_sc_qdivmod_CasFail (.nil)) (.nil) (.own2 rfl lk_sc_qdivmod_rest rfl lk_sc_qdivmod_found (.bi lk_sc_qdivmod_list rfl (by exact List.cons_ne_nil _ _) (.cons (.var rfl nd_a) (fun _ _ => rfl) (.nil))) (.cons (.glob lk_sc_qdivmod_R0 nd_R0 gd_R0) (fun _ _ => rfl) (.nil)) (.bi lk_sc_qdivmod_max rfl (by exact List.cons_ne_nil _ _) (.cons (.int) (fun _ _ => rfl) (.cons (.bin (o := .add) (.bin (o := .sub) (.bi lk_sc_qdivmod_len rfl (by exact List.cons_ne_nil _ _) (.cons (.var rfl nd_a) (fun _ _ => rfl) (.nil))) (.bi lk_sc_qdivmod_len rfl (by exact List.cons_ne_nil _ _) (.cons (.var rfl nd_b) (fun _ _ => rfl) (.nil)))) (.int)) (fun _ _ => rfl) (.nil)))) (fun _ _ => rfl) (fun _ => rfl) ⟨by decide +kernel, by decide +kernel, by decide +kernel, by decide +kernel, by decide +kernel, by decide +kernel⟩ (.whl (.cmp (o := .ge) (.bi lk_sc_qdivmod_len rfl (by exact List.cons_ne_nil _ _) (.cons (.var rfl nd_rest) (fun _ _ => rfl) (.nil))) (.bi lk_sc_qdivmod_len rfl (by exact List.cons_ne_nil _ _) (.cons (.var rfl nd_b) (fun _ _ => rfl) (.nil))) rfl) (.asgS (names := ["number", "power"]) rfl (by decide +kernel) (.tup (.cons (.call lk_sc_qdivmod_rdiv nd_rdiv rfl (by exact List.cons_ne_nil _ _) (.cons (.idx (.var rfl nd_rest) (.neg (.int)) (fun _ _ _ => rfl)) (fun _ _ => rfl) (.cons (.idx (.var rfl nd_b) (.neg (.int)) (fun _ _ _ => rfl)) (fun _ _ => rfl) (.nil)))) (fun _ _ => rfl) (.cons (.bin (o := .sub) (.bi lk_sc_qdivmod_len rfl (by exact List.cons_ne_nil _ _) (.cons (.var rfl nd_rest) (fun _ _ => rfl) (.nil))) (.bi lk_sc_qdivmod_len rfl (by exact List.cons_ne_nil _ _) (.cons (.var rfl nd_b) (fun _ _ => rfl) (.nil)))) (fun _ _ => rfl) (.nil)))) (fun _ => rfl) ⟨by decide +kernel, by decide +kernel, by decide +kernel, by decide +kernel, by decide +kernel, by decide +kernel⟩ (.sto rfl nd_found (.var rfl nd_power) (.var rfl nd_number) (fun _ => rfl) (.asg rfl lk_sc_qdivmod_lower (.call lk_sc_qdivmod_qsub nd_qsub rfl (by exact List.cons_ne_nil _ _) (.cons (.upto (.var rfl nd_rest) (.neg (.int)) (fun _ _ => rfl)) (fun _ _ => rfl) (.cons (.call lk_sc_qdivmod_qraise nd_qraise rfl (by exact List.cons_ne_nil _ _) (.cons (.call lk_sc_qdivmod_qscale nd_qscale rfl (by exact List.cons_ne_nil _ _) (.cons (.upto (.var rfl nd_b) (.neg (.int)) (fun _ _ => rfl)) (fun _ _ => rfl) (.cons (.var rfl nd_number) (fun _ _ => rfl) (.nil)))) (fun _ _ => rfl) (.cons (.var rfl nd_power) (fun _ _ => rfl) (.nil)))) (fun _ _ => rfl) (.nil)))) (fun _ => rfl) (.asg rfl lk_sc_qdivmod_rest (.var rfl nd_lower) (fun _ => rfl) (.nil))))) (.frz (.ret (.tup (.cons (.call lk_sc_qdivmod_qtrim nd_qtrim rfl (by exact List.cons_ne_nil _ _) (.cons (.var rfl nd_found) (fun _ _ => rfl) (.nil))) (fun _ _ => rfl) (.cons (.var rfl nd_rest) (fun _ _ => rfl) (.nil)))) (.nil)))))
theorem er_qmonic (P : Params) : ErB gdT fnT sc_qmonic (bodyAt P 170) ir_qmonic := .ret (.ite (.cmp (o := .gt) (.bi lk_sc_qmonic_len rfl (by exact List.cons_ne_nil _ _) (.cons (.var rfl nd_p) (fun _ _ => rfl) (.nil))) (.int) rfl) (.call lk_sc_qmonic_qscale nd_qscale rfl (by exact List.cons_ne_nil _ _) (.cons (.var rfl nd_p) (fun _ _ => rfl) (.cons (.call lk_sc_qmonic_rinv nd_rinv rfl (by exact List.cons_ne_nil _ _) (.cons (.idx (.var rfl nd_p) (.neg (.int)) (fun _ _ _ => rfl)) (fun _ _ => rfl) (.nil))) (fun _ _ => rfl) (.nil)))) (.lst (.nil))) (.nil)
theorem er_qgcd (P : Params) : ErB gdT fnT sc_qgcd (bodyAt P 177) ir_qgcd := .whl (.cmp (o := .gt) (.bi lk_sc_qgcd_len rfl (by exact List.cons_ne_nil _ _) (.cons (.var rfl nd_b) (fun _ _ => rfl) (.nil))) (.int) rfl) (.asgS (names := ["a", "b"]) rfl (by decide +kernel) (.tup (.cons (.var rfl nd_b) (fun _ _ => rfl) (.cons (.call lk_sc_qgcd_qmonic nd_qmonic rfl (by exact List.cons_ne_nil _ _) (.cons (.idx (.call lk_sc_qgcd_qdivmod nd_qdivmod rfl (by exact List.cons_ne_nil _ _) (.cons (.var rfl nd_a) (fun _ _ => rfl) (.cons (.var rfl nd_b) (fun _ _ => rfl) (.nil)))) (.int) (fun _ _ _ => rfl)) (fun _ _ => rfl) (.nil))) (fun _ _ => rfl) (.nil)))) (fun _ => rfl) ⟨by decide +kernel, by decide +kernel, by decide +kernel, by decide +kernel, by decide +kernel, by decide +kernel⟩ (.nil)) (.ret (.call lk_sc_qgcd_qmonic nd_qmonic rfl (by exact List.cons_ne_nil _ _) (.cons (.var rfl nd_a) (fun _ _ => rfl) (.nil))) (.nil))
theorem er_fmake (P : Params) : ErB gdT fnT sc_fmake (bodyAt P 190) ir_fmake := .ite (.cmp (o := .eq) (.var rfl nd_bottom) (.lst (.nil)) rfl) (.rais lk_sc_fmake_CasFail (.nil)) (.nil) (.ite (.cmp (o := .eq) (.var rfl nd_top) (.lst (.nil)) rfl) (.ret (.glob lk_sc_fmake_F0 nd_F0 gd_F0) (.nil)) (.nil) (.asg rfl lk_sc_fmake_common (.call lk_sc_fmake_qgcd nd_qgcd rfl (by exact List.cons_ne_nil _ _) (.cons (.var rfl nd_top) (fun _ _ => rfl) (.cons (.var rfl nd_bottom) (fun _ _ => rfl) (.nil)))) (fun _ => rfl) (.ite (.cmp (o := .gt) (.call lk_sc_fmake_qdegree nd_qdegree rfl (by exact List.cons_ne_nil _ _) (.cons (.var rfl nd_common) (fun _ _ => rfl) (.nil))) (.int) rfl) (.asgS (names := ["top", "bottom"]) rfl (by decide +kernel) (.tup (.cons (.idx (.call lk_sc_fmake_qdivmod nd_qdivmod rfl (by exact List.cons_ne_nil _ _) (.cons (.var rfl nd_top) (fun _ _ => rfl) (.cons (.var rfl nd_common) (fun _ _ => rfl) (.nil)))) (.int) (fun _ _ _ => rfl)) (fun _ _ => rfl) (.cons (.idx (.call lk_sc_fmake_qdivmod nd_qdivmod rfl (by exact List.cons_ne_nil _ _) (.cons (.var rfl nd_bottom) (fun _ _ => rfl) (.cons (.var rfl nd_common) (fun _ _ => rfl) (.nil)))) (.int) (fun _ _ _ => rfl)) (fun _ _ => rfl) (.nil)))) (fun _ => rfl) ⟨by decide +kernel, by decide +kernel, by decide +kernel, by decide +kernel, by decide +kernel, by decide +kernel⟩ (.nil)) (.nil) (.asg rfl lk_sc_fmake_scale (.call lk_sc_fmake_rinv nd_rinv rfl (by exact List.cons_ne_nil _ _) (.cons (.call lk_sc_fmake_qlead nd_qlead rfl (by exact List.cons_ne_nil _ _) (.cons (.var rfl nd_bottom) (fun _ _ => rfl) (.nil))) (fun _ _ => rfl) (.nil))) (fun _ => rfl) (.ret (.tup (.cons (.call lk_sc_fmake_qscale nd_qscale rfl (by exact List.cons_ne_nil _ _) (.cons (.var rfl nd_top) (fun _ _ => rfl) (.cons (.var rfl nd_scale) (fun _ _ => rfl) (.nil)))) (fun _ _ => rfl) (.cons (.call lk_sc_fmake_qscale nd_qscale rfl (by exact List.cons_ne_nil _ _) (.cons (.var rfl nd_bottom) (fun _ _ => rfl) (.cons (.var rfl nd_scale) (fun _ _ => rfl) (.nil)))) (fun _ _ => rfl) (.nil)))) (.nil))))))
theorem er_fnumber (P : Params) : ErB gdT fnT sc_fnumber (bodyAt P 197) ir_fnumber := .ret (.tup (.cons (.ite (.cmp (o := .eq) (.var rfl nd_r) (.glob lk_sc_fnumber_R0 nd_R0 gd_R0) rfl) (.lst (.nil)) (.lst (.cons (.var rfl nd_r) (fun _ _ => rfl) (.nil)))) (fun _ _ => rfl) (.cons (.lst (.cons (.glob lk_sc_fnumber_R1 nd_R1 gd_R1) (fun _ _ => rfl) (.nil))) (fun _ _ => rfl) (.nil)))) (.nil)
theorem er_fadd (P : Params) : ErB gdT fnT sc_fadd (bodyAt P 204) ir_fadd := .ret (.call lk_sc_fadd_fmake nd_fmake rfl (by exact List.cons_ne_nil _ _) (.cons (.call lk_sc_fadd_qadd nd_qadd rfl (by exact List.cons_ne_nil _ _) (.cons (.call lk_sc_fadd_qmul nd_qmul rfl (by exact List.cons_ne_nil _ _) (.cons (.idx (.var rfl nd_f) (.int) (fun _ _ _ => rfl)) (fun _ _ => rfl) (.cons (.idx (.var rfl nd_g) (.int) (fun _ _ _ => rfl)) (fun _ _ => rfl) (.nil)))) (fun _ _ => rfl) (.cons (.call lk_sc_fadd_qmul nd_qmul rfl (by exact List.cons_ne_nil _ _) (.cons (.idx (.var rfl nd_g) (.int) (fun _ _ _ => rfl)) (fun _ _ => rfl) (.cons (.idx (.var rfl nd_f) (.int) (fun _ _ _ => rfl)) (fun _ _ => rfl) (.nil)))) (fun _ _ => rfl) (.nil)))) (fun _ _ => rfl) (.cons (.call lk_sc_fadd_qmul nd_qmul rfl (by exact List.cons_ne_nil _ _) (.cons (.idx (.var rfl nd_f) (.int) (fun _ _ _ => rfl)) (fun _ _ => rfl) (.cons (.idx (.var rfl nd_g) (.int) (fun _ _ _ => rfl)) (fun _ _ => rfl) (.nil)))) (fun _ _ => rfl) (.nil)))) (.nil)
theorem er_fmul (P : Params) : ErB gdT fnT sc_fmul (bodyAt P 211) ir_fmul := .ret (.call lk_sc_fmul_fmake nd_fmake rfl (by exact List.cons_ne_nil _ _) (.cons (.call lk_sc_fmul_qmul nd_qmul rfl (by exact List.cons_ne_nil _ _) (.cons (.idx (.var rfl nd_f) (.int) (fun _ _ _ => rfl)) (fun _ _ => rfl) (.cons (.idx (.var rfl nd_g) (.int) (fun _ _ _ => rfl)) (fun _ _ => rfl) (.nil)))) (fun _ _ => rfl) (.cons (.call lk_sc_fmul_qmul nd_qmul rfl (by exact List.cons_ne_nil _ _) (.cons (.idx (.var rfl nd_f) (.int) (fun _ _ _ => rfl)) (fun _ _ => rfl) (.cons (.idx (.var rfl nd_g) (.int) (fun _ _ _ => rfl)) (fun _ _ => rfl) (.nil)))) (fun _ _ => rfl) (.nil)))) (.nil)
theorem er_finv (P : Params) : ErB gdT fnT sc_finv (bodyAt P 218) ir_finv := .ret (.call lk_sc_finv_fmake nd_fmake rfl (by exact List.cons_ne_nil _ _) (.cons (.idx (.var rfl nd_f) (.int) (fun _ _ _ => rfl)) (fun _ _ => rfl) (.cons (.idx (.var rfl nd_f) (.int) (fun _ _ _ => rfl)) (fun _ _ => rfl) (.nil)))) (.nil)
theorem er_fpower (P : Params) : ErB gdT fnT sc_fpower (bodyAt P 225) ir_fpower := .asgS (names := ["found", "base", "left"]) rfl (by decide +kernel) (.tup (.cons (.glob lk_sc_fpower_F1 nd_F1 gd_F1) (fun _ _ => rfl) (.cons (.ite (.cmp (o := .lt) (.var rfl nd_n) (.int) rfl) (.call lk_sc_fpower_finv nd_finv rfl (by exact List.cons_ne_nil _ _) (.cons (.var rfl nd_f) (fun _ _ => rfl) (.nil))) (.var rfl nd_f)) (fun _ _ => rfl) (.cons (.bi lk_sc_fpower_abs rfl (by exact List.cons_ne_nil _ _) (.cons (.var rfl nd_n) (fun _ _ => rfl) (.nil))) (fun _ _ => rfl) (.nil))))) (fun _ => rfl) ⟨by decide +kernel, by decide +kernel, by decide +kernel, by decide +kernel, by decide +kernel, by decide +kernel⟩ (.whl (.cmp (o := .gt) (.var rfl nd_left) (.int) rfl) (.ite (.cmp (o := .eq) (.bin (o := .fmod) (.var rfl nd_left) (.int)) (.int) rfl) (.asg rfl lk_sc_fpower_found (.call lk_sc_fpower_fmul nd_fmul rfl (by exact List.cons_ne_nil _ _) (.cons (.var rfl nd_found) (fun _ _ => rfl) (.cons (.var rfl nd_base) (fun _ _ => rfl) (.nil)))) (fun _ => rfl) (.nil)) (.nil) (.asgS (names := ["base", "left"]) rfl (by decide +kernel) (.tup (.cons (.ite (.cmp (o := .gt) (.var rfl nd_left) (.int) rfl) (.call lk_sc_fpower_fmul nd_fmul rfl (by exact List.cons_ne_nil _ _) (.cons (.var rfl nd_base) (fun _ _ => rfl) (.cons (.var rfl nd_base) (fun _ _ => rfl) (.nil)))) (.var rfl nd_base)) (fun _ _ => rfl) (.cons (.bin (o := .fdiv) (.var rfl nd_left) (.int)) (fun _ _ => rfl) (.nil)))) (fun _ => rfl) ⟨by decide +kernel, by decide +kernel, by decide +kernel, by decide +kernel, by decide +kernel, by decide +kernel⟩ (.nil))) (.ret (.var rfl nd_found) (.nil)))
theorem er_whole_exponent (P : Params) : ErB gdT fnT sc_whole_exponent (bodyAt P 232) ir_whole_exponent := .ret (.ite (.and (.cons (.cmp (o := .eq) (.idx (.var rfl nd_t) (.int) (fun _ _ _ => rfl)) (.str) rfl) (.cons (.cmp (o := .eq) (.idx (.var rfl nd_t) (.int) (fun _ _ _ => rfl)) (.int) rfl) (.nil)))) (.idx (.var rfl nd_t) (.int) (fun _ _ _ => rfl)) (.none)) (.nil)
theorem cs_sc_far_powerc : CompSc sc_far_power ⟨.function, [(".0", .local), ("r", .local), ("max", .globalImplicit), ("abs", .globalImplicit)], false, false, []⟩ "r" [] [] sc_far_powerc := ⟨by decide +kernel, rfl, by decide +kernel, by decide +kernel, rfl, by decide +kernel, by decide +kernel, rfl, rfl⟩
theorem er_far_power (P : Params) : ErB gdT fnT sc_far_power (bodyAt P 237) ir_far_power := .asg rfl lk_sc_far_power_is_number (.and2 (.cmp (o := .eq) (.bi lk_sc_far_power_max rfl (by exact List.cons_ne_nil _ _) (.cons (.call lk_sc_far_power_qdegree nd_qdegree rfl (by exact List.cons_ne_nil _ _) (.cons (.idx (.var rfl nd_f) (.int) (fun _ _ _ => rfl)) (fun _ _ => rfl) (.nil))) (fun _ _ => rfl) (.cons (.call lk_sc_far_power_qdegree nd_qdegree rfl (by exact List.cons_ne_nil _ _) (.cons (.idx (.var rfl nd_f) (.int) (fun _ _ _ => rfl)) (fun _ _ => rfl) (.nil))) (fun _ _ => rfl) (.nil)))) (.int) rfl) (.cmp (o := .ne) (.idx (.var rfl nd_f) (.int) (fun _ _ _ => rfl)) (.lst (.nil)) rfl)) (fun _ => rfl) (.ite (.val (.var rfl nd_is_number) (fun _ _ => rfl)) (.ret (.call lk_sc_far_power_fnumber nd_fnumber rfl (by exact List.cons_ne_nil _ _) (.cons (.call lk_sc_far_power_rpower nd_rpower rfl (by exact List.cons_ne_nil _ _) (.cons (.call lk_sc_far_power_rdiv nd_rdiv rfl (by exact List.cons_ne_nil _ _) (.cons (.idx (.idx (.var rfl nd_f) (.int) (fun _ _ _ => rfl)) (.int) (fun _ _ _ => rfl)) (fun _ _ => rfl) (.cons (.idx (.idx (.var rfl nd_f) (.int) (fun _ _ _ => rfl)) (.int) (fun _ _ _ => rfl)) (fun _ _ => rfl) (.nil)))) (fun _ _ => rfl) (.cons (.var rfl nd_n) (fun _ _ => rfl) (.nil)))) (fun _ _ => rfl) (.nil))) (.nil)) (.nil) (.ite (.cmp (o := .eq) (.idx (.var rfl nd_f) (.int) (fun _ _ _ => rfl)) (.lst (.nil)) rfl) (.ret (.call lk_sc_far_power_fpower nd_fpower rfl (by exact List.cons_ne_nil _ _) (.cons (.var rfl nd_f) (fun _ _ => rfl) (.cons (.var rfl nd_n) (fun _ _ => rfl) (.nil)))) (.nil)) (.nil) (.asg rfl lk_sc_far_power_bits (.call lk_sc_far_power_bits_of nd_bits_of rfl (by exact List.cons_ne_nil _ _) (.cons (.bi lk_sc_far_power_max rfl (by exact List.cons_ne_nil _ _) (.cons (.comp (z' := sc_far_powerc) (.bin (o := .add) (.idx (.var rfl nd_f) (.int) (fun _ _ _ => rfl)) (.idx (.var rfl nd_f) (.int) (fun _ _ _ => rfl))) (cs_sc_far_powerc) (fun _ _ => rfl) (.bi lk_sc_far_powerc_max rfl (by exact List.cons_ne_nil _ _) (.cons (.bi lk_sc_far_powerc_abs rfl (by exact List.cons_ne_nil _ _) (.cons (.idx (.var rfl nd_r) (.int) (fun _ _ _ => rfl)) (fun _ _ => rfl) (.nil))) (fun _ _ => rfl) (.cons (.idx (.var rfl nd_r) (.int) (fun _ _ _ => rfl)) (fun _ _ => rfl) (.nil))))) (fun _ _ => rfl) (.nil))) (fun _ _ => rfl) (.nil))) (fun _ => rfl) (.asg rfl lk_sc_far_power_far (.bin (o := .mul) (.bi lk_sc_far_power_abs rfl (by exact List.cons_ne_nil _ _) (.cons (.var rfl nd_n) (fun _ _ => rfl) (.nil))) (.bi lk_sc_far_power_max rfl (by exact List.cons_ne_nil _ _) (.cons (.call lk_sc_far_power_qdegree nd_qdegree rfl (by exact List.cons_ne_nil _ _) (.cons (.idx (.var rfl nd_f) (.int) (fun _ _ _ => rfl)) (fun _ _ => rfl) (.nil))) (fun _ _ => rfl) (.cons (.call lk_sc_far_power_qdegree nd_qdegree rfl (by exact List.cons_ne_nil _ _) (.cons (.idx (.var rfl nd_f) (.int) (fun _ _ _ => rfl)) (fun _ _ => rfl) (.nil))) (fun _ _ => rfl) (.nil))))) (fun _ => rfl) (.ite (.and (.cons (.cmp (o := .gt) (.bi lk_sc_far_power_abs rfl (by exact List.cons_ne_nil _ _) (.cons (.var rfl nd_n) (fun _ _ => rfl) (.nil))) (.int) rfl) (.cons (.or (.cons (.cmp (o := .gt) (.var rfl nd_far) (.glob lk_sc_far_power_MOST_POWER nd_MOST_POWER gd_MOST_POWER) rfl) (.cons (.cmp (o := .gt) (.bin (o := .mul) (.bi lk_sc_far_power_abs rfl (by exact List.cons_ne_nil _ _) (.cons (.var rfl nd_n) (fun _ _ => rfl) (.nil))) (.var rfl nd_bits)) (.glob lk_sc_far_power_MOST_BITS nd_MOST_BITS gd_MOST_BITS) rfl) (.nil)))) (.nil)))) (.rais lk_sc_far_power_CasFail (.nil)) (.nil) (.ret (.call lk_sc_far_power_fpower nd_fpower rfl (by exact List.cons_ne_nil _ _) (.cons (.var rfl nd_f) (fun _ _ => rfl) (.cons (.var rfl nd_n) (fun _ _ => rfl) (.nil)))) (.nil)))))))
theorem cs_sc_is_rationalc : CompSc sc_is_rational ⟨.function, [(".0", .local), ("part", .local), ("is_rational", .globalImplicit), ("name", .free)], false, false, []⟩ "part" [1] ["name"] sc_is_rationalc := ⟨by decide +kernel, rfl, by decide +kernel, by decide +kernel, rfl, by decide +kernel, by decide +kernel, rfl, rfl⟩
theorem er_is_rational (P : Params) : ErB gdT fnT sc_is_rational (bodyAt P 242) ir_is_rational := .ite (.cmp (o := .eq) (.idx (.var rfl nd_t) (.int) (fun _ _ _ => rfl)) (.str) rfl) (.ret (.bool) (.nil)) (.nil) (.ite (.cmp (o := .eq) (.idx (.var rfl nd_t) (.int) (fun _ _ _ => rfl)) (.str) rfl) (.ret (.cmp (o := .eq) (.idx (.var rfl nd_t) (.int) (fun _ _ _ => rfl)) (.var rfl nd_name) rfl) (.nil)) (.nil) (.ite (.cmp (o := .eq) (.idx (.var rfl nd_t) (.int) (fun _ _ _ => rfl)) (.str) rfl) (.ret (.and2 (.notN (.call lk_sc_is_rational_whole_exponent nd_whole_exponent rfl (by exact List.cons_ne_nil _ _) (.cons (.idx (.var rfl nd_t) (.int) (fun _ _ _ => rfl)) (fun _ _ => rfl) (.nil)))) (.call lk_sc_is_rational_is_rational nd_is_rational rfl (by exact List.cons_ne_nil _ _) (.cons (.idx (.var rfl nd_t) (.int) (fun _ _ _ => rfl)) (fun _ _ => rfl) (.cons (.var rfl nd_name) (fun _ _ => rfl) (.nil))))) (.nil)) (.nil) (.ret (.and2 (.cmp (o := .inn) (.idx (.var rfl nd_t) (.int) (fun _ _ _ => rfl)) (.tup (.cons (.str) (fun _ _ => rfl) (.cons (.str) (fun _ _ => rfl) (.nil)))) rfl) (.bi lk_sc_is_rational_all rfl (by exact List.cons_ne_nil _ _) (.cons (.comp (z' := sc_is_rationalc) (.idx (.var rfl nd_t) (.int) (fun _ _ _ => rfl)) (cs_sc_is_rationalc) (fun _ _ => rfl) (.call lk_sc_is_rationalc_is_rational nd_is_rational rfl (by exact List.cons_ne_nil _ _) (.cons (.var rfl nd_part) (fun _ _ => rfl) (.cons (.var rfl nd_name) (fun _ _ => rfl) (.nil))))) (fun _ _ => rfl) (.nil)))) (.nil))))
theorem er_from_term (P : Params) : ErB gdT fnT sc_from_term (bodyAt P 249) ir_from_term := .ret (.ite (.val (.call lk_sc_from_term_is_rational nd_is_rational rfl (by exact List.cons_ne_nil _ _) (.cons (.var rfl nd_t) (fun _ _ => rfl) (.cons (.var rfl nd_name) (fun _ _ => rfl) (.nil)))) (fun _ _ => rfl)) (.call lk_sc_from_term_from_rational nd_from_rational rfl (by exact List.cons_ne_nil _ _) (.cons (.var rfl nd_t) (fun _ _ => rfl) (.cons (.var rfl nd_name) (fun _ _ => rfl) (.nil)))) (.none)) (.nil)
theorem er_from_rational (P : Params) : ErB gdT fnT sc_from_rational (bodyAt P 256) ir_from_rational := .ite (.cmp (o := .eq) (.idx (.var rfl nd_t) (.int) (fun _ _ _ => rfl)) (.str) rfl) (.ret (.call lk_sc_from_rational_fnumber nd_fnumber rfl (by exact List.cons_ne_nil _ _) (.cons (.call lk_sc_from_rational_rat nd_rat rfl (by exact List.cons_ne_nil _ _) (.cons (.idx (.var rfl nd_t) (.int) (fun _ _ _ => rfl)) (fun _ _ => rfl) (.cons (.idx (.var rfl nd_t) (.int) (fun _ _ _ => rfl)) (fun _ _ => rfl) (.nil)))) (fun _ _ => rfl) (.nil))) (.nil)) (.nil) (.ite (.cmp (o := .eq) (.idx (.var rfl nd_t) (.int) (fun _ _ _ => rfl)) (.str) rfl) (.ret (.tup (.cons (.lst (.cons (.glob lk_sc_from_rational_R0 nd_R0 gd_R0) (fun _ _ => rfl) (.cons (.glob lk_sc_from_rational_R1 nd_R1 gd_R1) (fun _ _ => rfl) (.nil)))) (fun _ _ => rfl) (.cons (.lst (.cons (.glob lk_sc_from_rational_R1 nd_R1 gd_R1) (fun _ _ => rfl) (.nil))) (fun _ _ => rfl) (.nil)))) (.nil)) (.nil) (.ite (.cmp (o := .eq) (.idx (.var rfl nd_t) (.int) (fun _ _ _ => rfl)) (.str) rfl) (.asgS (names := ["base", "n"]) rfl (by decide +kernel) (.tup (.cons (.call lk_sc_from_rational_from_rational nd_from_rational rfl (by exact List.cons_ne_nil _ _) (.cons (.idx (.var rfl nd_t) (.int) (fun _ _ _ => rfl)) (fun _ _ => rfl) (.cons (.var rfl nd_name) (fun _ _ => rfl) (.nil)))) (fun _ _ => rfl) (.cons (.call lk_sc_from_rational_whole_exponent nd_whole_exponent rfl (by exact List.cons_ne_nil _ _) (.cons (.idx (.var rfl nd_t) (.int) (fun _ _ _ => rfl)) (fun _ _ => rfl) (.nil))) (fun _ _ => rfl) (.nil)))) (fun _ => rfl) ⟨by decide +kernel, by decide +kernel, by decide +kernel, by decide +kernel, by decide +kernel, by decide +kernel⟩ (.ret (.ite (.or (.cons (.isN (.var rfl nd_base)) (.cons (.and (.cons (.cmp (o := .lt) (.var rfl nd_n) (.int) rfl) (.cons (.cmp (o := .eq) (.idx (.var rfl nd_base) (.int) (fun _ _ _ => rfl)) (.lst (.nil)) rfl) (.nil)))) (.nil)))) (.none) (.call lk_sc_from_rational_far_power nd_far_power rfl (by exact List.cons_ne_nil _ _) (.cons (.var rfl nd_base) (fun _ _ => rfl) (.cons (.var rfl nd_n) (fun _ _ => rfl) (.nil))))) (.nil))) (.nil) (.asg rfl lk_sc_from_rational_found (.ite (.cmp (o := .eq) (.idx (.var rfl nd_t) (.int) (fun _ _ _ => rfl)) (.str) rfl) (.glob lk_sc_from_rational_F0 nd_F0 gd_F0) (.glob lk_sc_from_rational_F1 nd_F1 gd_F1)) (fun _ => rfl) (.forT rfl lk_sc_from_rational_part (fun _ _ => rfl) (.idx (.var rfl nd_t) (.int) (fun _ _ _ => rfl)) (.asg rfl lk_sc_from_rational_one (.call lk_sc_from_rational_from_rational nd_from_rational rfl (by exact List.cons_ne_nil _ _) (.cons (.var rfl nd_part) (fun _ _ => rfl) (.cons (.var rfl nd_name) (fun _ _ => rfl) (.nil)))) (fun _ => rfl) (.ite (.isN (.var rfl nd_one)) (.ret (.none) (.nil)) (.nil) (.asg rfl lk_sc_from_rational_found (.ite (.cmp (o := .eq) (.idx (.var rfl nd_t) (.int) (fun _ _ _ => rfl)) (.str) rfl) (.call lk_sc_from_rational_fadd nd_fadd rfl (by exact List.cons_ne_nil _ _) (.cons (.var rfl nd_found) (fun _ _ => rfl) (.cons (.var rfl nd_one) (fun _ _ => rfl) (.nil)))) (.call lk_sc_from_rational_fmul nd_fmul rfl (by exact List.cons_ne_nil _ _) (.cons (.var rfl nd_found) (fun _ _ => rfl) (.cons (.var rfl nd_one) (fun _ _ => rfl) (.nil))))) (fun _ => rfl) (.nil)))) (.ret (.var rfl nd_found) (.nil))))))
end Mine
namespace Mine
open PySem PySem.Spec PySem.Calls PyProof.Rows
theorem bind_one {fd : FuncData} {x : Str} {an : Option Expr} {p : Pos} {v : Value} (hp : fd.params = ⟨[], [⟨x, an, p⟩], none, [], [], none, []⟩) (hd : fd.defaults = .none) : bindArgs fd ⟨[v], []⟩ = pure [(x, v)] := by
  unfold bindArgs
  rw [hp, hd]
  have e1 : List.lookup x [(x, v)] = some v := by simp [List.lookup]
  simp [e1, seqItems?]
  rfl
theorem bind_two {fd : FuncData} {x y : Str} {an an' : Option Expr} {p p' : Pos} {v u : Value} (hp : fd.params = ⟨[], [⟨x, an, p⟩, ⟨y, an', p'⟩], none, [], [], none, []⟩) (hd : fd.defaults = .none) (hxy : (y == x) = false) : bindArgs fd ⟨[v, u], []⟩ = pure [(x, v), (y, u)] := by
  unfold bindArgs
  rw [hp, hd]
  have e1 : List.lookup x [(x, v), (y, u)] = some v := by simp [List.lookup]
  have e2 : List.lookup y [(x, v), (y, u)] = some u := by simp [List.lookup, hxy]
  simp [e1, e2, seqItems?]
  rfl
theorem fd_gcd (P : Params) : FdOk (fdAt P 41) (bodyAt P 41) sc_gcd 2 := ⟨rfl, rfl, rfl, rfl, rfl, rfl, rfl, rfl, by decide +kernel, by decide +kernel, by decide +kernel, fun vs h => by match vs, h with | [v0, v1], _ => exact bind_two rfl rfl (by decide +kernel)⟩
theorem fd_bits_of (P : Params) : FdOk (fdAt P 48) (bodyAt P 48) sc_bits_of 1 := ⟨rfl, rfl, rfl, rfl, rfl, rfl, rfl, rfl, by decide +kernel, by decide +kernel, by decide +kernel, fun vs h => by match vs, h with | [v0], _ => exact bind_one rfl rfl⟩
theorem fd_rat (P : Params) : FdOk (fdAt P 57) (bodyAt P 57) sc_rat 2 := ⟨rfl, rfl, rfl, rfl, rfl, rfl, rfl, rfl, by decide +kernel, by decide +kernel, by decide +kernel, fun vs h => by match vs, h with | [v0, v1], _ => exact bind_two rfl rfl (by decide +kernel)⟩
theorem fd_radd (P : Params) : FdOk (fdAt P 64) (bodyAt P 64) sc_radd 2 := ⟨rfl, rfl, rfl, rfl, rfl, rfl, rfl, rfl, by decide +kernel, by decide +kernel, by decide +kernel, fun vs h => by match vs, h with | [v0, v1], _ => exact bind_two rfl rfl (by decide +kernel)⟩
theorem fd_rmul (P : Params) : FdOk (fdAt P 71) (bodyAt P 71) sc_rmul 2 := ⟨rfl, rfl, rfl, rfl, rfl, rfl, rfl, rfl, by decide +kernel, by decide +kernel, by decide +kernel, fun vs h => by match vs, h with | [v0, v1], _ => exact bind_two rfl rfl (by decide +kernel)⟩
theorem fd_rdiv (P : Params) : FdOk (fdAt P 78) (bodyAt P 78) sc_rdiv 2 := ⟨rfl, rfl, rfl, rfl, rfl, rfl, rfl, rfl, by decide +kernel, by decide +kernel, by decide +kernel, fun vs h => by match vs, h with | [v0, v1], _ => exact bind_two rfl rfl (by decide +kernel)⟩
theorem fd_rneg (P : Params) : FdOk (fdAt P 85) (bodyAt P 85) sc_rneg 1 := ⟨rfl, rfl, rfl, rfl, rfl, rfl, rfl, rfl, by decide +kernel, by decide +kernel, by decide +kernel, fun vs h => by match vs, h with | [v0], _ => exact bind_one rfl rfl⟩
theorem fd_rinv (P : Params) : FdOk (fdAt P 92) (bodyAt P 92) sc_rinv 1 := ⟨rfl, rfl, rfl, rfl, rfl, rfl, rfl, rfl, by decide +kernel, by decide +kernel, by decide +kernel, fun vs h => by match vs, h with | [v0], _ => exact bind_one rfl rfl⟩
theorem fd_rpower (P : Params) : FdOk (fdAt P 99) (bodyAt P 99) sc_rpower 2 := ⟨rfl, rfl, rfl, rfl, rfl, rfl, rfl, rfl, by decide +kernel, by decide +kernel, by decide +kernel, fun vs h => by match vs, h with | [v0, v1], _ => exact bind_two rfl rfl (by decide +kernel)⟩
theorem fd_qtrim (P : Params) : FdOk (fdAt P 106) (bodyAt P 106) sc_qtrim 1 := ⟨rfl, rfl, rfl, rfl, rfl, rfl, rfl, rfl, by decide +kernel, by decide +kernel, by decide +kernel, fun vs h => by match vs, h with | [v0], _ => exact bind_one rfl rfl⟩
theorem fd_qdegree (P : Params) : FdOk (fdAt P 113) (bodyAt P 113) sc_qdegree 1 := ⟨rfl, rfl, rfl, rfl, rfl, rfl, rfl, rfl, by decide +kernel, by decide +kernel, by decide +kernel, fun vs h => by match vs, h with | [v0], _ => exact bind_one rfl rfl⟩
theorem fd_qlead (P : Params) : FdOk (fdAt P 120) (bodyAt P 120) sc_qlead 1 := ⟨rfl, rfl, rfl, rfl, rfl, rfl, rfl, rfl, by decide +kernel, by decide +kernel, by decide +kernel, fun vs h => by match vs, h with | [v0], _ => exact bind_one rfl rfl⟩
theorem fd_qadd (P : Params) : FdOk (fdAt P 125) (bodyAt P 125) sc_qadd 2 := ⟨rfl, rfl, rfl, rfl, rfl, rfl, rfl, rfl, by decide +kernel, by decide +kernel, by decide +kernel, fun vs h => by match vs, h with | [v0, v1], _ => exact bind_two rfl rfl (by decide +kernel)⟩
theorem fd_qneg (P : Params) : FdOk (fdAt P 130) (bodyAt P 130) sc_qneg 1 := ⟨rfl, rfl, rfl, rfl, rfl, rfl, rfl, rfl, by decide +kernel, by decide +kernel, by decide +kernel, fun vs h => by match vs, h with | [v0], _ => exact bind_one rfl rfl⟩
theorem fd_qsub (P : Params) : FdOk (fdAt P 137) (bodyAt P 137) sc_qsub 2 := ⟨rfl, rfl, rfl, rfl, rfl, rfl, rfl, rfl, by decide +kernel, by decide +kernel, by decide +kernel, fun vs h => by match vs, h with | [v0, v1], _ => exact bind_two rfl rfl (by decide +kernel)⟩
theorem fd_qscale (P : Params) : FdOk (fdAt P 142) (bodyAt P 142) sc_qscale 2 := ⟨rfl, rfl, rfl, rfl, rfl, rfl, rfl, rfl, by decide +kernel, by decide +kernel, by decide +kernel, fun vs h => by match vs, h with | [v0, v1], _ => exact bind_two rfl rfl (by decide +kernel)⟩
theorem fd_qraise (P : Params) : FdOk (fdAt P 149) (bodyAt P 149) sc_qraise 2 := ⟨rfl, rfl, rfl, rfl, rfl, rfl, rfl, rfl, by decide +kernel, by decide +kernel, by decide +kernel, fun vs h => by match vs, h with | [v0, v1], _ => exact bind_two rfl rfl (by decide +kernel)⟩
theorem fd_qmul (P : Params) : FdOk (fdAt P 156) (bodyAt P 156) sc_qmul 2 := ⟨rfl, rfl, rfl, rfl, rfl, rfl, rfl, rfl, by decide +kernel, by decide +kernel, by decide +kernel, fun vs h => by match vs, h with | [v0, v1], _ => exact bind_two rfl rfl (by decide +kernel)⟩
theorem fd_qdivmod (P : Params) : FdOk (fdAt P 163) (bodyAt P 163) sc_qdivmod 2 := ⟨rfl, rfl, rfl, rfl, rfl, rfl, rfl, rfl, by decide +kernel, by decide +kernel, by decide +kernel, fun vs h => by match vs, h with | [v0, v1], _ => exact bind_two rfl rfl (by decide +kernel)⟩
theorem fd_qmonic (P : Params) : FdOk (fdAt P 170) (bodyAt P 170) sc_qmonic 1 := ⟨rfl, rfl, rfl, rfl, rfl, rfl, rfl, rfl, by decide +kernel, by decide +kernel, by decide +kernel, fun vs h => by match vs, h with | [v0], _ => exact bind_one rfl rfl⟩
theorem fd_qgcd (P : Params) : FdOk (fdAt P 177) (bodyAt P 177) sc_qgcd 2 := ⟨rfl, rfl, rfl, rfl, rfl, rfl, rfl, rfl, by decide +kernel, by decide +kernel, by decide +kernel, fun vs h => by match vs, h with | [v0, v1], _ => exact bind_two rfl rfl (by decide +kernel)⟩
theorem fd_fmake (P : Params) : FdOk (fdAt P 190) (bodyAt P 190) sc_fmake 2 := ⟨rfl, rfl, rfl, rfl, rfl, rfl, rfl, rfl, by decide +kernel, by decide +kernel, by decide +kernel, fun vs h => by match vs, h with | [v0, v1], _ => exact bind_two rfl rfl (by decide +kernel)⟩
theorem fd_fnumber (P : Params) : FdOk (fdAt P 197) (bodyAt P 197) sc_fnumber 1 := ⟨rfl, rfl, rfl, rfl, rfl, rfl, rfl, rfl, by decide +kernel, by decide +kernel, by decide +kernel, fun vs h => by match vs, h with | [v0], _ => exact bind_one rfl rfl⟩
theorem fd_fadd (P : Params) : FdOk (fdAt P 204) (bodyAt P 204) sc_fadd 2 := ⟨rfl, rfl, rfl, rfl, rfl, rfl, rfl, rfl, by decide +kernel, by decide +kernel, by decide +kernel, fun vs h => by match vs, h with | [v0, v1], _ => exact bind_two rfl rfl (by decide +kernel)⟩
theorem fd_fmul (P : Params) : FdOk (fdAt P 211) (bodyAt P 211) sc_fmul 2 := ⟨rfl, rfl, rfl, rfl, rfl, rfl, rfl, rfl, by decide +kernel, by decide +kernel, by decide +kernel, fun vs h => by match vs, h with | [v0, v1], _ => exact bind_two rfl rfl (by decide +kernel)⟩
theorem fd_finv (P : Params) : FdOk (fdAt P 218) (bodyAt P 218) sc_finv 1 := ⟨rfl, rfl, rfl, rfl, rfl, rfl, rfl, rfl, by decide +kernel, by decide +kernel, by decide +kernel, fun vs h => by match vs, h with | [v0], _ => exact bind_one rfl rfl⟩
theorem fd_fpower (P : Params) : FdOk (fdAt P 225) (bodyAt P 225) sc_fpower 2 := ⟨rfl, rfl, rfl, rfl, rfl, rfl, rfl, rfl, by decide +kernel, by decide +kernel, by decide +kernel, fun vs h => by match vs, h with | [v0, v1], _ => exact bind_two rfl rfl (by decide +kernel)⟩
theorem fd_whole_exponent (P : Params) : FdOk (fdAt P 232) (bodyAt P 232) sc_whole_exponent 1 := ⟨rfl, rfl, rfl, rfl, rfl, rfl, rfl, rfl, by decide +kernel, by decide +kernel, by decide +kernel, fun vs h => by match vs, h with | [v0], _ => exact bind_one rfl rfl⟩
theorem fd_far_power (P : Params) : FdOk (fdAt P 237) (bodyAt P 237) sc_far_power 2 := ⟨rfl, rfl, rfl, rfl, rfl, rfl, rfl, rfl, by decide +kernel, by decide +kernel, by decide +kernel, fun vs h => by match vs, h with | [v0, v1], _ => exact bind_two rfl rfl (by decide +kernel)⟩
theorem fd_is_rational (P : Params) : FdOk (fdAt P 242) (bodyAt P 242) sc_is_rational 2 := ⟨rfl, rfl, rfl, rfl, rfl, rfl, rfl, rfl, by decide +kernel, by decide +kernel, by decide +kernel, fun vs h => by match vs, h with | [v0, v1], _ => exact bind_two rfl rfl (by decide +kernel)⟩
theorem fd_from_term (P : Params) : FdOk (fdAt P 249) (bodyAt P 249) sc_from_term 2 := ⟨rfl, rfl, rfl, rfl, rfl, rfl, rfl, rfl, by decide +kernel, by decide +kernel, by decide +kernel, fun vs h => by match vs, h with | [v0, v1], _ => exact bind_two rfl rfl (by decide +kernel)⟩
theorem fd_from_rational (P : Params) : FdOk (fdAt P 256) (bodyAt P 256) sc_from_rational 2 := ⟨rfl, rfl, rfl, rfl, rfl, rfl, rfl, rfl, by decide +kernel, by decide +kernel, by decide +kernel, fun vs h => by match vs, h with | [v0, v1], _ => exact bind_two rfl rfl (by decide +kernel)⟩
noncomputable def ftT (P : Params) : Nat → Option Fi
  | 0 => some ⟨41, "gcd", fdAt P 41, bodyAt P 41⟩
  | 1 => some ⟨48, "bits_of", fdAt P 48, bodyAt P 48⟩
  | 2 => some ⟨57, "rat", fdAt P 57, bodyAt P 57⟩
  | 3 => some ⟨64, "radd", fdAt P 64, bodyAt P 64⟩
  | 4 => some ⟨71, "rmul", fdAt P 71, bodyAt P 71⟩
  | 5 => some ⟨78, "rdiv", fdAt P 78, bodyAt P 78⟩
  | 6 => some ⟨85, "rneg", fdAt P 85, bodyAt P 85⟩
  | 7 => some ⟨92, "rinv", fdAt P 92, bodyAt P 92⟩
  | 8 => some ⟨99, "rpower", fdAt P 99, bodyAt P 99⟩
  | 9 => some ⟨106, "qtrim", fdAt P 106, bodyAt P 106⟩
  | 10 => some ⟨113, "qdegree", fdAt P 113, bodyAt P 113⟩
  | 11 => some ⟨120, "qlead", fdAt P 120, bodyAt P 120⟩
  | 12 => some ⟨125, "qadd", fdAt P 125, bodyAt P 125⟩
  | 13 => some ⟨130, "qneg", fdAt P 130, bodyAt P 130⟩
  | 14 => some ⟨137, "qsub", fdAt P 137, bodyAt P 137⟩
  | 15 => some ⟨142, "qscale", fdAt P 142, bodyAt P 142⟩
  | 16 => some ⟨149, "qraise", fdAt P 149, bodyAt P 149⟩
  | 17 => some ⟨156, "qmul", fdAt P 156, bodyAt P 156⟩
  | 18 => some ⟨163, "qdivmod", fdAt P 163, bodyAt P 163⟩
  | 19 => some ⟨170, "qmonic", fdAt P 170, bodyAt P 170⟩
  | 20 => some ⟨177, "qgcd", fdAt P 177, bodyAt P 177⟩
  | 21 => some ⟨190, "fmake", fdAt P 190, bodyAt P 190⟩
  | 22 => some ⟨197, "fnumber", fdAt P 197, bodyAt P 197⟩
  | 23 => some ⟨204, "fadd", fdAt P 204, bodyAt P 204⟩
  | 24 => some ⟨211, "fmul", fdAt P 211, bodyAt P 211⟩
  | 25 => some ⟨218, "finv", fdAt P 218, bodyAt P 218⟩
  | 26 => some ⟨225, "fpower", fdAt P 225, bodyAt P 225⟩
  | 27 => some ⟨232, "whole_exponent", fdAt P 232, bodyAt P 232⟩
  | 28 => some ⟨237, "far_power", fdAt P 237, bodyAt P 237⟩
  | 29 => some ⟨242, "is_rational", fdAt P 242, bodyAt P 242⟩
  | 30 => some ⟨249, "from_term", fdAt P 249, bodyAt P 249⟩
  | 31 => some ⟨256, "from_rational", fdAt P 256, bodyAt P 256⟩
  | _ => none
noncomputable def scT : Nat → Option Sc
  | 0 => some sc_gcd
  | 1 => some sc_bits_of
  | 2 => some sc_rat
  | 3 => some sc_radd
  | 4 => some sc_rmul
  | 5 => some sc_rdiv
  | 6 => some sc_rneg
  | 7 => some sc_rinv
  | 8 => some sc_rpower
  | 9 => some sc_qtrim
  | 10 => some sc_qdegree
  | 11 => some sc_qlead
  | 12 => some sc_qadd
  | 13 => some sc_qneg
  | 14 => some sc_qsub
  | 15 => some sc_qscale
  | 16 => some sc_qraise
  | 17 => some sc_qmul
  | 18 => some sc_qdivmod
  | 19 => some sc_qmonic
  | 20 => some sc_qgcd
  | 21 => some sc_fmake
  | 22 => some sc_fnumber
  | 23 => some sc_fadd
  | 24 => some sc_fmul
  | 25 => some sc_finv
  | 26 => some sc_fpower
  | 27 => some sc_whole_exponent
  | 28 => some sc_far_power
  | 29 => some sc_is_rational
  | 30 => some sc_from_term
  | 31 => some sc_from_rational
  | _ => none
end Mine
namespace Mine
open PySem PySem.Spec PySem.Calls PyProof.Rows PySem.W

structure FnOk (P : Params) (h0 : Heap) (mg : Str → Option Value) (a : Addr) (x : Str) : Prop where
  n : mg x = some (.ref a)
  o : ∃ o, h0.get? a = some o ∧ o.data = .func (fdAt P a)
  c : h0.CodeRec (fdAt P a).code (fdAt P a).qualname
section
variable {P : Params} {h0 : Heap} {mg mb : Str → Option Value}
theorem fn_gcd (K : (hd.heap_1 P).In h0) (g : h0.Ns mainGlobals mg) : FnOk P h0 mg 41 "gcd" := ⟨mg_of K g (by rfl), ⟨_, K _ _ rfl, rfl⟩, codeRec_of K (by rfl)⟩
theorem fn_bits_of (K : (hd.heap_1 P).In h0) (g : h0.Ns mainGlobals mg) : FnOk P h0 mg 48 "bits_of" := ⟨mg_of K g (by rfl), ⟨_, K _ _ rfl, rfl⟩, codeRec_of K (by rfl)⟩
theorem fn_rat (K : (hd.heap_1 P).In h0) (g : h0.Ns mainGlobals mg) : FnOk P h0 mg 57 "rat" := ⟨mg_of K g (by rfl), ⟨_, K _ _ rfl, rfl⟩, codeRec_of K (by rfl)⟩
theorem fn_radd (K : (hd.heap_1 P).In h0) (g : h0.Ns mainGlobals mg) : FnOk P h0 mg 64 "radd" := ⟨mg_of K g (by rfl), ⟨_, K _ _ rfl, rfl⟩, codeRec_of K (by rfl)⟩
theorem fn_rmul (K : (hd.heap_1 P).In h0) (g : h0.Ns mainGlobals mg) : FnOk P h0 mg 71 "rmul" := ⟨mg_of K g (by rfl), ⟨_, K _ _ rfl, rfl⟩, codeRec_of K (by rfl)⟩
theorem fn_rdiv (K : (hd.heap_1 P).In h0) (g : h0.Ns mainGlobals mg) : FnOk P h0 mg 78 "rdiv" := ⟨mg_of K g (by rfl), ⟨_, K _ _ rfl, rfl⟩, codeRec_of K (by rfl)⟩
theorem fn_rneg (K : (hd.heap_1 P).In h0) (g : h0.Ns mainGlobals mg) : FnOk P h0 mg 85 "rneg" := ⟨mg_of K g (by rfl), ⟨_, K _ _ rfl, rfl⟩, codeRec_of K (by rfl)⟩
theorem fn_rinv (K : (hd.heap_1 P).In h0) (g : h0.Ns mainGlobals mg) : FnOk P h0 mg 92 "rinv" := ⟨mg_of K g (by rfl), ⟨_, K _ _ rfl, rfl⟩, codeRec_of K (by rfl)⟩
theorem fn_rpower (K : (hd.heap_1 P).In h0) (g : h0.Ns mainGlobals mg) : FnOk P h0 mg 99 "rpower" := ⟨mg_of K g (by rfl), ⟨_, K _ _ rfl, rfl⟩, codeRec_of K (by rfl)⟩
theorem fn_qtrim (K : (hd.heap_1 P).In h0) (g : h0.Ns mainGlobals mg) : FnOk P h0 mg 106 "qtrim" := ⟨mg_of K g (by rfl), ⟨_, K _ _ rfl, rfl⟩, codeRec_of K (by rfl)⟩
theorem fn_qdegree (K : (hd.heap_1 P).In h0) (g : h0.Ns mainGlobals mg) : FnOk P h0 mg 113 "qdegree" := ⟨mg_of K g (by rfl), ⟨_, K _ _ rfl, rfl⟩, codeRec_of K (by rfl)⟩
theorem fn_qlead (K : (hd.heap_1 P).In h0) (g : h0.Ns mainGlobals mg) : FnOk P h0 mg 120 "qlead" := ⟨mg_of K g (by rfl), ⟨_, K _ _ rfl, rfl⟩, codeRec_of K (by rfl)⟩
theorem fn_qadd (K : (hd.heap_1 P).In h0) (g : h0.Ns mainGlobals mg) : FnOk P h0 mg 125 "qadd" := ⟨mg_of K g (by rfl), ⟨_, K _ _ rfl, rfl⟩, codeRec_of K (by rfl)⟩
theorem fn_qneg (K : (hd.heap_1 P).In h0) (g : h0.Ns mainGlobals mg) : FnOk P h0 mg 130 "qneg" := ⟨mg_of K g (by rfl), ⟨_, K _ _ rfl, rfl⟩, codeRec_of K (by rfl)⟩
theorem fn_qsub (K : (hd.heap_1 P).In h0) (g : h0.Ns mainGlobals mg) : FnOk P h0 mg 137 "qsub" := ⟨mg_of K g (by rfl), ⟨_, K _ _ rfl, rfl⟩, codeRec_of K (by rfl)⟩
theorem fn_qscale (K : (hd.heap_1 P).In h0) (g : h0.Ns mainGlobals mg) : FnOk P h0 mg 142 "qscale" := ⟨mg_of K g (by rfl), ⟨_, K _ _ rfl, rfl⟩, codeRec_of K (by rfl)⟩
theorem fn_qraise (K : (hd.heap_1 P).In h0) (g : h0.Ns mainGlobals mg) : FnOk P h0 mg 149 "qraise" := ⟨mg_of K g (by rfl), ⟨_, K _ _ rfl, rfl⟩, codeRec_of K (by rfl)⟩
theorem fn_qmul (K : (hd.heap_1 P).In h0) (g : h0.Ns mainGlobals mg) : FnOk P h0 mg 156 "qmul" := ⟨mg_of K g (by rfl), ⟨_, K _ _ rfl, rfl⟩, codeRec_of K (by rfl)⟩
theorem fn_qdivmod (K : (hd.heap_1 P).In h0) (g : h0.Ns mainGlobals mg) : FnOk P h0 mg 163 "qdivmod" := ⟨mg_of K g (by rfl), ⟨_, K _ _ rfl, rfl⟩, codeRec_of K (by rfl)⟩
theorem fn_qmonic (K : (hd.heap_1 P).In h0) (g : h0.Ns mainGlobals mg) : FnOk P h0 mg 170 "qmonic" := ⟨mg_of K g (by rfl), ⟨_, K _ _ rfl, rfl⟩, codeRec_of K (by rfl)⟩
theorem fn_qgcd (K : (hd.heap_1 P).In h0) (g : h0.Ns mainGlobals mg) : FnOk P h0 mg 177 "qgcd" := ⟨mg_of K g (by rfl), ⟨_, K _ _ rfl, rfl⟩, codeRec_of K (by rfl)⟩
theorem fn_fmake (K : (hd.heap_1 P).In h0) (g : h0.Ns mainGlobals mg) : FnOk P h0 mg 190 "fmake" := ⟨mg_of K g (by rfl), ⟨_, K _ _ rfl, rfl⟩, codeRec_of K (by rfl)⟩
theorem fn_fnumber (K : (hd.heap_1 P).In h0) (g : h0.Ns mainGlobals mg) : FnOk P h0 mg 197 "fnumber" := ⟨mg_of K g (by rfl), ⟨_, K _ _ rfl, rfl⟩, codeRec_of K (by rfl)⟩
theorem fn_fadd (K : (hd.heap_1 P).In h0) (g : h0.Ns mainGlobals mg) : FnOk P h0 mg 204 "fadd" := ⟨mg_of K g (by rfl), ⟨_, K _ _ rfl, rfl⟩, codeRec_of K (by rfl)⟩
theorem fn_fmul (K : (hd.heap_1 P).In h0) (g : h0.Ns mainGlobals mg) : FnOk P h0 mg 211 "fmul" := ⟨mg_of K g (by rfl), ⟨_, K _ _ rfl, rfl⟩, codeRec_of K (by rfl)⟩
theorem fn_finv (K : (hd.heap_1 P).In h0) (g : h0.Ns mainGlobals mg) : FnOk P h0 mg 218 "finv" := ⟨mg_of K g (by rfl), ⟨_, K _ _ rfl, rfl⟩, codeRec_of K (by rfl)⟩
theorem fn_fpower (K : (hd.heap_1 P).In h0) (g : h0.Ns mainGlobals mg) : FnOk P h0 mg 225 "fpower" := ⟨mg_of K g (by rfl), ⟨_, K _ _ rfl, rfl⟩, codeRec_of K (by rfl)⟩
theorem fn_whole_exponent (K : (hd.heap_1 P).In h0) (g : h0.Ns mainGlobals mg) : FnOk P h0 mg 232 "whole_exponent" := ⟨mg_of K g (by rfl), ⟨_, K _ _ rfl, rfl⟩, codeRec_of K (by rfl)⟩
theorem fn_far_power (K : (hd.heap_1 P).In h0) (g : h0.Ns mainGlobals mg) : FnOk P h0 mg 237 "far_power" := ⟨mg_of K g (by rfl), ⟨_, K _ _ rfl, rfl⟩, codeRec_of K (by rfl)⟩
theorem fn_is_rational (K : (hd.heap_1 P).In h0) (g : h0.Ns mainGlobals mg) : FnOk P h0 mg 242 "is_rational" := ⟨mg_of K g (by rfl), ⟨_, K _ _ rfl, rfl⟩, codeRec_of K (by rfl)⟩
theorem fn_from_term (K : (hd.heap_1 P).In h0) (g : h0.Ns mainGlobals mg) : FnOk P h0 mg 249 "from_term" := ⟨mg_of K g (by rfl), ⟨_, K _ _ rfl, rfl⟩, codeRec_of K (by rfl)⟩
theorem fn_from_rational (K : (hd.heap_1 P).In h0) (g : h0.Ns mainGlobals mg) : FnOk P h0 mg 256 "from_rational" := ⟨mg_of K g (by rfl), ⟨_, K _ _ rfl, rfl⟩, codeRec_of K (by rfl)⟩
theorem fn_all (K : (hd.heap_1 P).In h0) (g : h0.Ns mainGlobals mg) : ∀ f i, ftT P f = some i → mg i.name = some (.ref i.addr) ∧ (∃ o, h0.get? i.addr = some o ∧ o.data = .func i.fd) ∧ h0.CodeRec i.fd.code i.fd.qualname
  | 0, i, h => by cases h; have q := fn_gcd K g; exact ⟨q.n, q.o, q.c⟩
  | 1, i, h => by cases h; have q := fn_bits_of K g; exact ⟨q.n, q.o, q.c⟩
  | 2, i, h => by cases h; have q := fn_rat K g; exact ⟨q.n, q.o, q.c⟩
  | 3, i, h => by cases h; have q := fn_radd K g; exact ⟨q.n, q.o, q.c⟩
  | 4, i, h => by cases h; have q := fn_rmul K g; exact ⟨q.n, q.o, q.c⟩
  | 5, i, h => by cases h; have q := fn_rdiv K g; exact ⟨q.n, q.o, q.c⟩
  | 6, i, h => by cases h; have q := fn_rneg K g; exact ⟨q.n, q.o, q.c⟩
  | 7, i, h => by cases h; have q := fn_rinv K g; exact ⟨q.n, q.o, q.c⟩
  | 8, i, h => by cases h; have q := fn_rpower K g; exact ⟨q.n, q.o, q.c⟩
  | 9, i, h => by cases h; have q := fn_qtrim K g; exact ⟨q.n, q.o, q.c⟩
  | 10, i, h => by cases h; have q := fn_qdegree K g; exact ⟨q.n, q.o, q.c⟩
  | 11, i, h => by cases h; have q := fn_qlead K g; exact ⟨q.n, q.o, q.c⟩
  | 12, i, h => by cases h; have q := fn_qadd K g; exact ⟨q.n, q.o, q.c⟩
  | 13, i, h => by cases h; have q := fn_qneg K g; exact ⟨q.n, q.o, q.c⟩
  | 14, i, h => by cases h; have q := fn_qsub K g; exact ⟨q.n, q.o, q.c⟩
  | 15, i, h => by cases h; have q := fn_qscale K g; exact ⟨q.n, q.o, q.c⟩
  | 16, i, h => by cases h; have q := fn_qraise K g; exact ⟨q.n, q.o, q.c⟩
  | 17, i, h => by cases h; have q := fn_qmul K g; exact ⟨q.n, q.o, q.c⟩
  | 18, i, h => by cases h; have q := fn_qdivmod K g; exact ⟨q.n, q.o, q.c⟩
  | 19, i, h => by cases h; have q := fn_qmonic K g; exact ⟨q.n, q.o, q.c⟩
  | 20, i, h => by cases h; have q := fn_qgcd K g; exact ⟨q.n, q.o, q.c⟩
  | 21, i, h => by cases h; have q := fn_fmake K g; exact ⟨q.n, q.o, q.c⟩
  | 22, i, h => by cases h; have q := fn_fnumber K g; exact ⟨q.n, q.o, q.c⟩
  | 23, i, h => by cases h; have q := fn_fadd K g; exact ⟨q.n, q.o, q.c⟩
  | 24, i, h => by cases h; have q := fn_fmul K g; exact ⟨q.n, q.o, q.c⟩
  | 25, i, h => by cases h; have q := fn_finv K g; exact ⟨q.n, q.o, q.c⟩
  | 26, i, h => by cases h; have q := fn_fpower K g; exact ⟨q.n, q.o, q.c⟩
  | 27, i, h => by cases h; have q := fn_whole_exponent K g; exact ⟨q.n, q.o, q.c⟩
  | 28, i, h => by cases h; have q := fn_far_power K g; exact ⟨q.n, q.o, q.c⟩
  | 29, i, h => by cases h; have q := fn_is_rational K g; exact ⟨q.n, q.o, q.c⟩
  | 30, i, h => by cases h; have q := fn_from_term K g; exact ⟨q.n, q.o, q.c⟩
  | 31, i, h => by cases h; have q := fn_from_rational K g; exact ⟨q.n, q.o, q.c⟩
  | n + 32, i, h => by cases h
theorem df_all : ∀ f ar ir, dfT f = some (ar, ir) → ∃ i z, ftT P f = some i ∧ FdOk i.fd i.body z ar ∧ ErB gdT fnT z i.body ir
  | 0, ar, ir, h => by cases h; exact ⟨_, _, rfl, fd_gcd P, er_gcd P⟩
  | 1, ar, ir, h => by cases h; exact ⟨_, _, rfl, fd_bits_of P, er_bits_of P⟩
  | 2, ar, ir, h => by cases h; exact ⟨_, _, rfl, fd_rat P, er_rat P⟩
  | 3, ar, ir, h => by cases h; exact ⟨_, _, rfl, fd_radd P, er_radd P⟩
  | 4, ar, ir, h => by cases h; exact ⟨_, _, rfl, fd_rmul P, er_rmul P⟩
  | 5, ar, ir, h => by cases h; exact ⟨_, _, rfl, fd_rdiv P, er_rdiv P⟩
  | 6, ar, ir, h => by cases h; exact ⟨_, _, rfl, fd_rneg P, er_rneg P⟩
  | 7, ar, ir, h => by cases h; exact ⟨_, _, rfl, fd_rinv P, er_rinv P⟩
  | 8, ar, ir, h => by cases h; exact ⟨_, _, rfl, fd_rpower P, er_rpower P⟩
  | 9, ar, ir, h => by cases h; exact ⟨_, _, rfl, fd_qtrim P, er_qtrim P⟩
  | 10, ar, ir, h => by cases h; exact ⟨_, _, rfl, fd_qdegree P, er_qdegree P⟩
  | 11, ar, ir, h => by cases h; exact ⟨_, _, rfl, fd_qlead P, er_qlead P⟩
  | 12, ar, ir, h => by cases h; exact ⟨_, _, rfl, fd_qadd P, er_qadd P⟩
  | 13, ar, ir, h => by cases h; exact ⟨_, _, rfl, fd_qneg P, er_qneg P⟩
  | 14, ar, ir, h => by cases h; exact ⟨_, _, rfl, fd_qsub P, er_qsub P⟩
  | 15, ar, ir, h => by cases h; exact ⟨_, _, rfl, fd_qscale P, er_qscale P⟩
  | 16, ar, ir, h => by cases h; exact ⟨_, _, rfl, fd_qraise P, er_qraise P⟩
  | 17, ar, ir, h => by cases h; exact ⟨_, _, rfl, fd_qmul P, er_qmul P⟩
  | 18, ar, ir, h => by cases h; exact ⟨_, _, rfl, fd_qdivmod P, er_qdivmod P⟩
  | 19, ar, ir, h => by cases h; exact ⟨_, _, rfl, fd_qmonic P, er_qmonic P⟩
  | 20, ar, ir, h => by cases h; exact ⟨_, _, rfl, fd_qgcd P, er_qgcd P⟩
  | 21, ar, ir, h => by cases h; exact ⟨_, _, rfl, fd_fmake P, er_fmake P⟩
  | 22, ar, ir, h => by cases h; exact ⟨_, _, rfl, fd_fnumber P, er_fnumber P⟩
  | 23, ar, ir, h => by cases h; exact ⟨_, _, rfl, fd_fadd P, er_fadd P⟩
  | 24, ar, ir, h => by cases h; exact ⟨_, _, rfl, fd_fmul P, er_fmul P⟩
  | 25, ar, ir, h => by cases h; exact ⟨_, _, rfl, fd_finv P, er_finv P⟩
  | 26, ar, ir, h => by cases h; exact ⟨_, _, rfl, fd_fpower P, er_fpower P⟩
  | 27, ar, ir, h => by cases h; exact ⟨_, _, rfl, fd_whole_exponent P, er_whole_exponent P⟩
  | 28, ar, ir, h => by cases h; exact ⟨_, _, rfl, fd_far_power P, er_far_power P⟩
  | 29, ar, ir, h => by cases h; exact ⟨_, _, rfl, fd_is_rational P, er_is_rational P⟩
  | 30, ar, ir, h => by cases h; exact ⟨_, _, rfl, fd_from_term P, er_from_term P⟩
  | 31, ar, ir, h => by cases h; exact ⟨_, _, rfl, fd_from_rational P, er_from_rational P⟩
  | n + 32, ar, ir, h => by cases h
theorem nm_all : ∀ f x, fnT f = some x → ∃ i, ftT P f = some i ∧ i.name = x
  | 0, x, h => by cases h; exact ⟨_, rfl, rfl⟩
  | 1, x, h => by cases h; exact ⟨_, rfl, rfl⟩
  | 2, x, h => by cases h; exact ⟨_, rfl, rfl⟩
  | 3, x, h => by cases h; exact ⟨_, rfl, rfl⟩
  | 4, x, h => by cases h; exact ⟨_, rfl, rfl⟩
  | 5, x, h => by cases h; exact ⟨_, rfl, rfl⟩
  | 6, x, h => by cases h; exact ⟨_, rfl, rfl⟩
  | 7, x, h => by cases h; exact ⟨_, rfl, rfl⟩
  | 8, x, h => by cases h; exact ⟨_, rfl, rfl⟩
  | 9, x, h => by cases h; exact ⟨_, rfl, rfl⟩
  | 10, x, h => by cases h; exact ⟨_, rfl, rfl⟩
  | 11, x, h => by cases h; exact ⟨_, rfl, rfl⟩
  | 12, x, h => by cases h; exact ⟨_, rfl, rfl⟩
  | 13, x, h => by cases h; exact ⟨_, rfl, rfl⟩
  | 14, x, h => by cases h; exact ⟨_, rfl, rfl⟩
  | 15, x, h => by cases h; exact ⟨_, rfl, rfl⟩
  | 16, x, h => by cases h; exact ⟨_, rfl, rfl⟩
  | 17, x, h => by cases h; exact ⟨_, rfl, rfl⟩
  | 18, x, h => by cases h; exact ⟨_, rfl, rfl⟩
  | 19, x, h => by cases h; exact ⟨_, rfl, rfl⟩
  | 20, x, h => by cases h; exact ⟨_, rfl, rfl⟩
  | 21, x, h => by cases h; exact ⟨_, rfl, rfl⟩
  | 22, x, h => by cases h; exact ⟨_, rfl, rfl⟩
  | 23, x, h => by cases h; exact ⟨_, rfl, rfl⟩
  | 24, x, h => by cases h; exact ⟨_, rfl, rfl⟩
  | 25, x, h => by cases h; exact ⟨_, rfl, rfl⟩
  | 26, x, h => by cases h; exact ⟨_, rfl, rfl⟩
  | 27, x, h => by cases h; exact ⟨_, rfl, rfl⟩
  | 28, x, h => by cases h; exact ⟨_, rfl, rfl⟩
  | 29, x, h => by cases h; exact ⟨_, rfl, rfl⟩
  | 30, x, h => by cases h; exact ⟨_, rfl, rfl⟩
  | 31, x, h => by cases h; exact ⟨_, rfl, rfl⟩
  | n + 32, x, h => by cases h
theorem bn_all (K : (hd.heap_1 P).In h0) (g : h0.Ns mainGlobals mg) : ∀ x ∈ bnames, mg x = none := by
  intro x hx
  unfold bnames at hx
  rcases List.mem_cons.mp hx with rfl | hx; · exact mg_none_of K g (by rfl)
  rcases List.mem_cons.mp hx with rfl | hx; · exact mg_none_of K g (by rfl)
  rcases List.mem_cons.mp hx with rfl | hx; · exact mg_none_of K g (by rfl)
  rcases List.mem_cons.mp hx with rfl | hx; · exact mg_none_of K g (by rfl)
  rcases List.mem_cons.mp hx with rfl | hx; · exact mg_none_of K g (by rfl)
  rcases List.mem_cons.mp hx with rfl | hx; · exact mg_none_of K g (by rfl)
  rcases List.mem_cons.mp hx with rfl | hx; · exact mg_none_of K g (by rfl)
  cases hx
/-- a tuple or list of the head's heap -/
theorem rz_tup {K : Frag} {a : Addr} {n : Nat} {c : Value} {d : List D} {vs : Array Value} {od : Option Addr} {sl : Array (Option Value)} (X : K.In h0) (e : K.lookup a = some ⟨.type "tuple", od, .seq vs n, sl⟩) (r : RzL [] h0 d vs.toList) : Rz [] h0 (.tuple d) (.ref a) :=
  ⟨a, vs, rfl, by simp, ⟨_, X _ _ e, rfl, n, rfl⟩, r⟩
theorem rz_lis {K : Frag} {a : Addr} {n : Nat} {d : List D} {vs : Array Value} (X : K.In h0) (e : K.lookup a = some ⟨.type "list", none, .seq vs n, #[]⟩) (r : RzL [] h0 d vs.toList) : Rz [] h0 (.list d) (.ref a) :=
  ⟨a, vs, rfl, by simp, ⟨n, X _ _ e⟩, r⟩
theorem dat_all (K : (hd.heap_1 P).In h0) (g : h0.Ns mainGlobals mg) : ∀ x d, gdT x = some d → ∃ v, mg x = some v ∧ Rz [] h0 d v := by
  have r0 : Rz [] h0 (.tuple [.int 0, .int 1]) (.ref 49) := rz_tup (c := .none) K rfl ⟨_, _, rfl, ⟨_, rfl⟩, _, _, rfl, ⟨_, rfl⟩, rfl⟩
  have r1 : Rz [] h0 (.tuple [.int 1, .int 1]) (.ref 50) := rz_tup (c := .none) K rfl ⟨_, _, rfl, ⟨_, rfl⟩, _, _, rfl, ⟨_, rfl⟩, rfl⟩
  have l1 : Rz [] h0 (.list []) (.ref 178) := rz_lis K rfl rfl
  have l2 : Rz [] h0 (.list [.tuple [.int 1, .int 1]]) (.ref 179) := rz_lis K rfl ⟨_, _, rfl, r1, rfl⟩
  have l3 : Rz [] h0 (.list [.tuple [.int 1, .int 1]]) (.ref 181) := rz_lis K rfl ⟨_, _, rfl, r1, rfl⟩
  have l4 : Rz [] h0 (.list [.tuple [.int 1, .int 1]]) (.ref 182) := rz_lis K rfl ⟨_, _, rfl, r1, rfl⟩
  have f0 : Rz [] h0 (.tuple [.list [], .list [.tuple [.int 1, .int 1]]]) (.ref 180) := rz_tup (c := .none) K rfl ⟨_, _, rfl, l1, _, _, rfl, l2, rfl⟩
  have f1 : Rz [] h0 (.tuple [.list [.tuple [.int 1, .int 1]], .list [.tuple [.int 1, .int 1]]]) (.ref 183) := rz_tup (c := .none) K rfl ⟨_, _, rfl, l3, _, _, rfl, l4, rfl⟩
  have x1 : Rz [] h0 (.tuple [.str "sym", .str "x"]) (.ref 257) := rz_tup (c := .none) K rfl ⟨_, _, rfl, ⟨_, rfl⟩, _, _, rfl, ⟨_, rfl⟩, rfl⟩
  have m1 : Rz [] h0 (.int 200000) (.int 200000 248) := ⟨_, rfl⟩
  have m2 : Rz [] h0 (.int 2000) (.int 2000 462) := ⟨_, rfl⟩
  intro x d h
  have hm := PySem.mem_of_lookup h
  rcases List.mem_cons.mp hm with e | hm; · cases e; exact ⟨_, mg_of K g (by rfl), r0⟩
  rcases List.mem_cons.mp hm with e | hm; · cases e; exact ⟨_, mg_of K g (by rfl), r1⟩
  rcases List.mem_cons.mp hm with e | hm; · cases e; exact ⟨_, mg_of K g (by rfl), m1⟩
  rcases List.mem_cons.mp hm with e | hm; · cases e; exact ⟨_, mg_of K g (by rfl), m2⟩
  rcases List.mem_cons.mp hm with e | hm; · cases e; exact ⟨_, mg_of K g (by rfl), f0⟩
  rcases List.mem_cons.mp hm with e | hm; · cases e; exact ⟨_, mg_of K g (by rfl), f1⟩
  rcases List.mem_cons.mp hm with e | hm; · cases e; exact ⟨_, mg_of K g (by rfl), x1⟩
  cases hm
theorem bas_of {prog : Program} {w : World} (K : (hd.heap_1 P).In h0) (g : h0.Ns mainGlobals mg) (b : h0.Ns builtinsNs mb) (bb : ∀ x : Str, x ≠ "__name__" → mb x = bootBuiltins x) (lim : h0.NoLimit) :
    Bas ⟨prog, w, h0, mg, mb⟩ (ftT P) gdT := ⟨g, b, bb, lim, fn_all K g, dat_all K g⟩
theorem wd_of {prog : Program} {w : World} {mem : Nat → List D → Option (Nat × D)} (K : (hd.heap_1 P).In h0) (g : h0.Ns mainGlobals mg) (b : h0.Ns builtinsNs mb) (bb : ∀ x : Str, x ≠ "__name__" → mb x = bootBuiltins x) (lim : h0.NoLimit)
    (hm : ∀ f ds m d, mem f ds = some (m, d) → CallOk ⟨prog, w, h0, mg, mb⟩ (ftT P) m f ds d) : Wd ⟨prog, w, h0, mg, mb⟩ (ftT P) gdT fnT ⟨dfT, mem⟩ :=
  ⟨bas_of K g b bb lim, bn_all K g, df_all, nm_all, hm⟩
end
end Mine
namespace Mine
open PySem PySem.Spec PySem.Calls PyProof.Rows
section
variable {C : Cx} {A : Around} {E : Value → Shared → Prop}
section
open Builtin Builtin.ObjectAttr
variable {h : Heap} {g : Array GenState} {d : Drawn} {t : Nat} {os : OsState} {nm q : Str} {CA N : Addr} {bs bm : List Value} {sn : List Str} {sub : List Value} {ab : Bool} {col : Option Bool} {dd : Option Addr} {k0 k1 k2 k3 k5 : Option Value} {B newId sa owner : String}
/-- the first field of a new exception: its dict is a new object -/
theorem first_entry {x : Addr} {o : Obj} {name : Str} {v : Value} {tk : Tok} {mN : Str → Option Value} {Q : Fin → Shared → Prop} (SF : StoreFacts B bm sa owner) (hC : h.get? CA = some (excClassObj nm q CA N bs bm true sn sub ab col dd k0 k1 k2 k3 k5 newId)) (hn : h.Ns N mN) (hna : mN name = none) (hB : typeLookup (.type B) name = pure none)
    (hx : h.get? x = some o) (hc : o.cls = .ref CA) (hnc : ∀ c, o.data ≠ .cls c) (hdn : o.dict = none)
    (hq : ∀ h' tk', h'.get? x = some { o with dict := some h.objs.size } → h'.Ns1 h.objs.size (fun y => if y = name then some v else none) → (∀ b ob, b ≠ x → h.get? b = some ob → h'.get? b = some ob) → Q (.done (.ret .none)) ⟨h', g, d, tk', os⟩) :
    wpAny C.M A (Builtin.«object.__setattr__» ⟨[.ref x, .str name tk, v], []⟩) Q E ⟨h, g, d, t, os⟩ := by
  have hpass := SF.passes (.ref x)
  unfold Builtin.«object.__setattr__»
  repeat (first | rw [refuse_eq] | (rw [refuseLoop_ref, hpass]) | (with_reducible refine wpAny_loadPart_at hx ?_; rw [hc]) | with_reducible refine wpAny_mroOf_exc hC ?_ | (with_reducible refine wpAny_typeLookup_exc hC hn SF.mro hB ?_; rw [hna]) | wp_step)
  rw [hdn, if_neg (by simp [typeHasDict])]
  split
  · rename_i q; cases q
  split
  · rename_i c q; exact absurd q (hnc c)
  have hx1 : (h.push { cls := .type "dict", data := .dict #[] }).get? x = some o := Heap.get?_push_of_some _ hx
  have hne : x ≠ h.objs.size := Nat.ne_of_lt (Heap.lt_size hx)
  refine wpAny_bind (wpAny_alloc' (wpAny_bind (wpAny_update' hx1 (wpAny_pure ?_))))
  have hD : ((h.push { cls := .type "dict", data := .dict #[] }).update x fun o => { cls := o.cls, dict := some h.objs.size, data := o.data, slots := o.slots }).get? h.objs.size = some { cls := .type "dict", data := .dict #[] } :=
    (Heap.get?_update_ne _ _ _ _ hne.symm).trans (Heap.get?_push_at rfl rfl)
  have hns : ((h.push { cls := .type "dict", data := .dict #[] }).update x fun o => { cls := o.cls, dict := some h.objs.size, data := o.data, slots := o.slots }).Ns h.objs.size (fun _ => none) :=
    ⟨_, #[], _, hD, rfl, fun e he => absurd he (by simp), fun _ => rfl⟩
  have hX : ((h.push { cls := .type "dict", data := .dict #[] }).update x fun o => { cls := o.cls, dict := some h.objs.size, data := o.data, slots := o.slots }).get? x = some { o with dict := some h.objs.size } := by
    refine Heap.get?_update_self _ hx1 ?_
    have hfr := (Heap.get?_some_iff.mp hx).2
    obtain ⟨oc, od, odt, osl⟩ := o
    cases odt <;> first | rfl | exact hfr
  have hK : ∀ b ob, b ≠ x → h.get? b = some ob → ((h.push { cls := .type "dict", data := .dict #[] }).update x fun o => { cls := o.cls, dict := some h.objs.size, data := o.data, slots := o.slots }).get? b = some ob := fun b ob hb e =>
    (Heap.get?_update_ne _ _ _ _ hb).trans (Heap.get?_push_of_some _ e)
  generalize ((h.push { cls := .type "dict", data := .dict #[] }).update x fun o => { cls := o.cls, dict := some h.objs.size, data := o.data, slots := o.slots }) = h1 at hD hns hX hK ⊢
  show wpAny _ _ (storeInDict h.objs.size (.str name tk) name v) _ _ _
  unfold storeInDict newKeyGuard
  refine wpAny_bind (wpAny_pure (wpAny_bind (wpAny_nsSet1 (Heap.Ns1.of_empty hns) fun h' hn' hs => ?_)))
  obtain ⟨oD, esD, epD, hoD, hdD, hcD⟩ := hn'.count (Within.cons name v Within.nil)
  refine wpAny_bind (wpAny_lookBehind hoD (by rw [hdD]; exact pastItsLine_dict (Nat.le_trans hcD (by rw [List.length_cons, List.length_nil, sizeLine_eq]; omega))) ?_)
  wp_walk
  exact hq h' _ ((hs.2 x hne).trans hX) hn' fun b ob hb e => (hs.2 b (Nat.ne_of_lt (Heap.lt_size e))).trans (hK b ob hb e)
theorem first_attr {x : Addr} {o : Obj} {name : Str} {v : Value} {mN : Str → Option Value} {Q : Unit → Shared → Prop} (SF : StoreFacts B bm sa owner) (hC : h.get? CA = some (excClassObj nm q CA N bs bm true sn sub ab col dd k0 k1 k2 k3 k5 newId)) (hn : h.Ns N mN) (hna : mN name = none) (hns : mN "__setattr__" = none) (hB : typeLookup (.type B) name = pure none)
    (hx : h.get? x = some o) (hc : o.cls = .ref CA) (hnc : ∀ c, o.data ≠ .cls c) (hdn : o.dict = none)
    (hq : ∀ h' tk', h'.get? x = some { o with dict := some h.objs.size } → h'.Ns1 h.objs.size (fun y => if y = name then some v else none) → (∀ b ob, b ≠ x → h.get? b = some ob → h'.get? b = some ob) → Q () ⟨h', g, d, tk', os⟩) :
    wpAny C.M A (setAttr (.ref x) name v) Q E ⟨h, g, d, t, os⟩ := by
  have f3 := SF.slot.bind (.ref x)
  unfold setAttr callSpecial? specialOf
  repeat (any_goals (first | assumption | (with_reducible refine wpAny_loadPart_at hx ?_; rw [hc]) | (with_reducible refine wpAny_typeLookup_exc hC hn SF.mro SF.slot.lookup ?_; rw [hns]) | wp_step))
  refine codeAny_call_builtin SF.slot.plain SF.entry (wpAny_check_sa SF hC hx hc (first_entry SF hC hn hna hB hx hc hnc hdn fun h' tk' a b c => ?_))
  repeat (any_goals (first | assumption | wp_step))
  exact hq h' tk' a b c
end

section
variable {h : Heap} {g : Array GenState} {d : Drawn} {t : Nat} {os : OsState} {nm q : Str} {CA N : Addr} {bs bm : List Value} {hdct : Bool} {sn : List Str} {sub : List Value} {ab : Bool} {col : Option Bool} {dd : Option Addr} {k0 k1 k2 k3 k5 : Option Value} {B newId initId : String}
/-- the base's __init__ on the new one -/
theorem exc_init_call {e t0 : Addr} {v : Value} {Q : Value → Shared → Prop} (F : ExcBaseFacts B newId initId bm) (hC : h.get? CA = some (excClassObj nm q CA N bs bm hdct sn sub ab col dd k0 k1 k2 k3 k5 newId))
    (he : h.get? e = some { cls := .ref CA, data := .fields #[.ref t0, .none, .none, .none, .bool false, .none] })
    (hq : ∀ h' t1, (∀ b o, b ≠ e → h.get? b = some o → h'.get? b = some o) → h'.get? e = some { cls := .ref CA, data := .fields #[.ref t1, .none, .none, .none, .bool false, .none] } → Q .none ⟨h', g, d, t, os⟩) :
    wpAny C.M A (call (.builtin initId) [.ref e, v]) Q E ⟨h, g, d, t, os⟩ := by
  refine wpAny_call (codeAny_call_builtin F.init.plain F.initEntry (wpAny_check_init_sub F hC he rfl ?_))
  wp_walk
  refine hq _ (h.objs.size) (fun b o hb hx => ?_) ?_
  · rw [Heap.get?_update_other _ _ (Ne.symm hb)]
    exact Heap.get?_push_of_some _ hx
  · rw [Heap.get?_update_self _ (Heap.get?_push_of_some _ he) rfl]
    rfl
/-- raise, of one that has a dict -/
theorem raise_own {env : Env} {s : Shared} {x : Sem Value} {Q : Flow → Shared → Prop} (hbase : bm.contains (.type "BaseException") = true) (hh : A.handled = none)
    (hx : wpAny C.M A x (fun v s₁ => ∃ e oe vs, v = .ref e ∧ s₁.heap.get? CA = some (excClassObj nm q CA N bs bm hdct sn sub ab col dd k0 k1 k2 k3 k5 newId) ∧
      s₁.heap.get? e = some oe ∧ oe.cls = .ref CA ∧ oe.data = .fields vs ∧ vs[1]? = some .none ∧ E (.ref e) s₁) E s) :
    wpAny C.M A (raiseStmt env (some x) none) Q E s := by
  have hcB : (Value.ref CA :: bm).contains (.type "BaseException") = true := by rw [List.contains_cons, hbase, Bool.or_true]
  unfold raiseStmt
  refine wpAny_bind (wpAny_mono hx (fun v s₁ h₁ => ?_) fun _ _ x => x)
  obtain ⟨e, oe, vs, rfl, hC, he, hc, hd, h1, hE⟩ := h₁
  obtain ⟨hp, g, d, tk, os⟩ := s₁
  have hne : (Value.none != Value.none) = false := by decide
  repeat (first | (with_reducible refine wpAny_loadPart_at he ?_; rw [hc]) | with_reducible refine wpAny_loadPart_at hC ?_ | (with_reducible refine wpAny_isSubtype_exc hC ?_; rw [hcB]) | with_reducible refine wpAny_field he hd h1 ?_ | wp_step)
  exact wpAny_raiseNew_none hh hE
end
end
end Mine
namespace Mine
open PySem PySem.Spec PySem.Calls PyProof.Rows PySem.W

/-! ## The program's own exception -/
abbrev bmE : List Value := [.type "Exception", .type "BaseException", .type "object"]
abbrev cfObj : Obj := excClassObj "CasFail" "CasFail" 31 30 [.type "Exception"] bmE true [] [] false none none (some (.ref 15)) none (some (.str "CasFail" 189)) (some (.str "CasFail" 197)) (some (.bool true)) "Exception.__new__"
theorem cf_at (P : Params) : (hd.heap_1 P).lookup 31 = some cfObj := rfl
noncomputable def mCF (P : Params) : Str → Option Value := fun n => match (hd.heap_1 P).lookup 30 with | some o => (match o.data with | .dict es _ => nsFind es n | _ => none) | none => none
theorem cf_ns {P : Params} {h : Heap} (K : (hd.heap_1 P).In h) : h.Ns 30 (mCF P) :=
  ⟨_, _, _, K 30 _ rfl, rfl, by
    intro e he
    simp only [List.mem_toArray, List.mem_cons, List.not_mem_nil, or_false] at he
    rcases he with rfl | rfl | rfl | rfl | rfl | rfl <;> exact ⟨_, _, rfl⟩, fun n => rfl⟩
theorem cf_init_fn (P : Params) : mCF P "__init__" = some (.ref 28) := by rfl
theorem cf_setattr (P : Params) : mCF P "__setattr__" = none := by rfl
theorem cf_kind (P : Params) : mCF P "kind" = none := by rfl
theorem cf_text (P : Params) : mCF P "text" = none := by rfl
theorem cf_ga (P : Params) : mCF P "__getattribute__" = none := by rfl
theorem cf_gt (P : Params) : mCF P "__getattr__" = none := by rfl
theorem lkB_kind : typeLookup (.type "Exception") "kind" = pure none := by rw [typeLookup_type, builtinLookup_eq_fast]; kernel_rfl
theorem lkB_text : typeLookup (.type "Exception") "text" = pure none := by rw [typeLookup_type, builtinLookup_eq_fast]; kernel_rfl
theorem fc1 : findCls [] (.type "Exception") (.type "type") "__init__" = some (.val (.builtin "Exception.__init__")) := by rfl
theorem ty1 : typeOf (.type "Exception") = pure (.type "type") := by kernel_rfl
theorem st1 : Manifest.isStub "Exception" = false := by decide +kernel

/-- the exception made, with its kind -/
structure Kf (h : Heap) (e : Addr) (kd : Str) : Prop where
  ex : ∃ oe vs dd m t, h.get? e = some oe ∧ oe.cls = .ref 31 ∧ oe.data = .fields vs ∧ vs.size = 6 ∧ vs[1]? = some .none ∧ oe.dict = some dd ∧ dd ≠ e ∧ h.Ns1 dd m ∧ m "kind" = some (.str kd t)

section
variable {C : Cx} {A : Around} {E : Value → Shared → Prop}

theorem args_raw {M : Model} {env : Env} {s : Shared} {f : Value} {pos : Pos} {e : Expr} {r : List Expr} {Q : Args → Shared → Prop} (he : starEach (e :: r) env = (false, eval e env) :: starEach r env)
    (h : wpAny M A (spliced (backTo pos (starEach (e :: r) env))) (fun vs s' => Q ⟨vs, []⟩ s') E s) : wpAny M A (evalArgs f true (backTo pos (starEach (e :: r) env)) []) Q E s := by
  rw [he] at h ⊢
  exact evalArgs_plain h


set_option maxHeartbeats 4000000 in
theorem cf_init_body {P : Params} {s : Shared} {L e t0 : Addr} {kd tx : Str} {t1 t2 : Tok} {m0 : Str → Option Value} {Q : Flow → Shared → Prop} (K : (hd.heap_1 P).In s.heap)
    (hmn : ∃ mg mb, s.heap.Ns mainGlobals mg ∧ mg "Exception" = none ∧ s.heap.Ns builtinsNs mb ∧ mb "Exception" = some (.type "Exception"))
    (hn : s.heap.Ns L m0) (ms : m0 "self" = some (.ref e)) (mk : m0 "kind" = some (.str kd t1)) (mt : m0 "text" = some (.str tx t2)) (heL : e ≠ L)
    (he : s.heap.get? e = some { cls := .ref 31, data := .fields #[.ref t0, .none, .none, .none, .bool false, .none] }) (hfresh : (hd.heap_1 P).lookup e = none)
    (h1 : kd.length + (": " : Str).length ≤ sizeLine) (h2 : (kd ++ (": " : Str)).length + tx.length ≤ sizeLine)
    (hq : ∀ h' tk', (∀ b o, b ≠ e → s.heap.get? b = some o → h'.get? b = some o) → Kf h' e kd → Q .next { s with heap := h', toks := tk' }) :
    wpAny C.M A (execs (bodyAt P 28) (callEnvC (fdAt P 28) L 28)) Q E s := by
  obtain ⟨mg, mb, hg, hge, hb, hbe⟩ := hmn
  have kne : ∀ a o, (hd.heap_1 P).lookup a = some o → a ≠ e := fun a o q r => by rw [r, hfresh] at q; cases q
  have hK1 := K 31 _ (cf_at P)
  refine wpAny_execs_cons (wpAny_Expr (methodCall_KW (Name_function_global rfl (by rfl) (loadGlobal_builtin hg hge hb hbe ?_) (by rfl)) (by rfl)))
  refine method_type (h₀ := ({} : Heap)) (K := []) ⟨hn, fun b o e => by simp [Heap.get?] at e, Nat.zero_le _⟩ (fun a o e => by cases e) ty1 st1 fc1 (by rfl) ?_
  refine callWith_builtin (by rfl) (args_raw rfl (wpAny_items_cons (wpAny_Name (wpAny_loadName_local rfl (by rfl) hn ms ?_) (by rfl)) rfl))
  refine wpAny_items_cons (wpAny_BinOp (wpAny_BinOp (wpAny_Name (wpAny_loadName_local rfl (by rfl) hn mk (wpAny_Constant_str (PyProof.Rows.add_str (fun t3 tk3 => ?_) h1))) (by rfl)))) rfl
  refine wpAny_Name (wpAny_loadName_local rfl (by rfl) hn mt (PyProof.Rows.add_str (fun t4 tk4 => wpAny_items_nil ?_) h2)) (by rfl)
  refine exc_init_call F.excBase_Exception hK1 he fun h' t5 k1 he1 => ?_
  have K1 : (hd.heap_1 P).In h' := fun a o q => k1 a o (kne a o q) (K a o q)
  have hn1 : h'.Ns L m0 := hn.at fun o q => k1 L o (Ne.symm heL) q
  show wpAny _ _ (execs _ _) _ _ _
  refine wpAny_execs_cons (plainObj_wpAny_Assign_Attribute (wpAny_Name (wpAny_loadName_local rfl (by rfl) hn1 mk (wpAny_Name (wpAny_loadName_local rfl (by rfl) hn1 ms ?_) (by rfl))) (by rfl)))
  refine first_attr F.store_Exception (K1 31 _ (cf_at P)) (cf_ns K1) (cf_kind P) (cf_setattr P) lkB_kind he1 rfl (by intro c q; cases q) rfl fun h2' tk6 he2 hd2 k2 => ?_
  have K2 : (hd.heap_1 P).In h2' := fun a o q => k2 a o (kne a o q) (K1 a o q)
  have hn2 : h2'.Ns L m0 := hn1.at fun o q => k2 L o (Ne.symm heL) q
  have hes : e ≠ h'.objs.size := Nat.ne_of_lt (Heap.lt_size he1)
  show wpAny _ _ (execs _ _) _ _ _
  refine wpAny_execs_cons (plainObj_wpAny_Assign_Attribute (wpAny_Name (wpAny_loadName_local rfl (by rfl) hn2 mt (wpAny_Name (wpAny_loadName_local rfl (by rfl) hn2 ms ?_) (by rfl))) (by rfl)))
  refine store_attr F.store_Exception (K2 31 _ (cf_at P)) (cf_ns K2) (cf_setattr P) (cf_text P) lkB_text (Ne.symm (kne 31 _ (cf_at P))) ⟨_, he2, rfl, (fun c q => by cases q), .inr ⟨_, rfl, Ne.symm hes, hd2⟩⟩ fun h3 tk7 I3 k3 same3 => ?_
  show wpAny _ _ (execs _ _) _ _ _
  refine wpAny_execs_nil (hq h3 tk7 (fun b o hb q => ?_) ?_)
  · have q1 := k1 b o hb q
    refine k3 b o hb (fun o0 dx ho0 hdx => ?_) (k2 b o hb q1)
    rw [he2] at ho0; cases ho0
    cases hdx
    exact Nat.ne_of_lt (Heap.lt_size q1)
  · obtain ⟨o1, ho1, hc1, hd1, _, hdd⟩ := same3 _ he2
    obtain ⟨o2, ho2, _, _, hor⟩ := I3
    rw [ho1] at ho2; cases ho2
    rcases hor with ⟨hdn, _⟩ | ⟨dd, hdd2, hne, hns⟩
    · rw [hdd _ rfl] at hdn; cases hdn
    · exact ⟨o1, _, dd, _, t1, ho1, hc1, hd1, rfl, rfl, hdd2, hne, hns, by rfl⟩
end
end Mine
namespace Mine
open PySem PySem.Spec PySem.Calls PyProof.Rows PySem.W

section
variable {C : Cx} {A : Around} {E : Value → Shared → Prop}

/-- what the heap must hold for the exception to be made -/
structure Cf (P : Params) (h : Heap) : Prop where
  K : (hd.heap_1 P).In h
  mn : ∃ mg mb, h.Ns mainGlobals mg ∧ mg "Exception" = none ∧ h.Ns builtinsNs mb ∧ mb "Exception" = some (.type "Exception")
  lim : h.NoLimit
theorem Cf.keeps {P : Params} {h h' : Heap} (x : Cf P h) (k : ∀ b o, h.get? b = some o → h'.get? b = some o) : Cf P h' :=
  ⟨x.K.keeps k, let ⟨mg, mb, a, b, c, d⟩ := x.mn; ⟨mg, mb, a.keeps k, b, c.keeps k, d⟩, x.lim.keeps k⟩

theorem cf_init_call {P : Params} {s : Shared} {e t0 : Addr} {kd tx : Str} {t1 t2 : Tok} {Q : Value → Shared → Prop} (X : Cf P s.heap) (hroom : A.depth < recursionLimit)
    (he : s.heap.get? e = some { cls := .ref 31, data := .fields #[.ref t0, .none, .none, .none, .bool false, .none] }) (hfresh : (hd.heap_1 P).lookup e = none)
    (h1 : kd.length + (": " : Str).length ≤ sizeLine) (h2 : (kd ++ (": " : Str)).length + tx.length ≤ sizeLine)
    (hq : ∀ h' tk', (∀ b o, b ≠ e → s.heap.get? b = some o → h'.get? b = some o) → Kf h' e kd → Q .none { s with heap := h', toks := tk' }) :
    wpAny C.M A (call (.ref 28) [.ref e, .str kd t1, .str tx t2]) Q E s := by
  refine wpAny_call (codeAny_call_cells (fd := fdAt P 28) (body := bodyAt P 28) (binds := [("self", .ref e), ("kind", .str kd t1), ("text", .str tx t2)]) hroom (X.K 28 _ rfl) rfl X.lim (codeRec_of X.K (by rfl)) rfl (by rfl) rfl (fun x hx => ?_) (fun s₁ Y => ?_) rfl rfl rfl)
  · rcases List.mem_cons.mp hx with rfl | hx; · exact .inl (by rfl)
    rcases List.mem_cons.mp hx with rfl | hx; · exact .inl (by rfl)
    rcases List.mem_cons.mp hx with rfl | hx; · exact .inl (by rfl)
    cases hx
  have nsL := Y.toInCall.ns
  have keep := Y.toInCall.keep
  have X1 := X.keeps keep
  obtain ⟨h1', tk1, rfl⟩ := Y.toInCall.same
  refine cf_init_body (P := P) X1.K X1.mn nsL (by rfl) (by rfl) (by rfl) (fun q => ?_) (keep _ _ he) hfresh h1 h2 fun h' tk' k kf => ?_
  · have := Heap.lt_size he
    have q' : e = s.heap.objs.size := q
    rw [q'] at this
    exact Nat.lt_irrefl _ this
  · exact hq h' tk' (fun b o hb e => k b o hb (keep b o e)) kf

/-- the state behind the raise -/
structure Born (s : Shared) (e : Addr) (kd : Str) (s' : Shared) : Prop where
  keeps : Keeps s s'
  new : s.heap.get? e = none
  kf : Kf s'.heap e kd

theorem cf_new {P : Params} {h : Heap} {g : Array GenState} {d : Drawn} {t : Nat} {os : OsState} {kd tx : Str} {t1 t2 : Tok} {Q : Value → Shared → Prop} (X : Cf P h) (hroom : A.depth + 2 < recursionLimit)
    (h1 : kd.length + (": " : Str).length ≤ sizeLine) (h2 : (kd ++ (": " : Str)).length + tx.length ≤ sizeLine)
    (hq : ∀ e s', Born ⟨h, g, d, t, os⟩ e kd s' → Q (.ref e) s') : wpAny C.M A (call (.ref 31) [.str kd t1, .str tx t2]) Q E ⟨h, g, d, t, os⟩ := by
  refine wpAny_call_exc_init F.excBase_Exception (X.K 31 _ (cf_at P)) (cf_ns X.K) (cf_init_fn P) (X.K 28 _ rfl) rfl (fun h' e hm => ?_) (show 2 ≤ sizeLine by decide +kernel)
  obtain ⟨t0, he, _, _⟩ := hm.there
  have fr : (hd.heap_1 P).lookup e = none := by
    cases q : (hd.heap_1 P).lookup e with
    | none => rfl
    | some o => have := X.K e o q; rw [hm.new] at this; cases this
  refine cf_init_call (P := P) (s := ⟨h', g, d, t, os⟩) (X.keeps hm.keeps) ?_ he fr h1 h2 fun h2' tk' k kf => ⟨rfl, hq e _ ⟨⟨h2', tk', rfl, fun b o q => k b o (fun hb => ?_) (hm.keeps b o q)⟩, hm.new, kf⟩⟩
  · show A.depth + 1 < recursionLimit
    omega
  · subst hb
    rw [show (⟨h, g, d, t, os⟩ : Shared).heap.get? b = h.get? b from rfl, hm.new] at q; cases q

theorem raise_cf {P : Params} {s : Shared} {env : Env} {np cpos pos p1 p2 : Pos} {k1 k2 : Nat} {kd tx : Str} {Q : Flow → Shared → Prop} (X : Cf P s.heap) (hh : A.handled = none) (hroom : A.depth + 2 < recursionLimit)
    (hname : ∀ Q' s', (∀ b o, s.heap.get? b = some o → s'.heap.get? b = some o) → Q' (.ref 31) s' → wpAny C.M A (eval (.Name "CasFail" np) env) Q' E s')
    (h1 : kd.length + (": " : Str).length ≤ sizeLine) (h2 : (kd ++ (": " : Str)).length + tx.length ≤ sizeLine)
    (hq : ∀ e s', Born s e kd s' → E (.ref e) s') :
    wpAny C.M A (exec (.Raise (some (.Call (.Name "CasFail" np) [.Constant (.str kd) k1 p1, .Constant (.str tx) k2 p2] [] cpos)) none pos) env) Q E s := by
  obtain ⟨h, g, d, t, os⟩ := s
  rw [arm_exec_Raise]
  refine wpAny_bind (wpAny_standAt (raise_own (nm := "CasFail") (q := "CasFail") (CA := 31) (N := 30) (bs := [.type "Exception"]) (bm := bmE) (hdct := true) (sn := []) (sub := []) (ab := false) (col := none) (dd := none) (k0 := some (.ref 15)) (k1 := none) (k2 := some (.str "CasFail" 189)) (k3 := some (.str "CasFail" 197)) (k5 := some (.bool true)) (newId := "Exception.__new__") (by decide +kernel) hh ?_))
  refine wpAny_bind (wpAny_mono (wpAny_Call_ofName (hname _ _ (fun _ _ e => e) ?_)) (fun v s₃ h₃ => wpAny_bind (wpAny_standAt (wpAny_pure h₃))) fun _ _ x => x)
  unfold callWith
  refine wpAny_bind (wpAny_holding (args_raw rfl (wpAny_items_cons (wpAny_Constant_str (wpAny_items_cons (wpAny_Constant_str (wpAny_items_nil (wpAny_bind (wpAny_standAt ?_)))) rfl)) rfl)))
  have hp1 : (backTo cpos (starEach [.Constant (.str kd) k1 p1, .Constant (.str tx) k2 p2] env)).any (fun x => x.1) = false := rfl
  have hp2 : (backToKw cpos (keywordEach [] env)).any (fun x => x.1.isNone) = false := rfl
  simp only [hp1, hp2, Bool.or_false]
  refine wpAny_bind (wpAny_keeperOf_exc (X.K 31 _ (cf_at P)) ?_)
  refine wpAny_bind (cf_new X hroom h1 h2 fun e s' b => wpAny_bind (wpAny_holding (wpAny_point (wpAny_pure ?_))))
  obtain ⟨oe, vs, dd, m, t5, he, hc, hd, _, hv1, _⟩ := b.kf.ex
  have k := Ks.heap b.keeps
  exact ⟨e, oe, vs, rfl, k _ _ (X.K 31 _ (cf_at P)), he, hc, hd, hv1, hq e s' ⟨Ks.trans (Ks.tok _ _) b.keeps, b.new, b.kf⟩⟩
end
end Mine
namespace Mine
open PySem PySem.Spec PySem.Calls PyProof.Rows

/-! ## The exception leaves frames: what its dict holds is kept -/
/-- all but frames' slots stays, for what is no record -/
noncomputable def SlotsKept (h h' : Heap) : Prop := ∀ b o, h.get? b = some o → (∀ vs, o.data ≠ .fields vs) → ∃ sl, h'.get? b = some { o with slots := sl }
theorem SlotsKept.refl {h : Heap} : SlotsKept h h := fun b o e _ => ⟨o.slots, e⟩
theorem SlotsKept.trans {h h' h'' : Heap} (a : SlotsKept h h') (b : SlotsKept h' h'') : SlotsKept h h'' := fun x o e n => by
  obtain ⟨sl, e'⟩ := a x o e n
  obtain ⟨sl', e''⟩ := b x _ e' n
  exact ⟨sl', e''⟩
theorem SlotsKept.of_keeps {h h' : Heap} (k : ∀ b o, h.get? b = some o → h'.get? b = some o) : SlotsKept h h' := fun b o e _ => ⟨o.slots, k b o e⟩
theorem Ns1.slots {h h' : Heap} {a : Addr} {m : Str → Option Value} (x : h.Ns1 a m) (k : SlotsKept h h') : h'.Ns1 a m := by
  obtain ⟨o, es, ep, e, d, r⟩ := x
  obtain ⟨sl, e'⟩ := k a o e (fun vs q => by rw [d] at q; cases q)
  exact ⟨_, es, ep, e', d, r⟩
theorem Ns.slots {h h' : Heap} {a : Addr} {m : Str → Option Value} (x : h.Ns a m) (k : SlotsKept h h') : h'.Ns a m := by
  obtain ⟨o, es, ep, e, d, r⟩ := x
  obtain ⟨sl, e'⟩ := k a o e (fun vs q => by rw [d] at q; cases q)
  exact ⟨_, es, ep, e', d, r⟩

/-- the exception's own record, by its traceback so far -/
structure KObj (h : Heap) (e : Addr) (kd : Str) (tb : Value) : Prop where
  ex : ∃ oe vs dd m t, h.get? e = some oe ∧ oe.cls = .ref 31 ∧ oe.data = .fields vs ∧ vs[1]? = some tb ∧ oe.dict = some dd ∧ h.Ns1 dd m ∧ m "kind" = some (.str kd t)
noncomputable def TbAt (h base : Heap) (e T : Addr) : Prop := base.get? T = none ∧ T ≠ e ∧ ∃ oT ts, h.get? T = some oT ∧ oT.data = .fields ts ∧ ts[3]? = some .none

/-- it flies -/
structure Fly (base : Heap) (l : List Env) (e : Addr) (kd : Str) (h : Heap) : Prop where
  stays : base.StaysIn h
  new : base.get? e = none
  frames : h.FunFrames base l
  obj : ∃ T, KObj h e kd (.ref T) ∧ TbAt h base e T

section
variable {M : Model} {A : Around} {E : Value → Shared → Prop} {s : Shared}

theorem entry_on {base : Heap} {env : Env} {outer : List Env} {L e : Addr} {kd : Str} {tb : Value} {head : Value} {hadNext : Bool} {Q : Unit → Shared → Prop}
    (hfr : A.frames = some (env :: outer)) (hl : s.heap.FunFrames base (env :: outer)) (hf : env.frame = some L) (ho : KObj s.heap e kd tb) (hkb : base.StaysIn s.heap) (hen : base.get? e = none)
    (h : ∀ h', Fly base (env :: outer) e kd h' → SlotsKept s.heap h' → Q () { s with heap := h' }) :
    wpAny M A (do let a ← frameOf env; let pl ← entryPlaceOf L hadNext; let b ← EntryCells.newEntry head a .none (rawInt L) .none pl; setField (.ref e) 1 b) (fun _ s' => wpAny M A (setFlight (.ref e) none) Q E s') E s := by
  obtain ⟨oe, vs, dd, m, t, he, hc, hd, h1, hdd, hns, hk⟩ := ho.ex
  have hsz : 1 < vs.size := (Array.getElem?_eq_some_iff.mp h1).1
  have hene : e ∉ (env :: outer).filterMap (·.frame) := fun hm => by
    obtain ⟨_, o, ho, hnf⟩ := hl.mem hm
    rw [he] at ho; cases ho; exact hnf vs hd
  refine wpAny_bind (wpAny_frameOf_fun hfr hl hf fun h₁ hs₁ => ?_)
  refine wpAny_bind (wpAny_entryPlaceOf fun pl hpl => ?_)
  unfold EntryCells.newEntry newFields
  refine wpAny_bind (wpAny_newObj_type ?_ (hpl.sizeOk5 _ _ _ _ _))
  have he₁ : h₁.get? e = some oe := (hs₁.2.1 e hene).trans he
  have kb₁ : base.StaysIn h₁ := fun b o hbo => (hs₁.2.1 b fun hm => by rw [(hl.mem hm).1] at hbo; cases hbo).trans (hkb b o hbo)
  generalize hT0 : ({ cls := .type "traceback", dict := none, data := .fields ([head, .ref L, .none, rawInt L, .none] ++ (if pl.isEmpty then List.replicate 6 Value.none else pl)).toArray } : Obj) = oT0
  have hT0d : oT0.data = .fields ([head, .ref L, .none, rawInt L, .none] ++ (if pl.isEmpty then List.replicate 6 Value.none else pl)).toArray := by rw [← hT0]
  have he₂ := Heap.get?_push_of_some (h := h₁) oT0 he₁
  refine wpAny_setField he₂ hd hsz ?_
  have hTe : h₁.objs.size ≠ e := Nat.ne_of_gt (Heap.lt_size he₁)
  have hTfree : oT0.isFreed = false := Obj.isFreed_of_fields hT0d
  have hd₃ := Obj.data_mapFields hd (·.setIfInBounds 1 (Value.ref h₁.objs.size))
  have he₃ := Heap.get?_update_self (Obj.mapFields (·.setIfInBounds 1 (Value.ref h₁.objs.size))) he₂ (Obj.isFreed_of_fields hd₃)
  have hT₃ := (Heap.get?_update_other (h₁.push oT0) (Obj.mapFields (·.setIfInBounds 1 (Value.ref h₁.objs.size))) (Ne.symm hTe)).trans (Heap.get?_push_size h₁ hTfree)
  unfold setFlight
  refine wpAny_bind (wpAny_field he₃ hd₃ (x := .ref h₁.objs.size) (by simp [hsz]) ?_)
  rw [if_pos (show (Value.ref h₁.objs.size != Value.none) = true from by simp)]
  refine wpAny_setField hT₃ hT0d (by simp only [List.size_toArray, List.length_append, List.length_cons, List.length_nil] <;> omega) (h _ ?_ ?_)
  all_goals
    have keep : ∀ b o, b ≠ e → h₁.get? b = some o →
        (((h₁.push oT0).update e (Obj.mapFields (·.setIfInBounds 1 (Value.ref h₁.objs.size)))).update h₁.objs.size (Obj.mapFields (·.setIfInBounds 3 ((none : Option Addr).elim Value.none fun f => rawInt f)))).get? b = some o := fun b o hbe hb => by
      have hbT : h₁.objs.size ≠ b := Nat.ne_of_gt (Heap.lt_size hb)
      rw [Heap.get?_update_other _ _ hbT, Heap.get?_update_other _ _ (Ne.symm hbe)]
      exact Heap.get?_push_of_some _ hb
    have noRec : ∀ b o, s.heap.get? b = some o → (∀ vs, o.data ≠ .fields vs) → b ≠ e := fun b o hb hnf q => by
      rw [q, he] at hb; cases hb; exact hnf vs hd
    have sk : SlotsKept s.heap (((h₁.push oT0).update e (Obj.mapFields (·.setIfInBounds 1 (Value.ref h₁.objs.size)))).update h₁.objs.size (Obj.mapFields (·.setIfInBounds 3 ((none : Option Addr).elim Value.none fun f => rawInt f)))) := fun b o hb hnf => by
      obtain ⟨sl, hs⟩ := hs₁.2.2 b o hb
      exact ⟨sl, keep b _ (noRec b o hb hnf) hs⟩
  · refine ⟨fun b o hbo => keep b o (fun q => by rw [q, hen] at hbo; cases hbo) (kb₁ b o hbo), hen, hl.of_keeps fun b o hb hnf => let ⟨sl, e⟩ := sk b o hb hnf; ⟨_, e, rfl⟩, h₁.objs.size, ⟨_, _, dd, m, t, ?_, (Obj.cls_mapFields _ _).trans hc, hd₃, by simp [hsz], ?_, Ns1.slots hns sk, hk⟩, kb₁.fresh, hTe, _, _, Heap.get?_update_self _ hT₃ (Obj.isFreed_of_fields (Obj.data_mapFields hT0d _)), Obj.data_mapFields hT0d _, ?_⟩
    · rw [Heap.get?_update_other _ _ hTe]; exact he₃
    · obtain ⟨c, d0, dt, sl⟩ := oe
      cases hd
      exact hdd
    · first | (simp; done) | (rcases hpl with rfl | ⟨_, _, _, _, _, _, _, rfl⟩ <;> simp)
  · exact sk

theorem leave_first {base : Heap} {env : Env} {outer : List Env} {L e : Addr} {kd : Str} {Q : Unit → Shared → Prop}
    (hfr : A.frames = some (env :: outer)) (hl : s.heap.FunFrames base (env :: outer)) (hf : env.frame = some L) (ho : KObj s.heap e kd .none) (hkb : base.StaysIn s.heap) (hen : base.get? e = none)
    (h : ∀ h', Fly base outer e kd h' → SlotsKept s.heap h' → Q () { s with heap := h' }) : wpAny M A (leaving env (.ref e)) Q E s := by
  obtain ⟨oe, vs, dd, m, t, he, hc, hd, h1, _⟩ := ho.ex
  unfold leaving noteFrame
  simp only [hf]
  refine wpAny_bind (wpAny_bind (wpAny_field he hd h1 ?_))
  rw [if_neg (by decide)]
  refine entry_on hfr hl hf ho hkb hen fun h' F k => h h' ?_ k
  obtain ⟨a, b, ⟨_, _, c⟩, d⟩ := F
  exact ⟨a, b, c, d⟩

theorem leave_next {base : Heap} {env : Env} {outer : List Env} {L e : Addr} {kd : Str} {Q : Unit → Shared → Prop}
    (hfr : A.frames = some (env :: outer)) (hf : env.frame = some L) (F : Fly base (env :: outer) e kd s.heap)
    (h : ∀ h', Fly base outer e kd h' → SlotsKept s.heap h' → Q () { s with heap := h' }) : wpAny M A (leaving env (.ref e)) Q E s := by
  obtain ⟨hkb, hen, hl, T, ho, hnT, hTe, oT, ts, hT, hdT, h3⟩ := F
  obtain ⟨oe, vs, dd, m, t, he, hc, hd, h1, hdd, hns, hk⟩ := ho.ex
  unfold leaving noteFrame
  simp only [hf]
  refine wpAny_bind (wpAny_bind (wpAny_field he hd h1 ?_))
  rw [if_pos (show (Value.ref T != Value.none) = true from by simp)]
  refine wpAny_bind (wpAny_field hT hdT h3 ?_)
  rw [if_neg (show ¬ ((Value.none == rawInt L) = true) from by simp [rawInt])]
  refine wpAny_bind (wpAny_setField hT hdT (Array.getElem?_eq_some_iff.mp h3).1 ?_)
  have other : ∀ b, b ≠ T → (s.heap.update T (Obj.mapFields (·.setIfInBounds 3 Value.none))).get? b = s.heap.get? b := fun b hb => Heap.get?_update_other _ _ (Ne.symm hb)
  have sk : SlotsKept s.heap (s.heap.update T (Obj.mapFields (·.setIfInBounds 3 Value.none))) := fun b o hb hnf => ⟨o.slots, (other b (fun q => by rw [q, hT] at hb; cases hb; exact hnf ts hdT)).trans hb⟩
  refine entry_on hfr (hl.of_keeps fun b o hb hnf => let ⟨sl, e⟩ := sk b o hb hnf; ⟨_, e, rfl⟩) hf ⟨oe, vs, dd, m, t, (other e (Ne.symm hTe)).trans he, hc, hd, h1, hdd, Ns1.slots hns sk, hk⟩
    (fun b o hbo => (other b fun q => by rw [q, hnT] at hbo; cases hbo).trans (hkb b o hbo)) hen fun h' F k => h h' ?_ (sk.trans k)
  obtain ⟨a, b, ⟨_, _, c⟩, d⟩ := F
  exact ⟨a, b, c, d⟩
end
end Mine
namespace Mine
open PySem PySem.Spec PySem.Calls PyProof.Rows

/-! ## Raising, along the small language -/
structure Up (base : Heap) (l : List Env) (e : Addr) (kd : Str) (h : Heap) : Prop where
  stays : base.StaysIn h
  new : base.get? e = none
  frames : h.FunFrames base l
  obj : KObj h e kd .none ∨ ∃ T, KObj h e kd (.ref T) ∧ TbAt h base e T

theorem leave_up {M : Model} {A : Around} {E : Value → Shared → Prop} {s : Shared} {base : Heap} {env : Env} {outer : List Env} {L e : Addr} {kd : Str} {Q : Unit → Shared → Prop}
    (hfr : A.frames = some (env :: outer)) (hf : env.frame = some L) (U : Up base (env :: outer) e kd s.heap)
    (h : ∀ h', Up base outer e kd h' → SlotsKept s.heap h' → Q () { s with heap := h' }) : wpAny M A (leaving env (.ref e)) Q E s := by
  obtain ⟨a, b, c, d⟩ := U
  rcases d with d | ⟨T, d1, d2⟩
  · exact leave_first hfr c hf d a b fun h' F k => h h' ⟨F.stays, F.new, F.frames, .inr F.obj⟩ k
  · exact leave_next hfr hf ⟨a, b, c, T, d1, d2⟩ fun h' F k => h h' ⟨F.stays, F.new, F.frames, .inr F.obj⟩ k

/-- the tree raises -/
noncomputable def Xx {α : Type} (C : Cx) (A : Around) (base : Heap) (l : List Env) (kd : Str) (t : Sem α) (s₀ s : Shared) : Prop :=
  ∀ (Q : α → Shared → Prop) (E : Value → Shared → Prop), (∀ e s', (∃ h tk, s' = { s₀ with heap := h, toks := tk }) → Up base l e kd s'.heap → SlotsKept s₀.heap s'.heap → E (.ref e) s') → wpAny C.M A t Q E s
noncomputable def CallX (C : Cx) (ft : Nat → Option Fi) (n f : Nat) (ds : List D) (kd : Str) : Prop :=
  ∀ i, ft f = some i → ∀ (A : Around) (H : List Addr) (s : Shared) (vs : List Value) (base : Heap) (l : List Env), Room A n → St C H s → RzL H s.heap ds vs → A.frames = some l → base.StaysIn s.heap → s.heap.FunFrames base l → Xx C A base l kd (call (.ref i.addr) vs) s s

structure Fx (A : Around) (env : Env) (s₀ : Shared) (base : Heap) (outer : List Env) : Prop where
  fr : A.frames = some (env :: outer)
  loc : env.frame = some env.locals
  stays : base.StaysIn s₀.heap
  ff : s₀.heap.FunFrames base outer

section
variable {C : Cx} {A : Around} {H H' H₀ : List Addr} {s s' s₀ : Shared} {env : Env} {z : Sc} {ρ : Rho} {o : OwnL} {base : Heap} {outer l : List Env} {kd : Str}

theorem Fx.here (X : Fx A env s₀ base outer) (Z : EnvF z env) (F : Fm C z env s₀ H₀ H ρ o s) : base.StaysIn s.heap ∧ s.heap.FunFrames base (env :: outer) := by
  refine ⟨fun b ob e => F.keep b ob (X.stays b ob e), ?_⟩
  obtain ⟨m, hm⟩ := F.ns
  refine Heap.FunFrames.cons (by rw [Z.fn]; decide) X.loc hm ?_ (X.ff.of_keeps fun b ob e _ => ⟨ob, F.keep b ob e, rfl⟩)
  cases q : base.get? env.locals with
  | none => rfl
  | some ob => have := X.stays _ _ q; rw [F.fresh] at this; cases this

theorem Xx.mono {α : Type} {t : Sem α} {s1 : Shared} (x : Xx C A base l kd t s1 s) (hs : ∃ h tk, s1 = { s₀ with heap := h, toks := tk }) (k : SlotsKept s₀.heap s1.heap) : Xx C A base l kd t s₀ s := fun Q E h =>
  x Q E fun e s' hsame U sk => h e s' (by
    obtain ⟨h1, tk1, rfl⟩ := hs
    obtain ⟨h2, tk2, rfl⟩ := hsame
    exact ⟨h2, tk2, rfl⟩) U (k.trans sk)
theorem Fm.sk (F : Fm C z env s₀ H₀ H ρ o s) : SlotsKept s₀.heap s.heap := SlotsKept.of_keeps F.keep

/-! ### statements -/
theorem xx_cons {st : Stmt} {rest : List Stmt} {ρ1 : Rho} {o1 : OwnL} (h1 : Xs C A z env s₀ H₀ H (exec st env) (ρ1, o1, none) s) (h2 : ∀ H' s', Fm C z env s₀ H₀ H' ρ1 o1 s' → Xx C A base l kd (execs rest env) s₀ s') :
    Xx C A base l kd (execs (st :: rest) env) s₀ s := fun Q E h =>
  wpAny_execs_cons (wpAny_mono (h1 E) (fun f s' q => by
    obtain ⟨_, rfl, H', F, _⟩ := q
    exact h2 H' s' F Q E h) fun _ _ x => x)
theorem xx_here {st : Stmt} {rest : List Stmt} (h1 : Xx C A base l kd (exec st env) s₀ s) : Xx C A base l kd (execs (st :: rest) env) s₀ s := fun Q E h => wpAny_execs_cons (h1 _ E h)
theorem xx_ret {e : Expr} {pos : Pos} (h1 : Xx C A base l kd (eval e env) s₀ s) : Xx C A base l kd (exec (.Return (some e) pos) env) s₀ s := fun Q E h => wpAny_Return_some (h1 _ E h)
theorem xx_if {c : Expr} {a b : List Stmt} {pos : Pos} {t : Bool} (F : Fm C z env s₀ H₀ H ρ o s) (hc : Gb C A (isTrue c env (eval c env)) t s)
    (h : ∀ s', Fm C z env s₀ H₀ H ρ o s' → Xx C A base l kd (execs (match t with | true => a | false => b) env) s₀ s') : Xx C A base l kd (exec (.If c a b pos) env) s₀ s := fun Q E q =>
  wpAny_If (hc.use fun s' k => by
    have := h s' (F.keeps k) Q E q
    cases t <;> exact this)
theorem xx_raise {P : Params} {np cpos pos p1 p2 : Pos} {k1 k2 : Nat} {tx : Str} {n : Nat} (B : Cf P C.h0) (hg : C.h0.Ns mainGlobals C.mg) (hm : C.mg "CasFail" = some (.ref 31)) (hx : z.names.lookup ("CasFail" : Str) = some .globalImplicit) (R : Room A (n + 3)) (Z : EnvF z env) (X : Fx A env s₀ base outer) (F : Fm C z env s₀ H₀ H ρ o s)
    (h1 : kd.length + (": " : Str).length ≤ sizeLine) (h2 : (kd ++ (": " : Str)).length + tx.length ≤ sizeLine) :
    Xx C A base (env :: outer) kd (exec (.Raise (some (.Call (.Name "CasFail" np) [.Constant (.str kd) k1 p1, .Constant (.str tx) k2 p2] [] cpos)) none pos) env) s₀ s := fun Q E q => by
  obtain ⟨hst, hff⟩ := X.here Z F
  refine raise_cf (P := P) (B.keeps F.st.old) R.h (by have := R.d; omega) (fun Q' s' k q' => ?_) h1 h2 fun e s' b => ?_
  · exact Name_function_global Z.fn ((Z.kd _).trans hx) (loadGlobal_global (env := env) (by rw [Z.gl]; exact hg.keeps fun b o e => k b o (F.st.old b o e)) hm q') (by decide +kernel)
  · obtain ⟨oe, vs, dd, m, t, he, hc, hd, _, hv, hdd, _, hns, hk⟩ := b.kf.ex
    obtain ⟨hp, tk, rfl⟩ := F.same
    obtain ⟨h', tk', rfl, kk⟩ := b.keeps
    refine q e _ ⟨h', tk', rfl⟩ ⟨fun b ob e => kk b ob (hst b ob e), ?_, hff.of_keeps fun b ob e _ => ⟨ob, kk b ob e, rfl⟩, .inl ⟨oe, vs, dd, m, t, he, hc, hd, hv, hdd, hns, hk⟩⟩ (SlotsKept.of_keeps fun b ob e => kk b ob (F.keep b ob e))
    cases hb : base.get? e with
    | none => rfl
    | some ob => have := hst _ _ hb; rw [b.new] at this; cases this

/-! ### values -/
theorem vx_ite {c x y : Expr} {pos : Pos} {b : Bool} (F : Fm C z env s₀ H₀ H ρ o s) (hc : Gb C A (isTrue c env (eval c env)) b s) (h : ∀ s', Fm C z env s₀ H₀ H ρ o s' → Xx C A base l kd (eval (match b with | true => x | false => y) env) s₀ s') :
    Xx C A base l kd (eval (.IfExp c x y pos) env) s₀ s := fun Q E q => wpAny_IfExp (hc.use fun s' k => by
    have := h s' (F.keeps k) Q E q
    cases b <;> exact this)
theorem exec_of_execs {M : Model} {E : Value → Shared → Prop} {st : Stmt} {Q : Flow → Shared → Prop} (h : wpAny M A (execs [st] env) Q E s) : wpAny M A (exec st env) Q E s := fun Γ p hΓ => by
  have := h Γ p hΓ
  rw [execs_cons, Sem.wp_bind'] at this
  refine Sem.wp_mono M Γ _ (fun f p' s' h' => ?_) (fun _ _ _ h' => h') _ _ this
  cases f <;> exact h'

/-- a call: of a def that raises, or with an argument that raises -/
theorem vx_call {ft : Nat → Option Fi} {gd : Str → Option D} {x : Str} {p pos : Pos} {args : List Expr} {ds : List D} {f n : Nat} {i : Fi} (Z : EnvF z env) (X : Fx A env s₀ base outer) (F : Fm C z env s₀ H₀ H ρ o s) (B : Bas C ft gd) (R : Room A n) (hi : ft f = some i) (hn : i.name = x)
    (hx : z.names.lookup x = some .globalImplicit) (hd : NotDebug x) (hne : args ≠ []) (hs : ∀ e ∈ args, NotStar e) (g : GvL C A H (spliced (backTo pos (starEach args env))) ds s) (k : CallX C ft n f ds kd) :
    Xx C A base (env :: outer) kd (eval (.Call (.Name x p) args [] pos) env) s₀ s := fun Q E q => by
  obtain ⟨hv, ⟨ob, ho, hdt⟩, _⟩ := B.fn f i hi
  rw [call_arm]
  refine wpAny_bind (name_glob Z.toEnvS F.st B.g hx (hn ▸ hv) hd ?_)
  refine callWith_function (o := ob) (fd := i.fd) (args_of hne hs g fun vs s1 k1 r1 => ⟨⟨F.st.old _ _ ho |> Ks.heap k1 _ _, hdt⟩, ?_⟩)
  have F1 := F.keeps k1
  obtain ⟨h1, h2⟩ := X.here Z F1
  exact (k i hi A H s1 vs base _ R F1.st r1 X.fr h1 h2).mono (s₀ := s₀) F1.same F1.sk _ E q
theorem vx_callarg {ft : Nat → Option Fi} {gd : Str → Option D} {x : Str} {p pos : Pos} {e : Expr} {r : List Expr} {f : Nat} {i : Fi} (Z : EnvF z env) (F : Fm C z env s₀ H₀ H ρ o s) (B : Bas C ft gd) (hi : ft f = some i) (hn : i.name = x)
    (hx : z.names.lookup x = some .globalImplicit) (hd : NotDebug x) (hs : NotStar e) (g : Xx C A base l kd (eval e env) s₀ s) :
    Xx C A base l kd (eval (.Call (.Name x p) (e :: r) [] pos) env) s₀ s := fun Q E q => by
  obtain ⟨hv, ⟨ob, ho, hdt⟩, _⟩ := B.fn f i hi
  rw [call_arm]
  refine wpAny_bind (name_glob Z.toEnvS F.st B.g hx (hn ▸ hv) hd ?_)
  refine callWith_function (o := ob) (fd := i.fd) ?_
  exact args_raw (hs env r) (wpAny_items_cons (g _ E q) (hs env r))

theorem er_head {gd : Str → Option D} {fnm : Nat → Option Str} {ts : List Stmt} {sm : Sm} {r : List Sm} (k : ErB gd fnm z ts (sm :: r)) : (∃ st rest, ts = st :: rest ∧ ErB gd fnm z [st] [sm] ∧ ErB gd fnm z rest r) ∨ sm = .frz ∨ sm = .stuck := by
  cases k with
  | frz h => exact .inr (.inl rfl)
  | stuck => exact .inr (.inr rfl)
  | rais hx hr => exact .inl (⟨_, _, rfl, .rais hx .nil, hr⟩)
  | ret h hr => exact .inl (⟨_, _, rfl, .ret h .nil, hr⟩)
  | asg a b c d hr => exact .inl (⟨_, _, rfl, .asg a b c d .nil, hr⟩)
  | asgS a b c d e hr => exact .inl (⟨_, _, rfl, .asgS a b c d e .nil, hr⟩)
  | asgP a b c d e hr => exact .inl (⟨_, _, rfl, .asgP a b c d e .nil, hr⟩)
  | sub a b c hr => exact .inl (⟨_, _, rfl, .sub a b c .nil, hr⟩)
  | ite a b c hr => exact .inl (⟨_, _, rfl, .ite a b c .nil, hr⟩)
  | whl a b hr => exact .inl (⟨_, _, rfl, .whl a b .nil, hr⟩)
  | forT a b c d e hr => exact .inl (⟨_, _, rfl, .forT a b c d e .nil, hr⟩)
  | forE a b c d e f g h i hr => exact .inl (⟨_, _, rfl, .forE a b c d e f g h i .nil, hr⟩)
  | own a b c d e hr => exact .inl (⟨_, _, rfl, .own a b c d e .nil, hr⟩)
  | own2 a b c d e f g h i j hr => exact .inl (⟨_, _, rfl, .own2 a b c d e f g h i j .nil, hr⟩)
  | sto a b c d e hr => exact .inl (⟨_, _, rfl, .sto a b c d e .nil, hr⟩)
end

noncomputable def xDir (P : Pg) (n : Nat) (self : Job → Option Str) (ρ : Rho) (o : OwnL) : Sm → Option Str
  | .rais kd tx => when (Nat.ble (kd.length + (": " : Str).length) sizeLine && Nat.ble ((kd ++ (": " : Str)).length + tx.length) sizeLine && Nat.ble 2 n) (some kd)
  | .ret e => self (.x ρ o e)
  | .ite c a b => thn (bOf (run P n (.t ρ o c))) fun t => self (.s ρ o (match t with | true => a | false => b))
  | _ => none
noncomputable def xArg (self : Job → Option Str) (ρ : Rho) (o : OwnL) : List X → Option Str
  | [] => none
  | e :: _ => self (.x ρ o e)
noncomputable def xVal (P : Pg) (n : Nat) (self : Job → Option Str) (ρ : Rho) (o : OwnL) : X → Option Str
  | .ite c a b => thn (bOf (run P n (.t ρ o c))) fun t => self (.x ρ o (match t with | true => a | false => b))
  | .call f l => match lOf (run P n (.l ρ o l)) with
    | some ds => self (.c f ds)
    | none => xArg self ρ o l
  | _ => none
noncomputable def plainS : Sm → Bool
  | .frz => false
  | .stuck => false
  | _ => true
noncomputable def xStep (P : Pg) (n : Nat) (self : Job → Option Str) : Job → Option Str
  | .c f ds => thn (P.df f) fun p => when (Nat.beq ds.length p.1) (self (.s (rho0 0 ds) none p.2))
  | .s ρ o ss => match ss with
    | [] => none
    | st :: r => when (plainS st) (match oOf (run P n (.s ρ o [st])) with
      | some out => match out.2.2 with
        | none => self (.s out.1 out.2.1 r)
        | some _ => none
      | none => xDir P n self ρ o st)
  | .x ρ o e => xVal P n self ρ o e
  | _ => none
noncomputable def runX (P : Pg) : Nat → Job → Option Str
  | 0, _ => none
  | n + 1, j => xStep P n (runX P n) j

structure XAll (C : Cx) (ft : Nat → Option Fi) (gd : Str → Option D) (fnm : Nat → Option Str) (P : Pg) (n : Nat) : Prop where
  c : ∀ f ds kd, runX P n (.c f ds) = some kd → CallX C ft n f ds kd
  s : ∀ ρ o ss kd, runX P n (.s ρ o ss) = some kd → ∀ z ts, ErB gd fnm z ts ss → ∀ A env s₀ H₀ H s base outer, Room A n → EnvF z env → Fx A env s₀ base outer → Fm C z env s₀ H₀ H ρ o s → Xx C A base (env :: outer) kd (execs ts env) s₀ s
  x : ∀ ρ o e kd, runX P n (.x ρ o e) = some kd → ∀ z t, ErX gd fnm z t e → ∀ A env s₀ H₀ H s base outer, Room A n → EnvF z env → Fx A env s₀ base outer → Fm C z env s₀ H₀ H ρ o s → Xx C A base (env :: outer) kd (eval t env) s₀ s

section
variable {C : Cx} {ft : Nat → Option Fi} {gd : Str → Option D} {fnm : Nat → Option Str} {P : Pg} {PR : Params}
theorem soundX (W : Wd C ft gd fnm P) (B : Cf PR C.h0) (hm : C.mg "CasFail" = some (.ref 31)) : ∀ n, XAll C ft gd fnm P n := fun n => by
  induction n with
  | zero => exact ⟨fun _ _ _ h => (by cases h), fun _ _ _ _ h => (by cases h), fun _ _ _ _ h => (by cases h)⟩
  | succ n I =>
    have J := sound W n
    refine ⟨fun f ds kd h => ?_, fun ρ o ss kd h z ts k A env s₀ H₀ H s base outer R Z X F => ?_, fun ρ o e kd h z t k A env s₀ H₀ H s base outer R Z X F => ?_⟩
    · have h' : (thn (P.df f) fun p => when (Nat.beq ds.length p.1) (runX P n (.s (rho0 0 ds) none p.2))) = some kd := h
      obtain ⟨p, h1, h2⟩ := thn_eq h'
      obtain ⟨h2, h3⟩ := when_eq h2
      obtain ⟨i, z, hi, K, hb⟩ := W.df f p.1 p.2 h1
      intro i' hi' A H s vs base l R S r hfr hst hff Q E q
      rw [hi] at hi'; cases hi'
      obtain ⟨_, ⟨ob, ho, hdt⟩, hcd⟩ := W.B.fn f i hi
      have kold := S.old
      refine call_raw K (by have := R.d; omega) S r (Nat.eq_of_beq_eq_true h2) (kold _ _ ho) hdt (W.B.lim.keeps kold) (hcd.keeps kold) fun s₁ F => ?_
      have Z : EnvF z (callEnvC i.fd s.heap.objs.size i.addr) := { toEnvZ := envC K, kd := fun x => by show i.fd.scope.names.lookup x = _; rw [K.names] }
      have X : Fx (A.deeper (callEnvC i.fd s.heap.objs.size i.addr)) (callEnvC i.fd s.heap.objs.size i.addr) s base l := ⟨Around.frames_deeper hfr, rfl, hst, hff⟩
      refine I.s _ _ _ _ h3 _ _ hb _ _ s H H s₁ base l R.deeper Z X F _ _ fun e s' hs U sk => ?_
      refine leave_up (Around.frames_deeper hfr) rfl U fun h' U' sk' => ?_
      obtain ⟨h2, tk2, rfl⟩ := hs
      exact q e _ ⟨h', tk2, rfl⟩ U' (sk.trans sk')
    · have R' : Room A n := R.less (Nat.le_succ n)
      cases ss with
      | nil => cases h
      | cons sm r =>
        have h0 : when (plainS sm) (match oOf (run P n (.s ρ o [sm])) with
          | some out => match out.2.2 with
            | none => runX P n (.s out.1 out.2.1 r)
            | some _ => none
          | none => xDir P n (runX P n) ρ o sm) = some kd := h
        obtain ⟨hpl, h'⟩ := when_eq h0
        rcases er_head k with ⟨st, rest, rfl, k1, k2⟩ | rfl | rfl
        · cases hr : oOf (run P n (.s ρ o [sm])) with
          | some out =>
            rw [hr] at h'
            obtain ⟨ρ1, o1, d1⟩ := out
            cases d1 with
            | some d => cases h'
            | none =>
              exact xx_cons (fun E => exec_of_execs (J.s _ _ _ _ (oOf_eq hr) _ _ k1 A env s₀ H₀ H s R' Z F E)) fun H' s' F' => I.s _ _ _ _ h' _ _ k2 A env s₀ H₀ H' s' base outer R' Z X F'
          | none =>
            rw [hr] at h'
            have h'' : xDir P n (runX P n) ρ o sm = some kd := h'
            refine xx_here ?_
            cases k1 with
            | rais hx =>
              obtain ⟨h1, h2⟩ := when_eq h''
              cases h2
              obtain ⟨h1, h3⟩ := Bool.and_eq_true_iff.mp h1
              obtain ⟨h1, h2⟩ := Bool.and_eq_true_iff.mp h1
              have hn := Nat.le_of_ble_eq_true h3
              exact xx_raise (n := n - 2) B W.B.g hm hx (R.less (by omega)) Z X F (Nat.le_of_ble_eq_true h1) (Nat.le_of_ble_eq_true h2)
            | ret he _ => exact xx_ret (I.x _ _ _ _ h'' _ _ he A env s₀ H₀ H s base outer R' Z X F)
            | ite hc ha hb _ =>
              obtain ⟨t, h1, h2⟩ := thn_eq h''
              refine xx_if F (J.t _ _ _ _ (bOf_eq h1) _ _ hc A env H s R' Z.toX (F.xm Z)) fun s' F' => ?_
              cases t with
              | true => exact I.s _ _ _ _ h2 _ _ ha A env s₀ H₀ H s' base outer R' Z X F'
              | false => exact I.s _ _ _ _ h2 _ _ hb A env s₀ H₀ H s' base outer R' Z X F'
            | _ => cases h''
        · cases hpl
        · cases hpl
    · have R' : Room A n := R.less (Nat.le_succ n)
      have h' : xVal P n (runX P n) ρ o e = some kd := h
      cases k with
      | ite hc ha hb =>
        obtain ⟨t, h1, h2⟩ := thn_eq h'
        refine vx_ite F (J.t _ _ _ _ (bOf_eq h1) _ _ hc A env H s R' Z.toX (F.xm Z)) fun s' F' => ?_
        cases t with
        | true => exact I.x _ _ _ _ h2 _ _ ha A env s₀ H₀ H s' base outer R' Z X F'
        | false => exact I.x _ _ _ _ h2 _ _ hb A env s₀ H₀ H s' base outer R' Z X F'
      | call hx hd hf hne hl =>
        obtain ⟨i, hi, hn⟩ := W.fn _ _ hf
        rename_i f l
        have h'' : (match lOf (run P n (.l ρ o l)) with
          | some ds => runX P n (.c f ds)
          | none => xArg (runX P n) ρ o l) = some kd := h'
        cases hq : lOf (run P n (.l ρ o l)) with
        | some ds =>
          rw [hq] at h''
          exact vx_call Z X F W.B R' hi hn hx hd hne (notStar_of hl) (J.l _ _ _ _ (lOf_eq hq) _ _ hl A env H s R' Z.toX (F.xm Z) _) (I.c _ _ _ h'')
        | none =>
          rw [hq] at h''
          cases hl with
          | nil => cases h''
          | cons he hs hr => exact vx_callarg Z F W.B hi hn hx hd hs (I.x _ _ _ _ h'' _ _ he A env s₀ H₀ H s base outer R' Z X F)
      | _ => cases h'
end
end Mine
namespace Mine
open PySem PySem.Spec PySem.Calls PyProof.Rows

section
variable {C : Cx} {A : Around} {E : Value → Shared → Prop} {h : Heap} {g : Array GenState} {d : Drawn} {t : Nat} {os : OsState}
variable {nm q : Str} {CA N a dd : Addr} {bs bm : List Value} {sn : List Str} {sub : List Value} {ab : Bool} {col : Option Bool} {dc : Option Addr} {k0 k1 k2 k3 k5 : Option Value} {B newId : String} {mN m : Str → Option Value} {o : Obj} {name : Str} {v : Value}

theorem own_entry {tk : Tok} {Q : Fin → Shared → Prop} (hmro : mroOf (.type B) = pure bm) (hC : h.get? CA = some (excClassObj nm q CA N bs bm true sn sub ab col dc k0 k1 k2 k3 k5 newId)) (hN : h.Ns N mN)
    (hn : mN name = none) (hB : typeLookup (.type B) name = pure none) (hx : h.get? a = some o) (hc : o.cls = .ref CA) (hnc : ∀ c, o.data ≠ .cls c) (hdd : o.dict = some dd) (hns : h.Ns dd m) (hv : m name = some v) (hq : Q (.done (.ret v)) ⟨h, g, d, t, os⟩) :
    wpAny C.M A (Builtin.«object.__getattribute__» ⟨[.ref a, .str name tk], []⟩) Q E ⟨h, g, d, t, os⟩ := by
  unfold Builtin.«object.__getattribute__»
  repeat (any_goals (first | assumption | (with_reducible refine wpAny_loadPart_at hx ?_; rw [hc]) | (with_reducible refine wpAny_typeLookup_exc hC hN hmro hB ?_; rw [hn]) | wp_step))
  split
  · rename_i c hcd
    exact absurd hcd (hnc c)
  unfold instanceDict
  repeat (first | (with_reducible refine wpAny_loadPart_at hx ?_; rw [hc]) | with_reducible refine wpAny_loadPart_at hC ?_ | wp_step)
  rw [hdd]
  repeat (first | (with_reducible refine wpAny_nsGet hns ?_; rw [hv]) | wp_step)
  exact hq

theorem own_check {M : Model} {nameV : Value} {Q : Unit → Shared → Prop} (hbase : bm.contains (.type "BaseException") = true) (hC : h.get? CA = some (excClassObj nm q CA N bs bm true sn sub ab col dc k0 k1 k2 k3 k5 newId))
    (hx : h.get? a = some o) (hc : o.cls = .ref CA) (hq : Q () ⟨h, g, d, t, os⟩) : wpAny M A (checkBuiltinCall "BaseException.__getattribute__" ⟨[.ref a, nameV], []⟩) Q E ⟨h, g, d, t, os⟩ := by
  have hk : builtinKind "BaseException.__getattribute__" = some .slot := by decide +kernel
  have hsplit : splitId "BaseException.__getattribute__" = some ("BaseException", "__getattribute__") := by decide +kernel
  have hcB : (Value.ref CA :: bm).contains (.type "BaseException") = true := by rw [List.contains_cons, hbase, Bool.or_true]
  have ha := F.args_bexc_ga (.ref a) nameV
  simp only [checkBuiltinCall, hk, hsplit]
  refine wpAny_bind ?_
  unfold isInstance
  repeat (first | (with_reducible refine wpAny_loadPart_at hx ?_; rw [hc]) | (with_reducible refine wpAny_isSubtype_exc hC ?_; rw [hcB]) | wp_step)
  exact hq

theorem own_attr {expr : Bool} {Q : Value → Shared → Prop} (FB : ExcAttrBase B bm) (hC : h.get? CA = some (excClassObj nm q CA N bs bm true sn sub ab col dc k0 k1 k2 k3 k5 newId)) (hN : h.Ns N mN)
    (hn : mN name = none) (hga : mN "__getattribute__" = none) (hgt : mN "__getattr__" = none) (hB : typeLookup (.type B) name = pure none) (hx : h.get? a = some o) (hc : o.cls = .ref CA) (hnc : ∀ c, o.data ≠ .cls c) (hdd : o.dict = some dd) (hns : h.Ns dd m) (hv : m name = some v)
    (hh : handedOut v = pure v) (hq : Q v ⟨h, g, d, t + 1, os⟩) : wpAny C.M A (getAttr (.ref a) name expr) Q E ⟨h, g, d, t, os⟩ := by
  have f3 := FB.ga.bind (.ref a)
  have hx0 : (expr && onTheHeap (Value.builtin "BaseException.__getattribute__")) = false := by cases expr <;> rfl
  have hx2 : (Value.builtin "BaseException.__getattribute__" == Value.builtin "object.__getattribute__") = false := by decide +kernel
  have hx1 : (onTheHeap (Value.ref CA) && Value.builtin "BaseException.__getattribute__" == Value.builtin "object.__getattribute__") = false := by rw [hx2]; rfl
  unfold getAttr
  repeat (any_goals (first | assumption | (with_reducible refine wpAny_loadPart_at hx ?_; rw [hc]) | (with_reducible refine wpAny_typeLookup_exc hC hN FB.mro FB.ga.lookup ?_; rw [hga]) | (with_reducible refine wpAny_typeLookup_exc hC hN FB.mro FB.noGetattr ?_; rw [hgt]) | wp_step))
  refine codeAny_call_builtin FB.ga.plain F.entry_bexc_ga (own_check FB.hasBase hC hx hc (own_entry FB.mro hC hN hn hB hx hc hnc hdd hns hv ?_))
  show wpAny _ _ (handedOut v) _ _ _
  rw [hh]
  exact wpAny_pure hq
end
end Mine
namespace Mine
open PySem PySem.Spec PySem.Calls PyProof.Rows PySem.W

/-! ## _law_told -/
noncomputable def sc_told : Sc := ⟨["t", "refusal"], [("t", .local), ("refusal", .local), ("from_term", .globalImplicit), ("CasFail", .globalImplicit)]⟩
theorem fd_told (P : Params) : FdOk (fdAt P 271) (bodyAt P 271) sc_told 1 := ⟨rfl, rfl, rfl, rfl, rfl, rfl, rfl, rfl, by decide +kernel, by decide +kernel, by decide +kernel, fun vs h => by match vs, h with | [v0], _ => rfl⟩
theorem nd_t' : NotDebug "t" := by show (_ == _) = false; decide +kernel
theorem nd_ft : NotDebug "from_term" := by show (_ == _) = false; decide +kernel
theorem lk_told_ft : sc_told.names.lookup ("from_term" : Str) = some .globalImplicit := by decide +kernel
theorem lk_told_cf : sc_told.names.lookup ("CasFail" : Str) = some .globalImplicit := by decide +kernel
theorem lk_told_r : sc_told.names.lookup ("refusal" : Str) = some .local := by decide +kernel

theorem note_up {M : Model} {A : Around} {E : Value → Shared → Prop} {s : Shared} {base : Heap} {env : Env} {outer : List Env} {L e : Addr} {kd : Str} {Q : Unit → Shared → Prop}
    (hfr : A.frames = some (env :: outer)) (hf : env.frame = some L) (U : Up base (env :: outer) e kd s.heap)
    (h : ∀ h', Fly base (env :: outer) e kd h' → SlotsKept s.heap h' → Q () { s with heap := h' }) : wpAny M A (noteFrame (.ref e) env) (fun _ s2 => wpAny M A (setFlight (.ref e) none) Q E s2) E s := by
  obtain ⟨hkb, hen, hl, hor⟩ := U
  rcases hor with ho | ⟨T, ho, hnT, hTe, oT, ts, hT, hdT, h3⟩
  · obtain ⟨oe, vs, dd, m, t, he, hc, hd, h1, _⟩ := ho.ex
    unfold noteFrame
    simp only [hf]
    refine wpAny_bind (wpAny_field he hd h1 ?_)
    rw [if_neg (by decide)]
    exact entry_on hfr hl hf ho hkb hen h
  · obtain ⟨oe, vs, dd, m, t, he, hc, hd, h1, hdd, hns, hk⟩ := ho.ex
    unfold noteFrame
    simp only [hf]
    refine wpAny_bind (wpAny_field he hd h1 ?_)
    rw [if_pos (show (Value.ref T != Value.none) = true from by simp)]
    refine wpAny_bind (wpAny_field hT hdT h3 ?_)
    rw [if_neg (show ¬ ((Value.none == rawInt L) = true) from by simp [rawInt])]
    refine wpAny_bind (wpAny_setField hT hdT (Array.getElem?_eq_some_iff.mp h3).1 ?_)
    have other : ∀ b, b ≠ T → (s.heap.update T (Obj.mapFields (·.setIfInBounds 3 Value.none))).get? b = s.heap.get? b := fun b hb => Heap.get?_update_other _ _ (Ne.symm hb)
    have sk : SlotsKept s.heap (s.heap.update T (Obj.mapFields (·.setIfInBounds 3 Value.none))) := fun b o hb hnf => ⟨o.slots, (other b (fun q => by rw [q, hT] at hb; cases hb; exact hnf ts hdT)).trans hb⟩
    exact entry_on hfr (hl.of_keeps fun b o hb hnf => let ⟨sl, e⟩ := sk b o hb hnf; ⟨_, e, rfl⟩) hf ⟨oe, vs, dd, m, t, (other e (Ne.symm hTe)).trans he, hc, hd, h1, hdd, Ns1.slots hns sk, hk⟩
      (fun b o hbo => (other b fun q => by rw [q, hnT] at hbo; cases hbo).trans (hkb b o hbo)) hen fun h' F k => h h' F (sk.trans k)

section
variable {C : Cx} {A : Around} {H : List Addr} {s : Shared}
/-- a call, with what the names hold at its start -/
theorem call_raw2 {fd : FuncData} {z : Sc} {a : Addr} {o : Obj} {body : List Stmt} {ar : Nat} {vs : List Value} {ds : List D} {Q : Value → Shared → Prop} {E : Value → Shared → Prop} (K : FdOk fd body z ar) (hd : A.depth < recursionLimit) (S : St C H s) (r : RzL H s.heap ds vs) (hl : ds.length = ar)
    (ho : s.heap.get? a = some o) (hdt : o.data = .func fd) (hlim : s.heap.NoLimit) (hcd : s.heap.CodeRec fd.code fd.qualname)
    (h : ∀ s₁, Fm C z (callEnvC fd s.heap.objs.size a) s H H (rho0 0 ds) none s₁ → s₁.heap.Ns (callEnvC fd s.heap.objs.size a).locals (bindL (callEnvC fd s.heap.objs.size a).kindOf ((z.nms.take ar).zip vs) fun _ => none) →
      wpAny C.M (A.deeper (callEnvC fd s.heap.objs.size a)) (execs body (callEnvC fd s.heap.objs.size a)) (fun f s' => Q (match f with | .ret v => v | _ => .none) s')
        (fun e s' => wpAny C.M (A.deeper (callEnvC fd s.heap.objs.size a)) (leaving (callEnvC fd s.heap.objs.size a) e) (fun _ s'' => E e s'') (fun e' s'' => E e' s'') s') s₁) :
    wpAny C.M A (call (.ref a) vs) Q E s := by
  have len : vs.length = ar := (RzL.len r).trans hl
  refine wpAny_call (codeAny_call_cells hd ho hdt hlim hcd K.body (K.bind vs len) K.clo (fun x hx => ?_) (fun s₁ X => h s₁ (fm_start K S r hl X) X.toInCall.ns) K.co K.gen K.kind)
  have hm := (List.of_mem_zip hx).1
  rcases K.pk x.1 hm with hloc | ⟨hcell, hmem⟩
  · exact .inl (by rw [K.names]; exact hloc)
  · exact .inr ⟨by rw [K.names]; exact hcell, by rw [K.names]; exact cellsFrom_has hmem⟩
end

section
variable {C : Cx} {gd : Str → Option D} {P : Pg} {PR : Params}

theorem told_ok {n : Nat} {t d : D} (W : Wd C (ftT PR) gd fnT P) (K : (hd.heap_1 PR).In C.h0) (k : CallOk C (ftT PR) n 30 [t, .str "x"] d) (A : Around) (H : List Addr) (s : Shared) (v : Value) (R : Room A (n + 2)) (S : St C H s) (r : Rz H s.heap t v) : Gv C A H (call (.ref 271) [v]) d s := fun E => by
  have X := K.keeps S.old
  refine call_raw (fd_told PR) (by have := R.d; omega) S (ds := [t]) ⟨v, [], rfl, r, rfl⟩ rfl (X 271 _ rfl) rfl (W.B.lim.keeps S.old) (codeRec_of X (by rfl)) fun s₁ F => ?_
  have Z : EnvF sc_told (callEnvC (fdAt PR 271) s.heap.objs.size 271) := { toEnvZ := envC (fd_told PR), kd := fun x => rfl }
  have R1 : Room (A.deeper (callEnvC (fdAt PR 271) s.heap.objs.size 271)) (n + 1) := R.deeper
  refine wpAny_execs_cons (wpAny_Try_except ?_)
  have g : ∀ (p0 p1 p2 : Pos) (kk : Nat), GvL C (A.deeper (callEnvC (fdAt PR 271) s.heap.objs.size 271)) H (spliced (backTo p0 (starEach [.Name "t" p1, .Constant (.str "x") kk p2] (callEnvC (fdAt PR 271) s.heap.objs.size 271)))) [t, .str "x"] s₁ :=
    fun p0 p1 p2 kk => gl_cons ((sound W 1).x (rho0 0 [t]) none (.var 0) t (by rfl) sc_told _ (.var rfl nd_t') _ _ _ _ (R1.less (by omega)) Z.toX (F.xm Z)) (fun s' _ => gl_cons gv_str (fun s'' _ => gl_nil) rfl) rfl
  have gc : ∀ (p pos p1 p2 : Pos) (kk : Nat), Gv C (A.deeper (callEnvC (fdAt PR 271) s.heap.objs.size 271)) H (eval (.Call (.Name "from_term" p) [.Name "t" p1, .Constant (.str "x") kk p2] [] pos) (callEnvC (fdAt PR 271) s.heap.objs.size 271)) d s₁ := fun p pos p1 p2 kk => gv_call (n := n) (f := 30) Z.toEnvS F.st W.B (R1.less (by omega)) rfl rfl lk_told_ft nd_ft (List.cons_ne_nil _ _) (fun e he => by
    rcases List.mem_cons.mp he with rfl | he
    · exact fun _ _ => rfl
    · rw [List.mem_singleton.mp he]; exact fun _ _ => rfl) (g _ _ _ _) k
  refine wpAny_mono (x_cons_ret (rest := []) (x_ret F (gc _ _ _ _ _)) _) (fun f s' q => ?_) fun _ _ x => x
  obtain ⟨_, v', rfl, k', r'⟩ := q
  exact ⟨k', r'⟩

theorem cf_kind_ne : (hd.heap_1 PR).lookup 31 = some cfObj := cf_at PR

theorem told_x {n : Nat} {t : D} {kd : Str} (W : Wd C (ftT PR) gd fnT P) (K : (hd.heap_1 PR).In C.h0) (hcf : C.mg "CasFail" = some (.ref 31)) (k : CallX C (ftT PR) n 30 [t, .str "x"] kd) (A : Around) (H : List Addr) (s : Shared) (v : Value) (base : Heap) (l : List Env)
    (R : Room A (n + 2)) (S : St C H s) (r : Rz H s.heap t v) (hfr : A.frames = some l) (hb0 : C.h0.StaysIn base) (hst : base.StaysIn s.heap) (hff : s.heap.FunFrames base l) (Q : Value → Shared → Prop) (E : Value → Shared → Prop)
    (hq : ∀ s' u, (∃ h tk, s' = { s with heap := h, toks := tk }) → base.StaysIn s'.heap → SlotsKept s.heap s'.heap → Q (.str kd u) s') : wpAny C.M A (call (.ref 271) [v]) Q E s := by
  have X := K.keeps S.old
  refine call_raw2 (fd_told PR) (by have := R.d; omega) S (ds := [t]) ⟨v, [], rfl, r, rfl⟩ rfl (X 271 _ rfl) rfl (W.B.lim.keeps S.old) (codeRec_of X (by rfl)) fun s₁ F hn1 => ?_
  generalize hA : A.deeper (callEnvC (fdAt PR 271) s.heap.objs.size 271) = A1
  have R1 : Room A1 (n + 1) := hA ▸ R.deeper
  have hfr1 : A1.frames = some (callEnvC (fdAt PR 271) s.heap.objs.size 271 :: l) := hA ▸ Around.frames_deeper hfr
  have Z : EnvF sc_told (callEnvC (fdAt PR 271) s.heap.objs.size 271) := { toEnvZ := envC (fd_told PR), kd := fun x => rfl }
  have FX : Fx A1 (callEnvC (fdAt PR 271) s.heap.objs.size 271) s base l := ⟨hfr1, rfl, hst, hff⟩
  refine wpAny_execs_cons (wpAny_Try_except ?_)
  have g : ∀ (p0 p1 p2 : Pos) (kk : Nat), GvL C A1 H (spliced (backTo p0 (starEach [.Name "t" p1, .Constant (.str "x") kk p2] (callEnvC (fdAt PR 271) s.heap.objs.size 271)))) [t, .str "x"] s₁ :=
    fun p0 p1 p2 kk => gl_cons ((sound W 1).x (rho0 0 [t]) none (.var 0) t (by rfl) sc_told _ (.var rfl nd_t') _ _ _ _ (R1.less (by omega)) Z.toX (F.xm Z)) (fun s' _ => gl_cons gv_str (fun s'' _ => gl_nil) rfl) rfl
  obtain ⟨hv, ⟨ob, ho, hdt⟩, _⟩ := W.B.fn 30 _ rfl
  refine wpAny_execs_cons (wpAny_Return_some ?_)
  rw [call_arm]
  refine wpAny_bind (name_glob Z.toEnvS F.st W.B.g lk_told_ft hv nd_ft ?_)
  refine callWith_function (o := ob) (fd := fdAt PR 249) (args_of (List.cons_ne_nil _ _) (fun e he => by
    rcases List.mem_cons.mp he with rfl | he
    · exact fun _ _ => rfl
    · rw [List.mem_singleton.mp he]; exact fun _ _ => rfl) (g _ _ _ _) fun vs s2 k2 r2 => ⟨⟨F.st.old _ _ ho |> Ks.heap k2 _ _, hdt⟩, ?_⟩)
  have F2 := F.keeps k2
  obtain ⟨h1, h2⟩ := FX.here Z F2
  refine k _ rfl A1 H s2 vs base _ (R1.less (by omega)) F2.st r2 hfr1 h1 h2 _ _ fun e s3 hs3 U sk3 => ?_
  refine note_up hfr1 rfl U fun h4 Fl sk4 => ?_
  have hk0 : (bindL (callEnvC (fdAt PR 271) s.heap.objs.size 271).kindOf ((sc_told.nms.take 1).zip [v]) fun _ => none) "kind" = none := bindL_off (by
    show ("kind" : Str) ∉ [("t" : Str)]
    decide +kernel)
  generalize (bindL (callEnvC (fdAt PR 271) s.heap.objs.size 271).kindOf ((sc_told.nms.take 1).zip [v]) fun _ => none) = m0 at hn1 hk0
  have hn4 := Ns.slots (Ns.slots (hn1.keeps (Ks.heap k2)) sk3) sk4
  obtain ⟨hp2, tk2, hs2⟩ := F2.same
  obtain ⟨hp3, tk3, rfl⟩ := hs3
  subst hs2
  have kb : ∀ b o, C.h0.get? b = some o → h4.get? b = some o := fun b o q => Fl.stays b o (hb0 b o q)
  have baseL : ∀ b o, base.get? b = some o → b ≠ (callEnvC (fdAt PR 271) s.heap.objs.size 271).locals := fun b o q r => by
    have := hst b o q
    rw [r] at this
    exact Nat.lt_irrefl _ (Heap.lt_size this)
  have skAll : ∀ b o, s.heap.get? b = some o → (∀ vs, o.data ≠ .fields vs) → ∃ sl, h4.get? b = some { o with slots := sl } := fun b o q n => SlotsKept.trans sk3 sk4 b o (F2.keep b o q) n
  have hsL : ∀ b o, s.heap.get? b = some o → b ≠ (callEnvC (fdAt PR 271) s.heap.objs.size 271).locals := fun b o q r => by
    rw [r] at q
    exact Nat.lt_irrefl _ (Heap.lt_size q)
  have stays := Fl.stays
  obtain ⟨T, ho4, hnT, hTe, oT, ts, hT, hdT, h3⟩ := Fl.obj
  obtain ⟨oe, ves, dd, m, t5, he, hc, hdF, hv1, hdd, hns, hkk⟩ := ho4.ex
  have hen := Fl.new
  have K4 := K.keeps kb
  have hg4 := W.B.g.keeps kb
  clear U sk3 sk4 Fl hn1 k2 r2 F2 FX h1 h2 F g
  generalize hEnv : callEnvC (fdAt PR 271) s.heap.objs.size 271 = env at *
  have hdict : ∃ oL es ep, h4.get? env.locals = some oL ∧ oL.data = .dict es ep := let ⟨oL, es, ep, a, b, _⟩ := hn4; ⟨oL, es, ep, a, b⟩
  obtain ⟨oL, esL, epL, hoL, hdL⟩ := hdict
  have hTL : T ≠ env.locals := fun q => by rw [q, hoL] at hT; cases hT; rw [hdL] at hdT; cases hdT
  have heL : e ≠ env.locals := fun q => by rw [q, hoL] at he; cases he; rw [hdL] at hdF; cases hdF
  have hdL' : dd ≠ env.locals := fun q => by
    have := ns_eq (q ▸ hns.ns) hn4 "kind"
    rw [hkk, hk0] at this; cases this
  have hTdd : T ≠ dd := fun q => by
    obtain ⟨o', es', ep', e1, e2, _⟩ := hns
    rw [← q, hT] at e1; cases e1; rw [hdT] at e2; cases e2
  have hp : (env.scope.kind == .class || (env.scope.kind == .module && env.locals != env.globals)) = false := storable Z.fn
  have hlr : env.kindOf "refusal" = some .local := (Z.kd _).trans lk_told_r
  refine wpAny_handleBy_cons (codeAny_handlers_test (Name_function_global Z.fn ((Z.kd _).trans lk_told_cf) (loadGlobal_global (env := env) (by rw [Z.gl]; exact hg4) hcf ?_) (by decide +kernel))) (by intro q; cases q)
  refine wpAny_excMatches_sub_self (K4 31 _ (cf_at PR)) he hc (by decide +kernel) (codeAny_handlers_suite_as ?_)
  refine wpAny_setFlight_none he hdF hv1 hT hdT (Array.getElem?_eq_some_iff.mp h3).1 ?_
  have ot5 : ∀ b, b ≠ T → (h4.update T (Obj.mapFields (·.setIfInBounds 3 .none))).get? b = h4.get? b := fun b hb => Heap.get?_update_other _ _ (Ne.symm hb)
  generalize h4.update T (Obj.mapFields (·.setIfInBounds 3 .none)) = h5 at ot5
  have hn5 : h5.Ns env.locals m0 := hn4.at fun o q => (ot5 _ (Ne.symm hTL)).trans q
  refine wpAny_storeName_local hlr hn5 (fun h6 hn6 hs6 => ?_) hp
  have kb6 : ∀ b o, b ≠ T → b ≠ env.locals → h4.get? b = some o → h6.get? b = some o := fun b o b1 b2 q => hs6.extBut b o b2 ((ot5 b b1).trans q)
  have K6 : (hd.heap_1 PR).In h6 := fun a o q => kb6 a o (fun r => by have := hb0 a o (K a o q); rw [r, hnT] at this; cases this) (baseL a o (hb0 a o (K a o q))) (K4 a o q)
  refine wpAny_execs_cons (wpAny_Return_some (Attribute_name (wpAny_Name (wpAny_loadName_local Z.fn hlr hn6 (v := .ref e) (by simp) ?_) (by decide +kernel))))
  refine own_attr F.attrBase_Exception (K6 31 _ (cf_at PR)) (cf_ns K6) (cf_kind PR) (cf_ga PR) (cf_gt PR) lkB_kind (kb6 e _ (Ne.symm hTe) heL he) hc (fun c q => by rw [hdF] at q; cases q) hdd (hns.ns.at fun o q => kb6 dd o (Ne.symm hTdd) hdL' q) hkk rfl ?_
  refine wpAny_nameGoes hlr hn6 hp fun h7 m7 hn7 hs7 => ?_
  refine hq _ _ ⟨h7, _, rfl⟩ (fun b o q => ?_) (fun b o q n => ?_)
  · exact hs7.extBut b o (baseL b o q) (kb6 b o (fun r => by rw [r, hnT] at q; cases q) (baseL b o q) (stays b o q))
  · obtain ⟨sl, q4⟩ := skAll b o q n
    exact ⟨sl, hs7.extBut b _ (hsL b o q) (kb6 b _ (fun r => by rw [r, hT] at q4; cases q4; exact n _ hdT) (hsL b o q) q4)⟩
end
end Mine
namespace Mine
open PySem PySem.Spec PySem.Calls PyProof.Rows PySem.W

/-! ## A heap with one object gone -/
noncomputable def erase (h : Heap) (a : Addr) : Heap := h.update a fun o => { o with data := .freed }
theorem erase_self (h : Heap) (a : Addr) : (erase h a).get? a = none := by
  cases e : (erase h a).get? a with
  | none => rfl
  | some o =>
    obtain ⟨e1, e2⟩ := Heap.get?_some_iff.mp e
    unfold erase Heap.update at e1
    simp only [Array.getElem?_modify, if_true] at e1
    obtain ⟨o', ho', rfl⟩ := Option.map_eq_some_iff.mp e1
    cases e2
theorem erase_ne (h : Heap) {a b : Addr} (hb : b ≠ a) : (erase h a).get? b = h.get? b := Heap.get?_update_other _ _ (Ne.symm hb)
theorem erase_sub {h : Heap} {a b : Addr} {o : Obj} (e : (erase h a).get? b = some o) : h.get? b = some o := by
  by_cases hb : b = a
  · subst hb; rw [erase_self] at e; cases e
  · rw [erase_ne h hb] at e; exact e
theorem erase_of {h : Heap} {a b : Addr} {o : Obj} (hb : b ≠ a) (e : h.get? b = some o) : (erase h a).get? b = some o := by rw [erase_ne h hb]; exact e

section
variable {C : Cx} {A : Around} {s : Shared} {env : Env} {z : Sc} {ρ : Rho}
/-- another start: all that stands now, but the frame -/
theorem Fm.rebase {s₀ : Shared} {H₀ H : List Addr} (F : Fm C z env s₀ H₀ H ρ none s) (hc : ∀ n, env.cells.lookup n = none) : Fm C z env { s with heap := erase s.heap env.locals } H H ρ none s := by
  refine ⟨⟨s.heap, s.toks, rfl⟩, fun b o e => erase_sub e, erase_self _ _, F.ns, fun n c e => (by rw [hc] at e; cases e), F.apart, fun b o e => ?_, F.st, F.rho, rfl⟩
  refine erase_of (fun r => ?_) (F.st.old b o e)
  have := F.old0 b o e
  rw [r, F.fresh] at this; cases this
end

section
variable {C : Cx} {A : Around} {H H' H₀ : List Addr} {s s' s₀ : Shared} {env : Env} {z : Sc} {ρ : Rho} {o : OwnL}
theorem x_stoH {x : Str} {i k : Nat} {ei e : Expr} {px p pos : Pos} {xs : List PyData} {d : PyData} (Z : EnvZ z env) (F : Fm C z env s₀ H₀ H ρ (some (i, xs)) s) (hi : z.nms[i]? = some x) (hd : NotDebug x)
    (h : Gv C A H (eval e env) d s) (hidx : ∀ s', Keeps s s' → Gv C A H (eval ei env) (.int (k : Nat)) s') (hk : k ≤ 100000) (hlt : k < xs.length) (hs : swapsWith e (some (.Subscript (.Name x px) ei p)) pos.line env = pure false) :
    ∀ E, wpAny C.M A (exec (.Assign [.Subscript (.Name x px) ei p] e pos) env) (fun f s' => Pres env H s s' ∧ f = .next ∧ Fm C z env s₀ H₀ H ρ (some (i, xs.set k d)) s') E s := fun E => by
  refine wpAny_Assign_Subscript (h.use fun v s1 k1 r1 => ?_) hs
  have F1 := F.keeps k1
  obtain ⟨B, y, vs, m, rfl, hy, hky, hm, hmx, hp, r, hB, hn, hρ⟩ := F1.own.ex
  have hyx : y = x := Option.some.inj (hy.symm.trans hi)
  subst hyx
  refine wpAny_Name (wpAny_loadName_local Z.fn hky hm hmx ((hidx s1 k1).use fun u s2 k2 r2 => ?_)) hd
  obtain ⟨t, rfl⟩ := r2
  have F2 := F1.keeps k2
  have hp2 := hp.at fun ob e => Ks.heap k2 _ ob e
  have r2 := r.keeps (Ks.heap k2)
  have rv2 := r1.keeps (Ks.heap k2)
  have len : vs.toList.length = xs.length := RzL.len r
  have hsz : vs.toList.length = vs.size := by simp
  refine set_item hp2 (by omega) hk fun h' hp3 hs3 => ?_
  have hBs : ∃ n, s2.heap.get? B = some { cls := .type "list", data := .seq vs n } := hp2
  have hBloc : B ≠ env.locals := fun e => by
    obtain ⟨m, oL, es, ep, hL, hd, _⟩ := F2.ns
    obtain ⟨n, hBs⟩ := hBs
    rw [← e, hBs] at hL; cases hL; cases hd
  have hBcell : ∀ n c v, env.cells.lookup n = some c → s2.heap.IsCell c v → c ≠ B := fun n c v _ ⟨oc, e, hd⟩ q => by
    obtain ⟨n, hBs⟩ := hBs
    rw [q, hBs] at e; cases e; cases hd
  have kp : Kp (B :: H₀) s2.heap h' := fun b ob hb _ e => hs3.extBut b ob (fun q => hb (q ▸ .head _)) e
  obtain ⟨h1, tk1, hsm⟩ := F2.same
  have locs : ∀ m, s2.heap.Ns env.locals m → h'.Ns env.locals m := fun m hm => hm.sameBut hs3 (Ne.symm hBloc)
  refine ⟨?_, rfl, ⟨⟨h', _, by rw [hsm]⟩, fun b ob e => hs3.extBut b ob (fun q => by rw [q, hB] at e; cases e) (F2.keep b ob e), F2.fresh, let ⟨m, q⟩ := F2.ns; ⟨m, locs m q⟩, fun n c e => ?_, F2.apart, F2.old0, ?_, fun j dj e => ?_, ?_⟩⟩
  · refine ⟨fun b ob h1 h2 h3 e => hs3.extBut b ob (fun q => h3 (q ▸ .head _)) (Ks.heap k2 b ob (Ks.heap k1 b ob e)), fun b ob e => ?_⟩
    by_cases hb : b = B
    · obtain ⟨n, q⟩ := hp3
      exact ⟨_, hb ▸ q⟩
    · exact ⟨ob, hs3.extBut b ob hb (Ks.heap k2 b ob (Ks.heap k1 b ob e))⟩
  · obtain ⟨q, v, hv⟩ := F2.cells n c e
    exact ⟨q, v, hv.sameBut hs3 (hBcell n c v e hv)⟩
  · refine ⟨fun b ob e => hs3.extBut b ob (fun q => ?_) (F2.st.old b ob e), F2.st.hid, fun b hb => ?_⟩
    · have := F2.old0 b ob e
      rw [q, hB] at this; cases this
    · by_cases hbB : b = B
      · obtain ⟨n, q⟩ := hp3
        exact ⟨_, hbB ▸ q⟩
      · obtain ⟨ob, e⟩ := F2.st.inn b hb
        exact ⟨ob, hs3.extBut b ob hbB e⟩
  · obtain ⟨y', u, a1, a2, ru⟩ := F2.rho j dj e
    refine ⟨y', u, a1, ?_, Rz.kp kp _ ru⟩
    rcases a2 with ⟨ky, my, hmy, hv⟩ | ⟨ky, c, hc, hv⟩
    · exact .inl ⟨ky, my, locs my hmy, hv⟩
    · exact .inr ⟨ky, c, hc, hv.sameBut hs3 (hBcell _ c _ hc hv)⟩
  · refine ⟨⟨B, y, vs.setIfInBounds k v, m, rfl, hy, hky, locs m (hm.keeps (Ks.heap k2)), hmx, hp3, ?_, hB, hn, hρ⟩⟩
    have r3 := RzL.kp kp _ (RzL.set k r2 rv2)
    rw [Array.toList_setIfInBounds]
    exact r3
end

/-! ## _law_take -/
noncomputable def sc_take : Sc := ⟨["box", "many"], [("box", .local), ("many", .local), ("len", .globalImplicit), ("abs", .globalImplicit)]⟩
theorem fd_take (P : Params) : FdOk (fdAt P 264) (bodyAt P 264) sc_take 2 := ⟨rfl, rfl, rfl, rfl, rfl, rfl, rfl, rfl, by decide +kernel, by decide +kernel, by decide +kernel, fun vs h => by match vs, h with | [v0, v1], _ => rfl⟩
theorem nd_box : NotDebug "box" := by show (_ == _) = false; decide +kernel
theorem nd_many' : NotDebug "many" := by show (_ == _) = false; decide +kernel
theorem lk_take_len : sc_take.names.lookup ("len" : Str) = some .globalImplicit := by decide +kernel
theorem lk_take_abs : sc_take.names.lookup ("abs" : Str) = some .globalImplicit := by decide +kernel

section
variable {C : Cx} {gd : Str → Option D} {P : Pg} {PR : Params}

/-- the callee's frame with the box as its own -/
theorem take_start {A : Around} {s s₁ : Shared} {B : Addr} {vs : Array Value} {xs : List D} {d1 : D} {env : Env} {m0 : Str → Option Value} {H : List Addr} (hk : env.kindOf "box" = some .local) (F : Fm C sc_take env s [] [] (rho0 0 [.list xs, d1]) none s₁) (hn : s₁.heap.Ns env.locals m0) (hm : m0 "box" = some (.ref B))
    (hp : s.heap.PlainList B vs) (r : RzL [B] s.heap xs vs.toList) (hB : C.h0.get? B = none) (hd : ∃ i : Int, d1 = .int i) : Fm C sc_take env { s with heap := erase s.heap B } [] [B] [(1, d1)] (some (0, xs)) s₁ := by
  obtain ⟨i, rfl⟩ := hd
  obtain ⟨h, tk, rfl⟩ := F.same
  have hLB : env.locals ≠ B := fun q => by
    obtain ⟨n, e⟩ := hp
    have := F.fresh
    rw [q, e] at this; cases this
  have hp1 := hp.at fun o e => F.keep _ o e
  have hcB : ∀ n c, env.cells.lookup n = some c → c ≠ B := fun n c e q => by
    obtain ⟨n', e'⟩ := hp
    have := (F.cells n c e).1
    rw [q, e'] at this; cases this
  refine ⟨⟨h, tk, rfl⟩, fun b o e => F.keep b o (erase_sub e), (erase_ne _ hLB).trans F.fresh, F.ns, fun n c e => ⟨(erase_ne _ (hcB n c e)).trans (F.cells n c e).1, (F.cells n c e).2⟩, F.apart, fun b o e => erase_of (fun q => by rw [q, hB] at e; cases e) (F.old0 b o e),
    ⟨F.st.old, fun b hb => (by rw [List.mem_singleton.mp hb]; exact hB), fun b hb => (by rw [List.mem_singleton.mp hb]; obtain ⟨n, e⟩ := hp1; exact ⟨_, e⟩)⟩, fun j d e => ?_, ⟨B, "box", vs, m0, rfl, rfl, hk, hn, hm, hp1, RzL.keeps r F.keep, erase_self _ _, by simp, rfl⟩⟩
  unfold Rho.get at e
  rw [beq_of] at e
  by_cases hj : 1 = j
  · simp only [hj, decide_true] at e
    cases e
    obtain ⟨x, v, a, b, rv⟩ := F.rho 1 (.int i) rfl
    exact ⟨x, v, hj ▸ a, b, rv⟩
  · simp only [hj, decide_false] at e
    cases e

theorem ints_get {xs : List Int} {k : Nat} (h : k < xs.length) : (xs.map PyData.int)[k]? = some (.int (xs[k]'h)) := by
  rw [List.getElem?_map, List.getElem?_eq_getElem h]; rfl

theorem take_ok {n k mm : Nat} {xs : List Int} {r2 : Int} (W : Wd C (ftT PR) gd fnT P) (K : (hd.heap_1 PR).In C.h0) (hlen : xs.length ≤ 100) (hmm : 0 < mm) (hkk : k ≤ 10)
    (hA : run P 8 (.x [(1, .int (mm : Nat))] (some (0, [.list (xs.map .int), .int (k : Nat)])) (.bin .add (.oget 0 (.cst (.int 1))) (.cst (.int 1)))) = some (.v (.int ((k + 1 : Nat) : Int))))
    (hC : run P 9 (.x (Rho.put [(1, .int (mm : Nat))] 0 (.list [.list (xs.map .int), .int ((k + 1 : Nat) : Int)])) none (.bin .fmod (.bin .add (.bin .mul (.cst (.int 7)) (.idx (.var 0) (.cst (.int 1)))) (.bin .fdiv (.idx (.var 0) (.cst (.int 1))) (.cst (.int 4)))) (.var 1))) = some (.v (.int r2))) (h0 : 0 ≤ r2) (h1 : r2 < mm)
    (A : Around) (s : Shared) (B : Addr) (vs : Array Value) (tm : Tok) (R : Room A 20) (S : St C [B] s) (hp : s.heap.PlainList B vs) (r : RzL [B] s.heap [.list (xs.map .int), .int (k : Nat)] vs.toList) (hB : C.h0.get? B = none)
    (Q : Value → Shared → Prop) (E : Value → Shared → Prop)
    (hq : ∀ s' (i : Int) u vs', 0 ≤ i → i < mm → (∃ h tk, s' = { s with heap := h, toks := tk }) → (∀ b o, b ≠ B → s.heap.get? b = some o → s'.heap.get? b = some o) → s'.heap.PlainList B vs' → RzL [B] s'.heap [.list (xs.map .int), .int ((k + 1 : Nat) : Int)] vs'.toList → Q (.int i u) s') :
    wpAny C.M A (call (.ref 264) [.ref B, .int (mm : Nat) tm]) Q E s := by
  have X := K.keeps S.old
  have S0 : St C [] s := ⟨S.old, fun b hb => (by cases hb), fun b hb => (by cases hb)⟩
  have r0 : RzL [] s.heap [.list [.list (xs.map .int), .int (k : Nat)], .int (mm : Nat)] [.ref B, .int (mm : Nat) tm] :=
    ⟨_, _, rfl, ⟨B, vs, rfl, by simp, hp, RzL.off (fun a o _ _ hm => by cases hm) _ r⟩, _, _, rfl, ⟨tm, rfl⟩, rfl⟩
  refine call_raw2 (fd_take PR) (by have := R.d; omega) S0 r0 rfl (X 264 _ rfl) rfl (W.B.lim.keeps S.old) (codeRec_of X (by rfl)) fun s₁ F hn1 => ?_
  have Z : EnvF sc_take (callEnvC (fdAt PR 264) s.heap.objs.size 264) := { toEnvZ := envC (fd_take PR), kd := fun x => rfl }
  have R1 : Room (A.deeper (callEnvC (fdAt PR 264) s.heap.objs.size 264)) 19 := R.deeper
  have F1 := take_start (A := A) (H := []) ((Z.kd _).trans (by decide +kernel)) F hn1 (by rfl) hp r hB ⟨_, rfl⟩
  have hcl : ∀ n, (callEnvC (fdAt PR 264) s.heap.objs.size 264).cells.lookup n = none := fun n => rfl
  generalize A.deeper (callEnvC (fdAt PR 264) s.heap.objs.size 264) = A1 at R1 ⊢
  have I := sound W 9
  have RR : Room A1 9 := R1.less (by omega)
  refine wpAny_execs_cons (wpAny_mono (x_stoH (i := 0) (k := 1) (d := .int ((k + 1 : Nat) : Int)) Z.toEnvZ F1 rfl nd_box ((sound W 8).x [(1, .int (mm : Nat))] (some (0, [.list (xs.map .int), .int (k : Nat)])) (.bin .add (.oget 0 (.cst (.int 1))) (.cst (.int 1))) _ hA sc_take _ (.bin (o := .add) (.oget .int rfl nd_box (fun _ _ _ => rfl)) .int) A1 _ _ _ (R1.less (by omega)) Z.toX (F1.xm Z)) (fun s' _ => gv_int) (by omega) (by simp) (by rfl) _) (fun f s2 q => ?_) fun _ _ x => x)
  obtain ⟨p2, rfl, F2⟩ := q
  obtain ⟨B', y, vs2, m2, hH, hy, hky, hm, hmx, hp2, rr2, hB2, hn2, hρ2⟩ := F2.own.ex
  cases hH
  have F3 := F2.freeze
  have F4 := F3.rebase hcl
  generalize hEnv : callEnvC (fdAt PR 264) s.heap.objs.size 264 = env at *
  have hLs : s.heap.get? env.locals = none := F.fresh
  clear F1 F3 hA F hn1
  have hrho : Rho.put [(1, PyData.int (mm : Nat))] 0 (.list [.list (xs.map .int), .int ((k + 1 : Nat) : Int)]) = [(1, .int (mm : Nat)), (0, .list [.list (xs.map .int), .int ((k + 1 : Nat) : Int)])] := rfl
  have F5 : Fm C sc_take env { s2 with heap := erase s2.heap env.locals } [] [] [(1, .int (mm : Nat)), (0, .list [.list (xs.map .int), .int ((k + 1 : Nat) : Int)])] none s2 := F4
  rw [hrho] at hC
  clear F4
  generalize hρ3 : ([(1, .int (mm : Nat)), (0, .list [.list (xs.map .int), .int ((k + 1 : Nat) : Int)])] : Rho) = ρ3 at hC F5
  have gB1 : ∀ s', Xm C sc_take env [] ρ3 none s' → ∀ p1 kk p2 pos, Gv C A1 [] (eval (.Subscript (.Name "box" p1) (.Constant (.int 1) kk p2) pos) env) (.int ((k + 1 : Nat) : Int)) s' := fun s' V p1 kk p2 pos =>
    (sound W 5).x ρ3 none (.idx (.var 0) (.cst (.int 1))) _ (by subst hρ3; rfl) sc_take _ (.idx (.var rfl nd_box) .int (fun _ _ _ => rfl)) A1 env [] s' (R1.less (by omega)) Z.toX V
  have gB0 : ∀ s', Xm C sc_take env [] ρ3 none s' → ∀ p1 kk p2 pos, Gv C A1 [] (eval (.Subscript (.Name "box" p1) (.Constant (.int 0) kk p2) pos) env) (.list (xs.map .int)) s' := fun s' V p1 kk p2 pos =>
    (sound W 5).x ρ3 none (.idx (.var 0) (.cst (.int 0))) _ (by subst hρ3; rfl) sc_take _ (.idx (.var rfl nd_box) .int (fun _ _ _ => rfl)) A1 env [] s' (R1.less (by omega)) Z.toX V
  have gMany : ∀ s', Xm C sc_take env [] ρ3 none s' → ∀ p1, Gv C A1 [] (eval (.Name "many" p1) env) (.int (mm : Nat)) s' := fun s' V p1 =>
    (sound W 5).x ρ3 none (.var 1) _ (by subst hρ3; rfl) sc_take _ (.var rfl nd_many') A1 env [] s' (R1.less (by omega)) Z.toX V
  have hb : dbi .len [.list (xs.map .int)] = some (.int (xs.length : Nat)) := by
    unfold dbi
    simp only [List.length_map]
    rw [if_pos (Nat.ble_eq_true_of_le (by omega))]
  have gLen : ∀ s', Xm C sc_take env [] ρ3 none s' → ∀ p1 kk p2 pos p3 p4, Gv C A1 [] (eval (.Call (.Name "len" p3) [.Subscript (.Name "box" p1) (.Constant (.int 0) kk p2) pos] [] p4) env) (.int (xs.length : Nat)) s' := fun s' V p1 kk p2 pos p3 p4 =>
    gv_callB (b := .len) Z.toEnvS V.st W.B RR hb (W.N _ (by decide)) (by decide) rfl lk_take_len (by show (_ == _) = false; decide +kernel) (List.cons_ne_nil _ _) (fun e he => by rw [List.mem_singleton.mp he]; exact fun _ _ => rfl) (gl_cons (gB0 s' V p1 kk p2 pos) (fun _ _ => gl_nil) rfl)
  have gC : ∀ s', Xm C sc_take env [] ρ3 none s' → ∀ p1 p2 p3 p4 p5 p6 p7 p8 p9 q1 q2 q3 q4 k1 k2 k3 k4, Gv C A1 [] (eval (.BinOp (.BinOp (.BinOp (.Constant (.int 7) k1 p1) .Mult (.Subscript (.Name "box" p2) (.Constant (.int 1) k2 p3) p4) p5) .Add (.BinOp (.Subscript (.Name "box" p6) (.Constant (.int 1) k3 p7) p8) .FloorDiv (.Constant (.int 4) k4 p9) q1) q2) .Mod (.Name "many" q3) q4) env) (.int r2) s' := fun s' V p1 p2 p3 p4 p5 p6 p7 p8 p9 q1 q2 q3 q4 k1 k2 k3 k4 =>
    I.x ρ3 none _ _ hC sc_take _ (.bin (o := .fmod) (.bin (o := .add) (.bin (o := .mul) .int (.idx (.var rfl nd_box) .int (fun _ _ _ => rfl))) (.bin (o := .fdiv) (.idx (.var rfl nd_box) .int (fun _ _ _ => rfl)) .int)) (.var rfl nd_many')) A1 env [] s' RR Z.toX V
  have gCond : ∀ p1 k1 p2 p3 p4 p5 k2 p6 p7 p8 p9, Gb C A1 (isTrue (.Compare (.Subscript (.Name "box" p1) (.Constant (.int 1) k1 p2) p3) [.LtE] [.Call (.Name "len" p4) [.Subscript (.Name "box" p5) (.Constant (.int 0) k2 p6) p7] [] p8] p9) env (eval (.Compare (.Subscript (.Name "box" p1) (.Constant (.int 1) k1 p2) p3) [.LtE] [.Call (.Name "len" p4) [.Subscript (.Name "box" p5) (.Constant (.int 0) k2 p6) p7] [] p8] p9) env)) (decide (((k + 1 : Nat) : Int) ≤ (xs.length : Nat))) s2 := fun p1 k1 p2 p3 p4 p5 k2 p6 p7 p8 p9 =>
    gb_cmp (o := .le) RR rfl (gB1 s2 (F5.xm Z) _ _ _ _) (fun s' k => gLen s' ((F5.xm Z).keeps k) _ _ _ _ _ _) rfl
  have fin : ∀ (i : Int), 0 ≤ i → i < mm → ∀ f s' out, XEnd C sc_take env { s2 with heap := erase s2.heap env.locals } [] [] out s2 f s' → out.2.2 = some (.int i) → Q (match f with | .ret v => v | _ => .none) s' := fun i hi0 hi1 f s' out q ho => by
    obtain ⟨p3, q⟩ := q
    rw [ho] at q
    obtain ⟨v', rfl, ks, u, rfl⟩ := q
    obtain ⟨hp', tk', hs'⟩ := F2.same
    have kk : ∀ b o, b ≠ env.locals → s2.heap.get? b = some o → s'.heap.get? b = some o := fun b o hb e => Ks.heap ks b o (erase_of hb e)
    have hBL : B ≠ env.locals := fun q => by rw [q] at hp; obtain ⟨n, e⟩ := hp; rw [hLs] at e; cases e
    obtain ⟨hp5, tk5, rfl, _⟩ := ks
    refine hq _ i u vs2 hi0 hi1 ⟨hp5, tk5, by rw [hs']⟩ (fun b o hb e => kk b o (fun q => by rw [q, hLs] at e; cases e) (F2.keep b o (erase_of hb e))) (hp2.at fun o e => kk B o hBL e) ?_
    refine RzL.kp (fun b o hb hsq e => kk b o (fun q => ?_) e) _ rr2
    obtain ⟨oL, es, ep, e1, e2, _⟩ := hm
    rw [q, e1] at e; cases e
    obtain ⟨a, c, hd'⟩ := hsq
    rw [e2] at hd'; cases hd'
  by_cases hlt : k + 1 ≤ xs.length
  · have ht : decide (((k + 1 : Nat) : Int) ≤ (xs.length : Nat)) = true := decide_eq_true (by omega)
    rw [ht] at gCond
    have hi : didx (.list (xs.map .int)) (.int (k : Nat)) = some (.int (xs[k]'(by omega))) := by
      show (if Nat.ble k 100000 then (xs.map PyData.int)[k]? else none) = _
      rw [if_pos (Nat.ble_eq_true_of_le (by omega)), ints_get]
    have bopm : ∀ x : Int, dbop .fmod (.int x) (.int (mm : Nat)) = some (.int (x.fmod mm)) := fun x => by
      show ((if ((mm : Nat) : Int) == 0 then none else some (x.fmod mm)) : Option Int).map _ = _
      rw [if_neg (by simp; omega)]; rfl
    have gRet : ∀ s', Xm C sc_take env [] ρ3 none s' → ∀ p1 p2 p3 p4 p5 p6 p7 p8 p9 q1 q2 q3 q4 k1 k2 k3, Gv C A1 [] (eval (.BinOp (.Call (.Name "abs" p1) [.Subscript (.Subscript (.Name "box" p2) (.Constant (.int 0) k1 p3) p4) (.BinOp (.Subscript (.Name "box" p5) (.Constant (.int 1) k2 p6) p7) .Sub (.Constant (.int 1) k3 p8) p9) q1] [] q2) .Mod (.Name "many" q3) q4) env) (.int ((if (xs[k]'(by omega)) < 0 then -(xs[k]'(by omega)) else (xs[k]'(by omega))).fmod mm)) s' := fun s' V p1 p2 p3 p4 p5 p6 p7 p8 p9 q1 q2 q3 q4 k1 k2 k3 =>
      gv_bin (o := .fmod) (a := .int (if (xs[k]'(by omega)) < 0 then -(xs[k]'(by omega)) else (xs[k]'(by omega)))) (b := .int (mm : Nat)) (bopm _) V.st
        (gv_callB (b := .abs) Z.toEnvS V.st W.B RR rfl (W.N _ (by decide)) (by decide) rfl lk_take_abs (by show (_ == _) = false; decide +kernel) (List.cons_ne_nil _ _) (fun e he => by rw [List.mem_singleton.mp he]; exact fun _ _ => rfl)
          (gl_cons (gv_idx hi (gB0 s' V _ _ _ _) (fun s3 k3 => gv_bin (o := .sub) (c := .int (k : Nat)) (by show some (PyData.int _) = _; congr 2; omega) (V.keeps k3).st (gB1 s3 (V.keeps k3) _ _ _ _) fun s4 k4 => gv_int) (fun _ _ _ => rfl)) (fun _ _ => gl_nil) rfl))
        (fun s3 k3 => gMany s3 (V.keeps k3) _)
    refine wpAny_mono (x_cons_ret (x_if F5 (gCond _ _ _ _ _ _ _ _ _ _ _) (fun s' F' => x_cons_ret (x_ret F' (gRet s' (F'.xm Z) _ _ _ _ _ _ _ _ _ _ _ _ _ _ _ _)))) _) (fun f s' q => fin _ ?_ ?_ f s' _ q rfl) fun _ _ x => x
    · exact Int.fmod_nonneg_of_pos _ (by omega)
    · exact Int.fmod_lt_of_pos _ (by omega)
  · have ht : decide (((k + 1 : Nat) : Int) ≤ (xs.length : Nat)) = false := decide_eq_false (by omega)
    rw [ht] at gCond
    refine wpAny_mono (x_cons (x_if F5 (gCond _ _ _ _ _ _ _ _ _ _ _) (fun s' F' => x_nil F')) (fun H' s' F' => x_cons_ret (x_ret F' ?_)) _) (fun f s' q => fin r2 h0 h1 f s' _ q rfl) fun _ _ x => x
    have hH' : H' = [] := F'.own
    subst hH'
    exact gC s' (F'.xm Z) _ _ _ _ _ _ _ _ _ _ _ _ _ _ _ _ _
end
end Mine
namespace Mine
open PySem PySem.Spec PySem.Calls PyProof.Rows

/-! ## gcd and rat, for all numbers -/
section
variable {C : Cx} {PR : Params} {P : Pg} {gd : Str → Option D}

theorem bop_mod (x y : Nat) (h : y ≠ 0) : dbop .fmod (.int (x : Nat)) (.int (y : Nat)) = some (.int ((x % y : Nat) : Int)) := by
  show ((if ((y : Nat) : Int) == 0 then none else some (((x : Nat) : Int).fmod y)) : Option Int).map _ = _
  rw [if_neg (by simp; omega), Int.fmod_eq_emod_of_nonneg _ (by omega)]
  rfl
theorem abs_nat (a : Int) : (if a < 0 then -a else a) = ((a.natAbs : Nat) : Int) := by split <;> omega

theorem gcd_body {A : Around} {env : Env} {s₀ s : Shared} {H : List Addr} {ss : List Stmt} {a b : Int} (W : Wd C (ftT PR) gd fnT P) (k : ErB gd fnT sc_gcd ss ir_gcd) (R : Room A 9) (Z : EnvF sc_gcd env) (F : Fm C sc_gcd env s₀ H H (rho0 0 [.int a, .int b]) none s) :
    Xs C A sc_gcd env s₀ H H (execs ss env) ([(0, .int ((Nat.gcd a.natAbs b.natAbs : Nat) : Int)), (1, .int ((0 : Nat) : Int))], none, some (.int ((Nat.gcd a.natAbs b.natAbs : Nat) : Int))) s := by
  unfold ir_gcd at k
  have J := sound W 8
  have R5 : Room A 8 := R.less (by omega)
  cases k with
  | asgS hn hk h hs hw hr =>
    cases hr with
    | whl hc hb hr2 =>
      cases hr2 with
      | ret he hr3 =>
        cases hr3
        have v0 : run P 8 (.x (rho0 0 [.int a, .int b]) none (.tup [.bi .abs [.var 0], .bi .abs [.var 1]])) = some (.v (.tuple [.int (if a < 0 then -a else a), .int (if b < 0 then -b else b)])) := rfl
        rw [abs_nat, abs_nat] at v0
        refine x_cons (x_asgT_sw R5 Z.toEnvZ F (J.x _ _ _ _ v0 _ _ h A env H s R5 Z.toX (F.xm Z)) (len_of hn) rfl (hx_of Z hn hk (by rfl)) (hs env) (sw_of (blk_of Z) (fun x hx => (Z.kd x).trans (hk x hx)) hw)) fun H' s' F' => ?_
        refine x_cons (ρ1 := [(0, .int ((Nat.gcd a.natAbs b.natAbs : Nat) : Int)), (1, .int ((0 : Nat) : Int))]) (o1 := none) (x_while (fun n ρ' o' => ∃ x y : Nat, n = y ∧ ρ' = [(0, .int (x : Nat)), (1, .int (y : Nat))] ∧ o' = none ∧ Nat.gcd x y = Nat.gcd a.natAbs b.natAbs) ?_ F' b.natAbs ⟨_, _, rfl, rfl, rfl, rfl⟩) fun H2 s2 F2 => x_cons_ret (x_ret F2 (J.x _ _ _ _ (by rfl) _ _ he A env H2 s2 R5 Z.toX (F2.xm Z)))
        rintro n ρ' o' ⟨x, y, rfl, rfl, rfl, hg⟩
        refine ⟨!(((n : Nat) : Int) == 0), fun H3 s3 F3 => J.t _ _ _ _ (by rfl) _ _ hc A env H3 s3 R5 Z.toX (F3.xm Z), ?_⟩
        by_cases hy : n = 0
        · subst hy
          rw [Nat.gcd_zero_right] at hg
          rw [hg]
          rfl
        · have : (!(((n : Nat) : Int) == 0)) = true := by simp; omega
          rw [this]
          cases hb with
          | asgS hn2 hk2 h2 hs2 hw2 hr4 =>
            cases hr4
            refine ⟨([(0, .int (n : Nat)), (1, .int ((x % n : Nat) : Int))], none, none), fun H3 s3 F3 => ?_, x % n, Nat.mod_lt _ (by omega), n, x % n, rfl, rfl, rfl, ?_⟩
            · refine x_cons (x_asgT_sw (ds := [.int (n : Nat), .int ((x % n : Nat) : Int)]) R5 Z.toEnvZ F3 ?_ (len_of hn2) rfl (hx_of Z hn2 hk2 (by rfl)) (hs2 env) (sw_of (blk_of Z) (fun x hx => (Z.kd x).trans (hk2 x hx)) hw2)) fun H4 s4 F4 => x_nil F4
              cases h2 with
              | tup hl =>
                cases hl with
                | cons h1 hs1 hl2 =>
                  cases hl2 with
                  | cons h3 hs3 hl3 =>
                    cases hl3
                    cases h3 with
                    | bin ha hb =>
                      have V := F3.xm Z
                      refine gv_tuple V.st (by simp) (gl_cons (J.x _ _ (.var 1) (.int (n : Nat)) (by rfl) _ _ h1 A env H3 s3 R5 Z.toX V) (fun s5 k5 => gl_cons (gv_bin (bop_mod x n hy) (V.keeps k5).st (J.x _ _ (.var 0) (.int (x : Nat)) (by rfl) _ _ ha A env H3 s5 R5 Z.toX (V.keeps k5)) fun s6 k6 => J.x _ _ (.var 1) (.int (n : Nat)) (by rfl) _ _ hb A env H3 s6 R5 Z.toX ((V.keeps k5).keeps k6)) (fun _ _ => gl_nil) (hs3 env [])) (hs1 env _))
            · rw [← hg, Nat.gcd_comm x n, Nat.gcd_rec n x, Nat.gcd_comm]
theorem gcd_ok (W : Wd C (ftT PR) gdT fnT P) (a b : Int) : CallOk C (ftT PR) 10 0 [.int a, .int b] (.int ((Nat.gcd a.natAbs b.natAbs : Nat) : Int)) :=
  call_ok (z := sc_gcd) (ar := 2) W.B rfl (fd_gcd PR) rfl fun A env H s₀ s R Z hk F => gcd_body W (er_gcd PR) R { toEnvZ := Z, kd := hk } F
end

noncomputable def memG (f : Nat) (ds : List D) : Option (Nat × D) := match f with
  | 0 => match ds with
    | [.int a, .int b] => some (10, .int ((Nat.gcd a.natAbs b.natAbs : Nat) : Int))
    | _ => none
  | _ => none
noncomputable def PG : Pg := ⟨dfT, memG⟩
noncomputable def ratG (t b : Int) : Nat := Nat.gcd t.natAbs b.natAbs
noncomputable def ratS (t b : Int) : Int := match b with
  | .ofNat _ => (ratG t b : Nat)
  | .negSucc _ => 0 - (ratG t b : Nat)
noncomputable def ratV (t b : Int) : D := .tuple [.int (t.fdiv (ratS t b)), .int (b.fdiv (ratS t b))]
noncomputable def memR (f : Nat) (ds : List D) : Option (Nat × D) := match f with
  | 2 => match ds with
    | [.int t, .int b] => when (!(Nat.beq b.natAbs 0) && Nat.ble (Nat.log2 (ratG t b)) 8000) (some (20, ratV t b))
    | _ => none
  | _ => none
noncomputable def PR2 : Pg := ⟨dfT, memR⟩

section
variable {C : Cx} {PR : Params}
theorem memG_ok (W : Wd C (ftT PR) gdT fnT P0) : ∀ f ds m d, memG f ds = some (m, d) → CallOk C (ftT PR) m f ds d := fun f ds m d h => by
  unfold memG at h
  split at h
  · split at h
    · cases h
      exact gcd_ok W _ _
    · cases h
  · cases h
theorem bop_div (x g : Int) (h : g ≠ 0) (hl : Nat.ble (Nat.log2 g.natAbs) 8000 = true) : dbop .fdiv (.int x) (.int g) = some (.int (x.fdiv g)) := by
  show ((if g == 0 then none else if Nat.ble (Nat.log2 g.natAbs) 8000 then some (x.fdiv g) else none) : Option Int).map _ = _
  rw [if_neg (by simpa using h), if_pos hl]; rfl
theorem rat_body {A : Around} {env : Env} {s₀ s : Shared} {H : List Addr} {ss : List Stmt} {t b : Int} (W : Wd C (ftT PR) gdT fnT PG) (k : ErB gdT fnT sc_rat ss ir_rat) (R : Room A 19) (Z : EnvF sc_rat env) (F : Fm C sc_rat env s₀ H H (rho0 0 [.int t, .int b]) none s)
    (hb : b ≠ 0) (hl : Nat.ble (Nat.log2 (ratG t b)) 8000 = true) :
    Xs C A sc_rat env s₀ H H (execs ss env) ([(0, .int t), (1, .int b), (2, .int (ratS t b))], none, some (ratV t b)) s := by
  unfold ir_rat at k
  have J := sound W 19
  have hG : ratG t b ≠ 0 := fun q => by
    have := Nat.gcd_eq_zero_iff.mp q
    omega
  have hS : ratS t b ≠ 0 := by unfold ratS; split <;> omega
  have hlS : Nat.ble (Nat.log2 (ratS t b).natAbs) 8000 = true := by
    have : (ratS t b).natAbs = ratG t b := by unfold ratS; split <;> omega
    rw [this]; exact hl
  cases k with
  | ite hc ha hb0 hr =>
    cases hb0
    cases hr with
    | asg hi hk he hs hr2 =>
      cases hr2 with
      | ret h2 hr3 =>
        cases hr3
        have hbf : (b == 0) = false := by simpa using hb
        have t1 : run PG 19 (.t (rho0 0 [.int t, .int b]) none (.cmp .eq (.var 1) (.cst (.int 0)))) = some (.b (b == 0)) := rfl
        rw [hbf] at t1
        have v1 : run PG 19 (.x (rho0 0 [.int t, .int b]) none (.ite (.cmp .gt (.var 1) (.cst (.int 0))) (.call 0 [.var 0, .var 1]) (.bin .sub (.cst (.int 0)) (.call 0 [.var 0, .var 1])))) = some (.v (.int (ratS t b))) := by
          have e0 : run PG 19 (.x (rho0 0 [.int t, .int b]) none (.ite (.cmp .gt (.var 1) (.cst (.int 0))) (.call 0 [.var 0, .var 1]) (.bin .sub (.cst (.int 0)) (.call 0 [.var 0, .var 1])))) =
              (match decide (0 < b) with
                | true => run PG 18 (.x (rho0 0 [.int t, .int b]) none (.call 0 [.var 0, .var 1]))
                | false => run PG 18 (.x (rho0 0 [.int t, .int b]) none (.bin .sub (.cst (.int 0)) (.call 0 [.var 0, .var 1])))) := rfl
          rw [e0]
          cases b with
          | ofNat n =>
            have hn : n ≠ 0 := fun q => hb (by rw [q]; rfl)
            rw [show decide ((0 : Int) < Int.ofNat n) = true from decide_eq_true (by show (0 : Int) < (n : Int); omega)]
            rfl
          | negSucc n =>
            rw [show decide ((0 : Int) < Int.negSucc n) = false from decide_eq_false (by omega)]
            rfl
        refine x_cons (x_if (out := (rho0 0 [.int t, .int b], none, none)) F (J.t _ _ _ _ t1 _ _ hc A env H s R Z.toX (F.xm Z)) fun s' F' => x_nil F') fun H1 s1 F1 => ?_
        refine x_cons (x_asg Z.toEnvZ F1 hi ((Z.kd _).trans hk) (fun xs e => by cases e) (J.x _ _ _ _ v1 _ _ he A env H1 s1 R Z.toX (F1.xm Z)) (hs env)) fun H2 s2 F2 => ?_
        have F3 : Fm C sc_rat env s₀ H H2 [(0, .int t), (1, .int b), (2, .int (ratS t b))] none s2 := F2
        refine x_cons_ret (x_ret F3 ?_)
        have V := F3.xm Z
        cases h2 with
        | tup hl2 =>
          cases hl2 with
          | cons h1 hs1 hl3 =>
            cases hl3 with
            | cons h3 hs3 hl4 =>
              cases hl4
              cases h1 with
              | bin ha1 hb1 =>
                cases h3 with
                | bin ha3 hb3 =>
                  refine gv_tuple V.st (by simp) (gl_cons (gv_bin (bop_div t _ hS hlS) V.st (J.x _ _ (.var 0) (.int t) (by rfl) _ _ ha1 A env H2 s2 R Z.toX V) fun s5 k5 => J.x _ _ (.var 2) (.int (ratS t b)) (by rfl) _ _ hb1 A env H2 s5 R Z.toX (V.keeps k5))
                    (fun s5 k5 => gl_cons (gv_bin (bop_div b _ hS hlS) (V.keeps k5).st (J.x _ _ (.var 1) (.int b) (by rfl) _ _ ha3 A env H2 s5 R Z.toX (V.keeps k5)) fun s6 k6 => J.x _ _ (.var 2) (.int (ratS t b)) (by rfl) _ _ hb3 A env H2 s6 R Z.toX ((V.keeps k5).keeps k6)) (fun _ _ => gl_nil) (hs3 env [])) (hs1 env _))
theorem memR_ok (W : Wd C (ftT PR) gdT fnT PG) : ∀ f ds m d, memR f ds = some (m, d) → CallOk C (ftT PR) m f ds d := fun f ds m d h => by
  unfold memR at h
  split at h
  · split at h
    · rename_i t b
      obtain ⟨h1, h2⟩ := when_eq h
      cases h2
      obtain ⟨h1, h2⟩ := Bool.and_eq_true_iff.mp h1
      exact call_ok (z := sc_rat) (ar := 2) W.B rfl (fd_rat PR) rfl fun A env H s₀ s R Z hk F => rat_body W (er_rat PR) R { toEnvZ := Z, kd := hk } F (fun q => by subst q; simp at h1) h2
    · cases h
  · cases h
end
end Mine
namespace Mine
open PySem PySem.Spec PySem.Calls PyProof.Rows

/-! ## The ratios' own sums, products, quotients: closed forms, for all numbers -/
section
variable {P : Pg} {n m f k : Nat} {ρ : Rho} {o : OwnL} {p : Bop} {a b e : X} {x y z d : D} {l : List X} {ds : List D} {ss : List Sm} {out : Out}
theorem r_bin (ha : run P n (.x ρ o a) = some (.v x)) (hb : run P n (.x ρ o b) = some (.v y)) (hz : dbop p x y = some z) : run P (n + 1) (.x ρ o (.bin p a b)) = some (.v z) := by
  show thn (vOf (run P n (.x ρ o a))) (fun x => thn (vOf (run P n (.x ρ o b))) fun y => thn (dbop p x y) fun d => some (Rs.v d)) = _
  rw [ha, hb]
  show thn (dbop p x y) (fun d => some (Rs.v d)) = _
  rw [hz]; rfl
theorem r_nil : run P (n + 1) (.l ρ o []) = some (.l []) := rfl
theorem r_cons (ha : run P n (.x ρ o e) = some (.v d)) (hl : run P n (.l ρ o l) = some (.l ds)) : run P (n + 1) (.l ρ o (e :: l)) = some (.l (d :: ds)) := by
  show thn (vOf (run P n (.x ρ o e))) (fun d => thn (lOf (run P n (.l ρ o l))) fun ds => some (Rs.l (d :: ds))) = _
  rw [ha, hl]; rfl
theorem r_call (hl : run P n (.l ρ o l) = some (.l ds)) (hc : run P n (.c f ds) = some (.v d)) : run P (n + 1) (.x ρ o (.call f l)) = some (.v d) := by
  show thn (lOf (run P n (.l ρ o l))) (fun ds => run P n (.c f ds)) = _
  rw [hl]; exact hc
theorem r_tup (hl : run P n (.l ρ o l) = some (.l ds)) (h : Nat.ble ds.length 5000 = true) : run P (n + 1) (.x ρ o (.tup l)) = some (.v (.tuple ds)) := by
  show thn (lOf (run P n (.l ρ o l))) (fun ds => when (Nat.ble ds.length 5000) (some (Rs.v (.tuple ds)))) = _
  rw [hl]
  show when (Nat.ble ds.length 5000) _ = _
  rw [h]; rfl
theorem r_ret {r : List Sm} (hx : run P n (.x ρ o e) = some (.v d)) : run P (n + 1) (.s ρ o (.ret e :: r)) = some (.out (ρ, o, some d)) := by
  show thn (vOf (run P n (.x ρ o e))) (fun d => some (Rs.out (ρ, o, some d))) = _
  rw [hx]; rfl
theorem r_c (hm : P.mem f ds = none) (hd : P.df f = some (k, ss)) (hl : Nat.beq ds.length k = true) (hs : run P n (.s (rho0 0 ds) none ss) = some (.out (ρ, o, some d))) : run P (n + 1) (.c f ds) = some (.v d) := by
  show (match P.mem f ds with | some (m, d) => when (Nat.ble m (n + 1)) (some (Rs.v d)) | none => thn (P.df f) fun p => when (Nat.beq ds.length p.1) (thn (oOf (run P n (.s (rho0 0 ds) none p.2))) fun out => thn out.2.2 fun d => some (Rs.v d))) = _
  rw [hm]
  show thn (P.df f) _ = _
  rw [hd]
  show when (Nat.beq ds.length k) _ = _
  rw [hl]
  show thn (oOf (run P n (.s (rho0 0 ds) none ss))) _ = _
  rw [hs]; rfl
theorem r_mem (hm : P.mem f ds = some (m, d)) (hle : Nat.ble m (n + 1) = true) : run P (n + 1) (.c f ds) = some (.v d) := by
  show (match P.mem f ds with | some (m, d) => when (Nat.ble m (n + 1)) (some (Rs.v d)) | none => thn (P.df f) fun p => when (Nat.beq ds.length p.1) (thn (oOf (run P n (.s (rho0 0 ds) none p.2))) fun out => thn out.2.2 fun d => some (Rs.v d))) = _
  rw [hm]
  show when (Nat.ble m (n + 1)) _ = _
  rw [hle]; rfl
end
noncomputable def okS (a b : Int) : Bool := small a || small b
theorem mul_ok {a b : Int} (h : okS a b = true) : dbop .mul (.int a) (.int b) = some (.int (a * b)) := by
  show ((if small a || small b then some (a * b) else none : Option Int)).map _ = _
  rw [if_pos (show (small a || small b) = true from h)]; rfl
noncomputable def ratW (t b : Int) : Option (Nat × D) := when (!(Nat.beq b.natAbs 0) && Nat.ble (Nat.log2 (ratG t b)) 8000) (some (30, ratV t b))
theorem ratW_ok {t b : Int} {m : Nat} {d : D} (h : ratW t b = some (m, d)) : m = 30 ∧ PR2.mem 2 [.int t, .int b] = some (20, d) := by
  obtain ⟨h1, h2⟩ := when_eq h
  cases h2
  refine ⟨rfl, ?_⟩
  show when (!(Nat.beq b.natAbs 0) && Nat.ble (Nat.log2 (ratG t b)) 8000) (some (20, ratV t b)) = _
  rw [h1]; rfl
noncomputable def memQ (f : Nat) (ds : List D) : Option (Nat × D) := match f with
  | 2 => memR 2 ds
  | 3 => match ds with
    | [.tuple [.int a, .int b], .tuple [.int c, .int d]] => when (okS a d && okS c b && okS b d) (ratW (a * d + c * b) (b * d))
    | _ => none
  | 4 => match ds with
    | [.tuple [.int a, .int b], .tuple [.int c, .int d]] => when (okS a c && okS b d) (ratW (a * c) (b * d))
    | _ => none
  | 5 => match ds with
    | [.tuple [.int a, .int b], .tuple [.int c, .int d]] => when (okS a d && okS b c) (ratW (a * d) (b * c))
    | _ => none
  | 6 => match ds with
    | [.tuple [.int a, .int b]] => some (30, .tuple [.int (0 - a), .int b])
    | _ => none
  | 7 => match ds with
    | [.tuple [.int a, .int b]] => ratW b a
    | _ => none
  | _ => none
noncomputable def PQ : Pg := ⟨dfT, memQ⟩
section
variable {C : Cx} {PR : Params}
theorem memQ_ok (WG : Wd C (ftT PR) gdT fnT PG) (W : Wd C (ftT PR) gdT fnT PR2) : ∀ f ds m d, memQ f ds = some (m, d) → CallOk C (ftT PR) m f ds d := fun f ds m v h => by
  unfold memQ at h
  split at h
  · exact memR_ok WG _ _ _ _ h
  · split at h
    · rename_i a b c d
      obtain ⟨h1, h2⟩ := when_eq h
      obtain ⟨h1, h3⟩ := Bool.and_eq_true_iff.mp h1
      obtain ⟨h0, h1⟩ := Bool.and_eq_true_iff.mp h1
      obtain ⟨rfl, hm⟩ := ratW_ok h2
      exact (sound W 30).c _ _ _ (r_c (k := 2) (ss := ir_radd) rfl rfl rfl (r_ret (r_call (r_cons (r_bin (r_bin rfl rfl (mul_ok h0)) (r_bin rfl rfl (mul_ok h1)) rfl) (r_cons (r_bin rfl rfl (mul_ok h3)) r_nil)) (r_mem hm rfl))))
    · cases h
  · split at h
    · rename_i a b c d
      obtain ⟨h1, h2⟩ := when_eq h
      obtain ⟨h0, h1⟩ := Bool.and_eq_true_iff.mp h1
      obtain ⟨rfl, hm⟩ := ratW_ok h2
      exact (sound W 30).c _ _ _ (r_c (k := 2) (ss := ir_rmul) rfl rfl rfl (r_ret (r_call (r_cons (r_bin rfl rfl (mul_ok h0)) (r_cons (r_bin rfl rfl (mul_ok h1)) r_nil)) (r_mem hm rfl))))
    · cases h
  · split at h
    · rename_i a b c d
      obtain ⟨h1, h2⟩ := when_eq h
      obtain ⟨h0, h1⟩ := Bool.and_eq_true_iff.mp h1
      obtain ⟨rfl, hm⟩ := ratW_ok h2
      exact (sound W 30).c _ _ _ (r_c (k := 2) (ss := ir_rdiv) rfl rfl rfl (r_ret (r_call (r_cons (r_bin rfl rfl (mul_ok h0)) (r_cons (r_bin rfl rfl (mul_ok h1)) r_nil)) (r_mem hm rfl))))
    · cases h
  · split at h
    · cases h
      exact (sound W 30).c _ _ _ (r_c (k := 1) (ss := ir_rneg) rfl rfl rfl (r_ret (r_tup (r_cons (r_bin rfl rfl rfl) (r_cons rfl r_nil)) rfl)))
    · cases h
  · split at h
    · obtain ⟨rfl, hm⟩ := ratW_ok h
      exact (sound W 30).c _ _ _ (r_c (k := 1) (ss := ir_rinv) rfl rfl rfl (r_ret (r_call (r_cons rfl (r_cons rfl r_nil)) (r_mem hm rfl))))
    · cases h
  · cases h
end
end Mine
namespace Mine
open PySem PySem.Spec PySem.Calls PyProof.Rows

/-! ## The law's terms, and what they are worth -/
noncomputable def xsD : D := .tuple [.str "sym", .str "x"]
noncomputable def numD (a b : Int) : D := .tuple [.str "num", .int a, .int b]
noncomputable def lineD (a : Int) : D := .tuple [.str "sum", .tuple [xsD, numD a 1]]
noncomputable def belowD (a : Int) : D := .tuple [.str "pow", lineD a, numD (-1) 1]
noncomputable def hiddenD (t b a : Int) : D := .tuple [.str "sum", .tuple [.tuple [.str "prod", .tuple [numD t b, xsD, belowD a]], .tuple [.str "prod", .tuple [numD t b, numD a 1, belowD a]]]]
noncomputable def oneL : D := .list [.tuple [.int 1, .int 1]]
noncomputable def worth (t b : Int) : D := match t == 0 with | true => .tuple [.list [], oneL] | false => .tuple [.list [.tuple [.int t, .int b]], oneL]
noncomputable def worthL (a : Int) : D := .tuple [.list [.tuple [.int a, .int 1], .tuple [.int 1, .int 1]], oneL]
noncomputable def keyH (d : D) : Option (Int × Int × Int) := match d with
  | .tuple [_, .tuple [.tuple [_, .tuple [.tuple [_, .int t, .int b], _, _]], .tuple [_, .tuple [_, .tuple [_, .int a, _], _]]]] => some (t, b, a)
  | _ => none
noncomputable def keyL (d : D) : Option Int := match d with
  | .tuple [_, .tuple [.tuple [_, _], .tuple [_, .int a, _]]] => some a
  | _ => none
noncomputable def menuT : List (Int × Int) := [(2, 1), (-1, 1), (1, 2), (3, 1), (0, 1), (1, 1), (-3, 2)]
noncomputable def menuA : List Int := [1, 2, 3]
noncomputable def inM (t b a : Int) : Bool := menuT.any (fun p => p.1 == t && p.2 == b) && menuA.any (fun x => x == a)
noncomputable def memK (f : Nat) (d : D) : Option (Nat × D) := match keyH d with
  | some (t, b, a) => when (inM t b a && deqB d (hiddenD t b a)) (match f with | 29 => some (130, .bool true) | 31 => some (130, worth t b) | _ => none)
  | none => match keyL d with
    | some a => when (menuA.any (fun x => x == a) && deqB d (lineD a)) (match f with | 29 => some (130, .bool true) | 31 => some (130, worthL a) | _ => none)
    | none => none
noncomputable def bworth (a : Int) : D := .tuple [oneL, .list [.tuple [.int a, .int 1], .tuple [.int 1, .int 1]]]
noncomputable def keyB (d : D) : Option Int := match d with
  | .tuple [_, .tuple [_, .tuple [_, .tuple [_, .int a, _]]], _] => some a
  | _ => none
noncomputable def memB (f : Nat) (ds : List D) : Option (Nat × D) := match f with
  | 31 => match ds with
    | [d, x] => match keyB d with
      | some a => when (menuA.any (fun x => x == a) && deqB d (belowD a) && deqB x (.str "x")) (some (100, bworth a))
      | none => none
    | _ => none
  | f => memQ f ds
noncomputable def PB : Pg := ⟨dfT, memB⟩
noncomputable def memH (f : Nat) (ds : List D) : Option (Nat × D) := match f with
  | 29 => match ds with
    | [d, x] => when (deqB x (.str "x")) (memK 29 d)
    | _ => none
  | 31 => match ds with
    | [d, x] => when (deqB x (.str "x")) (memK 31 d)
    | _ => none
  | f => memQ f ds
noncomputable def PH : Pg := ⟨dfT, memH⟩

theorem b31_1 : isV (run PQ 100 (.c 31 [belowD 1, .str "x"])) (bworth 1) = true := by decide +kernel
theorem b31_2 : isV (run PQ 100 (.c 31 [belowD 2, .str "x"])) (bworth 2) = true := by decide +kernel
theorem b31_3 : isV (run PQ 100 (.c 31 [belowD 3, .str "x"])) (bworth 3) = true := by decide +kernel
theorem h31_0_1 : isV (run PB 130 (.c 31 [hiddenD (2) 1 1, .str "x"])) (worth (2) 1) = true := by decide +kernel
theorem h29_0_1 : isV (run PB 130 (.c 29 [hiddenD (2) 1 1, .str "x"])) (.bool true) = true := by decide +kernel
theorem h31_0_2 : isV (run PB 130 (.c 31 [hiddenD (2) 1 2, .str "x"])) (worth (2) 1) = true := by decide +kernel
theorem h29_0_2 : isV (run PB 130 (.c 29 [hiddenD (2) 1 2, .str "x"])) (.bool true) = true := by decide +kernel
theorem h31_0_3 : isV (run PB 130 (.c 31 [hiddenD (2) 1 3, .str "x"])) (worth (2) 1) = true := by decide +kernel
theorem h29_0_3 : isV (run PB 130 (.c 29 [hiddenD (2) 1 3, .str "x"])) (.bool true) = true := by decide +kernel
theorem h31_1_1 : isV (run PB 130 (.c 31 [hiddenD (-1) 1 1, .str "x"])) (worth (-1) 1) = true := by decide +kernel
theorem h29_1_1 : isV (run PB 130 (.c 29 [hiddenD (-1) 1 1, .str "x"])) (.bool true) = true := by decide +kernel
theorem h31_1_2 : isV (run PB 130 (.c 31 [hiddenD (-1) 1 2, .str "x"])) (worth (-1) 1) = true := by decide +kernel
theorem h29_1_2 : isV (run PB 130 (.c 29 [hiddenD (-1) 1 2, .str "x"])) (.bool true) = true := by decide +kernel
theorem h31_1_3 : isV (run PB 130 (.c 31 [hiddenD (-1) 1 3, .str "x"])) (worth (-1) 1) = true := by decide +kernel
theorem h29_1_3 : isV (run PB 130 (.c 29 [hiddenD (-1) 1 3, .str "x"])) (.bool true) = true := by decide +kernel
theorem h31_2_1 : isV (run PB 130 (.c 31 [hiddenD (1) 2 1, .str "x"])) (worth (1) 2) = true := by decide +kernel
theorem h29_2_1 : isV (run PB 130 (.c 29 [hiddenD (1) 2 1, .str "x"])) (.bool true) = true := by decide +kernel
theorem h31_2_2 : isV (run PB 130 (.c 31 [hiddenD (1) 2 2, .str "x"])) (worth (1) 2) = true := by decide +kernel
theorem h29_2_2 : isV (run PB 130 (.c 29 [hiddenD (1) 2 2, .str "x"])) (.bool true) = true := by decide +kernel
theorem h31_2_3 : isV (run PB 130 (.c 31 [hiddenD (1) 2 3, .str "x"])) (worth (1) 2) = true := by decide +kernel
theorem h29_2_3 : isV (run PB 130 (.c 29 [hiddenD (1) 2 3, .str "x"])) (.bool true) = true := by decide +kernel
theorem h31_3_1 : isV (run PB 130 (.c 31 [hiddenD (3) 1 1, .str "x"])) (worth (3) 1) = true := by decide +kernel
theorem h29_3_1 : isV (run PB 130 (.c 29 [hiddenD (3) 1 1, .str "x"])) (.bool true) = true := by decide +kernel
theorem h31_3_2 : isV (run PB 130 (.c 31 [hiddenD (3) 1 2, .str "x"])) (worth (3) 1) = true := by decide +kernel
theorem h29_3_2 : isV (run PB 130 (.c 29 [hiddenD (3) 1 2, .str "x"])) (.bool true) = true := by decide +kernel
theorem h31_3_3 : isV (run PB 130 (.c 31 [hiddenD (3) 1 3, .str "x"])) (worth (3) 1) = true := by decide +kernel
theorem h29_3_3 : isV (run PB 130 (.c 29 [hiddenD (3) 1 3, .str "x"])) (.bool true) = true := by decide +kernel
theorem h31_4_1 : isV (run PB 130 (.c 31 [hiddenD (0) 1 1, .str "x"])) (worth (0) 1) = true := by decide +kernel
theorem h29_4_1 : isV (run PB 130 (.c 29 [hiddenD (0) 1 1, .str "x"])) (.bool true) = true := by decide +kernel
theorem h31_4_2 : isV (run PB 130 (.c 31 [hiddenD (0) 1 2, .str "x"])) (worth (0) 1) = true := by decide +kernel
theorem h29_4_2 : isV (run PB 130 (.c 29 [hiddenD (0) 1 2, .str "x"])) (.bool true) = true := by decide +kernel
theorem h31_4_3 : isV (run PB 130 (.c 31 [hiddenD (0) 1 3, .str "x"])) (worth (0) 1) = true := by decide +kernel
theorem h29_4_3 : isV (run PB 130 (.c 29 [hiddenD (0) 1 3, .str "x"])) (.bool true) = true := by decide +kernel
theorem h31_5_1 : isV (run PB 130 (.c 31 [hiddenD (1) 1 1, .str "x"])) (worth (1) 1) = true := by decide +kernel
theorem h29_5_1 : isV (run PB 130 (.c 29 [hiddenD (1) 1 1, .str "x"])) (.bool true) = true := by decide +kernel
theorem h31_5_2 : isV (run PB 130 (.c 31 [hiddenD (1) 1 2, .str "x"])) (worth (1) 1) = true := by decide +kernel
theorem h29_5_2 : isV (run PB 130 (.c 29 [hiddenD (1) 1 2, .str "x"])) (.bool true) = true := by decide +kernel
theorem h31_5_3 : isV (run PB 130 (.c 31 [hiddenD (1) 1 3, .str "x"])) (worth (1) 1) = true := by decide +kernel
theorem h29_5_3 : isV (run PB 130 (.c 29 [hiddenD (1) 1 3, .str "x"])) (.bool true) = true := by decide +kernel
theorem h31_6_1 : isV (run PB 130 (.c 31 [hiddenD (-3) 2 1, .str "x"])) (worth (-3) 2) = true := by decide +kernel
theorem h29_6_1 : isV (run PB 130 (.c 29 [hiddenD (-3) 2 1, .str "x"])) (.bool true) = true := by decide +kernel
theorem h31_6_2 : isV (run PB 130 (.c 31 [hiddenD (-3) 2 2, .str "x"])) (worth (-3) 2) = true := by decide +kernel
theorem h29_6_2 : isV (run PB 130 (.c 29 [hiddenD (-3) 2 2, .str "x"])) (.bool true) = true := by decide +kernel
theorem h31_6_3 : isV (run PB 130 (.c 31 [hiddenD (-3) 2 3, .str "x"])) (worth (-3) 2) = true := by decide +kernel
theorem h29_6_3 : isV (run PB 130 (.c 29 [hiddenD (-3) 2 3, .str "x"])) (.bool true) = true := by decide +kernel
theorem l31_1 : isV (run PB 130 (.c 31 [lineD 1, .str "x"])) (worthL 1) = true := by decide +kernel
theorem l29_1 : isV (run PB 130 (.c 29 [lineD 1, .str "x"])) (.bool true) = true := by decide +kernel
theorem l31_2 : isV (run PB 130 (.c 31 [lineD 2, .str "x"])) (worthL 2) = true := by decide +kernel
theorem l29_2 : isV (run PB 130 (.c 29 [lineD 2, .str "x"])) (.bool true) = true := by decide +kernel
theorem l31_3 : isV (run PB 130 (.c 31 [lineD 3, .str "x"])) (worthL 3) = true := by decide +kernel
theorem l29_3 : isV (run PB 130 (.c 29 [lineD 3, .str "x"])) (.bool true) = true := by decide +kernel
end Mine
namespace Mine
open PySem PySem.Spec PySem.Calls PyProof.Rows PySem.W

/-! ## The law's own body: what writes the box -/
noncomputable def Go (C : Cx) (A : Around) (z : Sc) (env : Env) (s₀ : Shared) (H₀ H : List Addr) (ρ : Rho) (t : Sem Value) (o' : OwnL) (Pd : D → Prop) (s : Shared) : Prop :=
  ∀ E, wpAny C.M A t (fun v s' => ∃ d, Pd d ∧ Rz H s'.heap d v ∧ Fm C z env s₀ H₀ H ρ o' s' ∧ Pres env H s s') E s

section
variable {C : Cx} {A : Around} {H H₀ : List Addr} {s s' s₀ : Shared} {env : Env} {z : Sc} {ρ : Rho} {o o' : OwnL} {gd : Str → Option D} {P : Pg} {PR : Params}

theorem Go.use {t : Sem Value} {Pd : D → Prop} {Q : Value → Shared → Prop} {E : Value → Shared → Prop} (g : Go C A z env s₀ H₀ H ρ t o' Pd s) (h : ∀ v s' d, Pd d → Rz H s'.heap d v → Fm C z env s₀ H₀ H ρ o' s' → Pres env H s s' → Q v s') : wpAny C.M A t Q E s :=
  wpAny_mono (g E) (fun v s' ⟨d, a, b, c, e⟩ => h v s' d a b c e) fun _ _ x => x
theorem go_of {t : Sem Value} {d : D} (F : Fm C z env s₀ H₀ H ρ o s) (g : Gv C A H t d s) : Go C A z env s₀ H₀ H ρ t o (fun x => x = d) s := fun E => g.use fun v s' k r => ⟨d, rfl, r, F.keeps k, Pres.keeps k⟩

/-- the own list has new items -/
theorem Fm.boxed {i : Nat} {xs ys : List D} {B : Addr} {vs : Array Value} (F : Fm C z env s₀ H₀ (B :: H₀) ρ (some (i, xs)) s) (hs : ∃ h tk, s' = { s with heap := h, toks := tk }) (hk : ∀ b ob, b ≠ B → s.heap.get? b = some ob → s'.heap.get? b = some ob)
    (hp : s'.heap.PlainList B vs) (r : RzL (B :: H₀) s'.heap ys vs.toList) : Fm C z env s₀ H₀ (B :: H₀) ρ (some (i, ys)) s' ∧ Pres env (B :: H₀) s s' := by
  obtain ⟨B', x, vs0, m, hH, hx, hkx, hm, hmx, hp0, r0, hB, hn, hρ⟩ := F.own.ex
  cases hH
  have hLB : env.locals ≠ B := fun q => by
    obtain ⟨m', oL, es, ep, e1, e2, _⟩ := F.ns
    obtain ⟨n, e⟩ := hp0
    rw [q, e] at e1; cases e1; cases e2
  have hcB : ∀ n c v, env.cells.lookup n = some c → s.heap.IsCell c v → c ≠ B := fun n c v _ ⟨oc, e, hd⟩ q => by
    obtain ⟨n', e'⟩ := hp0
    rw [q, e'] at e; cases e; cases hd
  have kp : Kp (B :: H₀) s.heap s'.heap := fun b ob hb _ e => hk b ob (fun q => hb (q ▸ .head _)) e
  have nsk : ∀ m, s.heap.Ns env.locals m → s'.heap.Ns env.locals m := fun m q => q.at fun ob e => hk _ ob hLB e
  obtain ⟨h1, tk1, rfl⟩ := F.same
  obtain ⟨h2, tk2, rfl⟩ := hs
  obtain ⟨nB, eB⟩ := id hp
  refine ⟨⟨⟨h2, tk2, rfl⟩, fun b ob e => hk b ob (fun q => by rw [q, hB] at e; cases e) (F.keep b ob e), F.fresh, let ⟨m, q⟩ := F.ns; ⟨m, nsk m q⟩, fun n c e => ?_, F.apart, F.old0, ⟨fun b ob e => hk b ob (fun q => ?_) (F.st.old b ob e), F.st.hid, fun b hb => ?_⟩, fun j d e => ?_, ⟨B, x, vs, m, rfl, hx, hkx, nsk m hm, hmx, hp, r, hB, hn, hρ⟩⟩,
    ⟨fun b ob _ _ hb e => hk b ob (fun q => hb (q ▸ .head _)) e, fun b ob e => ?_⟩⟩
  · obtain ⟨q, v, oc, e1, e2⟩ := F.cells n c e
    exact ⟨q, v, oc, hk c oc (hcB n c v e ⟨oc, e1, e2⟩) e1, e2⟩
  · have := F.old0 b ob e
    rw [q, hB] at this; cases this
  · by_cases hbB : b = B
    · exact ⟨_, hbB ▸ eB⟩
    · obtain ⟨ob, e⟩ := F.st.inn b hb
      exact ⟨ob, hk b ob hbB e⟩
  · obtain ⟨y, u, a1, a2, ru⟩ := F.rho j d e
    refine ⟨y, u, a1, ?_, Rz.kp kp _ ru⟩
    rcases a2 with ⟨ky, my, hmy, hv⟩ | ⟨ky, c, hc, oc, e1, e2⟩
    · exact .inl ⟨ky, my, nsk my hmy, hv⟩
    · exact .inr ⟨ky, c, hc, oc, hk c oc (hcB _ c _ hc ⟨oc, e1, e2⟩) e1, e2⟩
  · by_cases hbB : b = B
    · exact ⟨_, hbB ▸ eB⟩
    · exact ⟨ob, hk b ob hbB e⟩

theorem go_idx {value slice : Expr} {pos : Pos} {a : D} {Pi Pd : D → Prop} (F : Fm C z env s₀ H₀ H ρ o s) (ha : Gv C A H (eval value env) a s) (hi : ∀ s', Fm C z env s₀ H₀ H ρ o s' → Go C A z env s₀ H₀ H ρ (eval slice env) o' Pi s')
    (h : ∀ i, Pi i → ∃ d, Pd d ∧ didx a i = some d) (hs : Subd slice) : Go C A z env s₀ H₀ H ρ (eval (.Subscript value slice pos) env) o' Pd s := fun E =>
  Subscript_ (ha.use fun v s1 k1 r1 => (hi s1 (F.keeps k1)).use fun u s2 i hPi r2 F2 p2 => by
    obtain ⟨d, hd, hidx⟩ := h i hPi
    exact (g_item hidx (Rz.kp ((F.keeps k1).kpPres p2) _ r1) r2 hs).use fun x s3 k3 r3 => ⟨d, hd, r3, F2.keeps k3, ((Pres.keeps k1).trans Hid.refl p2).trans Hid.refl (Pres.keeps k3)⟩)
theorem go_bin {op : Bop} {l r : Expr} {pos : Pos} {a : D} {Pb Pd : D → Prop} (F : Fm C z env s₀ H₀ H ρ o s) (hl : Gv C A H (eval l env) a s) (hr : ∀ s', Fm C z env s₀ H₀ H ρ o s' → Go C A z env s₀ H₀ H ρ (eval r env) o' Pb s')
    (h : ∀ b, Pb b → ∃ d, Pd d ∧ dbop op a b = some d) : Go C A z env s₀ H₀ H ρ (eval (.BinOp l op.py r pos) env) o' Pd s := fun E =>
  wpAny_BinOp (hl.use fun v s1 k1 r1 => (hr s1 (F.keeps k1)).use fun u s2 b hPb r2 F2 p2 => by
    obtain ⟨d, hd, hb⟩ := h b hPb
    exact (g_dbop hb F2.st (Rz.kp ((F.keeps k1).kpPres p2) _ r1) r2).use fun x s3 k3 r3 => ⟨d, hd, r3, F2.keeps k3, ((Pres.keeps k1).trans Hid.refl p2).trans Hid.refl (Pres.keeps k3)⟩)
theorem go_tup2 {e1 e2 : Expr} {k : Nat} {pos : Pos} {o1 : OwnL} {P1 P2 : D → Prop} (F : Fm C z env s₀ H₀ H ρ o s) (h1 : Go C A z env s₀ H₀ H ρ (eval e1 env) o1 P1 s) (h2 : ∀ s', Fm C z env s₀ H₀ H ρ o1 s' → Go C A z env s₀ H₀ H ρ (eval e2 env) o' P2 s') (n1 : NotStar e1) (n2 : NotStar e2) :
    Go C A z env s₀ H₀ H ρ (eval (.Tuple [e1, e2] k pos) env) o' (fun d => ∃ a b, P1 a ∧ P2 b ∧ d = .tuple [a, b]) s := fun E =>
  wpAny_Tuple (wpAny_items_cons (h1.use fun v s1 a ha r1 F1 p1 => wpAny_items_cons ((h2 s1 F1).use fun u s2 b hb r2 F2 p2 => wpAny_items_nil (by
    have r1' := Rz.kp (F1.kpPres p2) _ r1
    refine ⟨by show 2 ≤ sizeLine; rw [size_line]; omega, .tuple [a, b], ⟨a, b, ha, hb, rfl⟩, ?_, F2.keeps (Ks.push s2 _ _), (p1.trans Hid.refl p2).trans Hid.refl (Pres.keeps (Ks.push s2 _ _))⟩
    refine ⟨_, #[v, u], rfl, F2.st.size, ⟨_, Heap.get?_push_size _ rfl, rfl, _, rfl⟩, v, [u], rfl, r1'.keeps fun _ _ e => Heap.get?_push_of_some _ e, u, [], rfl, r2.keeps fun _ _ e => Heap.get?_push_of_some _ e, rfl⟩)) (n2 env _)) (n1 env _))
end
end Mine
namespace Mine
open PySem PySem.Spec PySem.Calls PyProof.Rows PySem.W

theorem inM_cases {t b a : Int} (h : inM t b a = true) : (t, b) ∈ menuT ∧ a ∈ menuA := by
  unfold inM at h
  obtain ⟨h1, h2⟩ := Bool.and_eq_true_iff.mp h
  refine ⟨?_, ?_⟩
  · obtain ⟨p, hp, e⟩ := List.any_eq_true.mp h1
    obtain ⟨e1, e2⟩ := Bool.and_eq_true_iff.mp e
    have e1' := beq_iff_eq.mp e1
    have e2' := beq_iff_eq.mp e2
    obtain ⟨p1, p2⟩ := p
    cases e1'; cases e2'
    exact hp
  · obtain ⟨p, hp, e⟩ := List.any_eq_true.mp h2
    rw [← beq_iff_eq.mp e]; exact hp
theorem inA_cases {a : Int} (h : menuA.any (fun x => x == a) = true) : a ∈ menuA := by
  obtain ⟨p, hp, e⟩ := List.any_eq_true.mp h
  rw [← beq_iff_eq.mp e]; exact hp
theorem h31_all {t b a : Int} (h : (t, b) ∈ menuT) (ha : a ∈ menuA) : isV (run PB 130 (.c 31 [hiddenD t b a, .str "x"])) (worth t b) = true := by
  rcases List.mem_cons.mp h with e | h
  · cases e
    rcases List.mem_cons.mp ha with rfl | ha; · exact h31_0_1
    rcases List.mem_cons.mp ha with rfl | ha; · exact h31_0_2
    rcases List.mem_cons.mp ha with rfl | ha; · exact h31_0_3
    cases ha
  rcases List.mem_cons.mp h with e | h
  · cases e
    rcases List.mem_cons.mp ha with rfl | ha; · exact h31_1_1
    rcases List.mem_cons.mp ha with rfl | ha; · exact h31_1_2
    rcases List.mem_cons.mp ha with rfl | ha; · exact h31_1_3
    cases ha
  rcases List.mem_cons.mp h with e | h
  · cases e
    rcases List.mem_cons.mp ha with rfl | ha; · exact h31_2_1
    rcases List.mem_cons.mp ha with rfl | ha; · exact h31_2_2
    rcases List.mem_cons.mp ha with rfl | ha; · exact h31_2_3
    cases ha
  rcases List.mem_cons.mp h with e | h
  · cases e
    rcases List.mem_cons.mp ha with rfl | ha; · exact h31_3_1
    rcases List.mem_cons.mp ha with rfl | ha; · exact h31_3_2
    rcases List.mem_cons.mp ha with rfl | ha; · exact h31_3_3
    cases ha
  rcases List.mem_cons.mp h with e | h
  · cases e
    rcases List.mem_cons.mp ha with rfl | ha; · exact h31_4_1
    rcases List.mem_cons.mp ha with rfl | ha; · exact h31_4_2
    rcases List.mem_cons.mp ha with rfl | ha; · exact h31_4_3
    cases ha
  rcases List.mem_cons.mp h with e | h
  · cases e
    rcases List.mem_cons.mp ha with rfl | ha; · exact h31_5_1
    rcases List.mem_cons.mp ha with rfl | ha; · exact h31_5_2
    rcases List.mem_cons.mp ha with rfl | ha; · exact h31_5_3
    cases ha
  rcases List.mem_cons.mp h with e | h
  · cases e
    rcases List.mem_cons.mp ha with rfl | ha; · exact h31_6_1
    rcases List.mem_cons.mp ha with rfl | ha; · exact h31_6_2
    rcases List.mem_cons.mp ha with rfl | ha; · exact h31_6_3
    cases ha
  cases h
theorem h29_all {t b a : Int} (h : (t, b) ∈ menuT) (ha : a ∈ menuA) : isV (run PB 130 (.c 29 [hiddenD t b a, .str "x"])) (.bool true) = true := by
  rcases List.mem_cons.mp h with e | h
  · cases e
    rcases List.mem_cons.mp ha with rfl | ha; · exact h29_0_1
    rcases List.mem_cons.mp ha with rfl | ha; · exact h29_0_2
    rcases List.mem_cons.mp ha with rfl | ha; · exact h29_0_3
    cases ha
  rcases List.mem_cons.mp h with e | h
  · cases e
    rcases List.mem_cons.mp ha with rfl | ha; · exact h29_1_1
    rcases List.mem_cons.mp ha with rfl | ha; · exact h29_1_2
    rcases List.mem_cons.mp ha with rfl | ha; · exact h29_1_3
    cases ha
  rcases List.mem_cons.mp h with e | h
  · cases e
    rcases List.mem_cons.mp ha with rfl | ha; · exact h29_2_1
    rcases List.mem_cons.mp ha with rfl | ha; · exact h29_2_2
    rcases List.mem_cons.mp ha with rfl | ha; · exact h29_2_3
    cases ha
  rcases List.mem_cons.mp h with e | h
  · cases e
    rcases List.mem_cons.mp ha with rfl | ha; · exact h29_3_1
    rcases List.mem_cons.mp ha with rfl | ha; · exact h29_3_2
    rcases List.mem_cons.mp ha with rfl | ha; · exact h29_3_3
    cases ha
  rcases List.mem_cons.mp h with e | h
  · cases e
    rcases List.mem_cons.mp ha with rfl | ha; · exact h29_4_1
    rcases List.mem_cons.mp ha with rfl | ha; · exact h29_4_2
    rcases List.mem_cons.mp ha with rfl | ha; · exact h29_4_3
    cases ha
  rcases List.mem_cons.mp h with e | h
  · cases e
    rcases List.mem_cons.mp ha with rfl | ha; · exact h29_5_1
    rcases List.mem_cons.mp ha with rfl | ha; · exact h29_5_2
    rcases List.mem_cons.mp ha with rfl | ha; · exact h29_5_3
    cases ha
  rcases List.mem_cons.mp h with e | h
  · cases e
    rcases List.mem_cons.mp ha with rfl | ha; · exact h29_6_1
    rcases List.mem_cons.mp ha with rfl | ha; · exact h29_6_2
    rcases List.mem_cons.mp ha with rfl | ha; · exact h29_6_3
    cases ha
  cases h
theorem l31_all {a : Int} (ha : a ∈ menuA) : isV (run PB 130 (.c 31 [lineD a, .str "x"])) (worthL a) = true := by
  rcases List.mem_cons.mp ha with rfl | ha; · exact l31_1
  rcases List.mem_cons.mp ha with rfl | ha; · exact l31_2
  rcases List.mem_cons.mp ha with rfl | ha; · exact l31_3
  cases ha
theorem l29_all {a : Int} (ha : a ∈ menuA) : isV (run PB 130 (.c 29 [lineD a, .str "x"])) (.bool true) = true := by
  rcases List.mem_cons.mp ha with rfl | ha; · exact l29_1
  rcases List.mem_cons.mp ha with rfl | ha; · exact l29_2
  rcases List.mem_cons.mp ha with rfl | ha; · exact l29_3
  cases ha
section
variable {C : Cx} {PR : Params}
theorem b31_all {a : Int} (ha : a ∈ menuA) : isV (run PQ 100 (.c 31 [belowD a, .str "x"])) (bworth a) = true := by
  rcases List.mem_cons.mp ha with rfl | ha; · exact b31_1
  rcases List.mem_cons.mp ha with rfl | ha; · exact b31_2
  rcases List.mem_cons.mp ha with rfl | ha; · exact b31_3
  cases ha
theorem memB_ok (WG : Wd C (ftT PR) gdT fnT PG) (WR : Wd C (ftT PR) gdT fnT PR2) (W : Wd C (ftT PR) gdT fnT PQ) : ∀ f ds m d, memB f ds = some (m, d) → CallOk C (ftT PR) m f ds d := fun f ds m d h => by
  unfold memB at h
  split at h
  · split at h
    · split at h
      · obtain ⟨h1, h⟩ := when_eq h
        obtain ⟨h1, h3⟩ := Bool.and_eq_true_iff.mp h1
        obtain ⟨h1, h2⟩ := Bool.and_eq_true_iff.mp h1
        rw [deqB_eq h2, deqB_eq h3]
        cases h
        exact (sound W 100).c _ _ _ (isV_eq (b31_all (inA_cases h1)))
      · cases h
    · cases h
  · exact memQ_ok WG WR _ _ _ _ h
theorem memK_ok (W : Wd C (ftT PR) gdT fnT PB) {f : Nat} {d : D} {m : Nat} {v : D} (hf : f = 29 ∨ f = 31) (h : memK f d = some (m, v)) : CallOk C (ftT PR) m f [d, .str "x"] v := by
  unfold memK at h
  split at h
  · rename_i t b a _
    obtain ⟨h1, h⟩ := when_eq h
    obtain ⟨h1, h2⟩ := Bool.and_eq_true_iff.mp h1
    rw [deqB_eq h2]
    obtain ⟨c1, c2⟩ := inM_cases h1
    rcases hf with rfl | rfl
    · cases h; exact (sound W 130).c _ _ _ (isV_eq (h29_all c1 c2))
    · cases h; exact (sound W 130).c _ _ _ (isV_eq (h31_all c1 c2))
  · split at h
    · rename_i a _
      obtain ⟨h1, h⟩ := when_eq h
      obtain ⟨h1, h2⟩ := Bool.and_eq_true_iff.mp h1
      rw [deqB_eq h2]
      have c2 := inA_cases h1
      rcases hf with rfl | rfl
      · cases h; exact (sound W 130).c _ _ _ (isV_eq (l29_all c2))
      · cases h; exact (sound W 130).c _ _ _ (isV_eq (l31_all c2))
    · cases h
theorem memH_ok (WG : Wd C (ftT PR) gdT fnT PG) (WR : Wd C (ftT PR) gdT fnT PR2) (W : Wd C (ftT PR) gdT fnT PB) : ∀ f ds m d, memH f ds = some (m, d) → CallOk C (ftT PR) m f ds d := fun f ds m d h => by
  unfold memH at h
  split at h
  · split at h
    · obtain ⟨h1, h⟩ := when_eq h
      rw [deqB_eq h1]
      exact memK_ok W (.inl rfl) h
    · cases h
  · split at h
    · obtain ⟨h1, h⟩ := when_eq h
      rw [deqB_eq h1]
      exact memK_ok W (.inr rfl) h
    · cases h
  · exact memQ_ok WG WR _ _ _ _ h
theorem wdH {prog : Program} {w : World} {h0 : Heap} {mg mb : Str → Option Value} (K : (hd.heap_1 PR).In h0) (g : h0.Ns mainGlobals mg) (b : h0.Ns builtinsNs mb) (bb : ∀ x : Str, x ≠ "__name__" → mb x = bootBuiltins x) (lim : h0.NoLimit) :
    Wd ⟨prog, w, h0, mg, mb⟩ (ftT PR) gdT fnT PH := by
  have W0 : Wd ⟨prog, w, h0, mg, mb⟩ (ftT PR) gdT fnT P0 := wd_of K g b bb lim fun f ds m d h => by cases h
  have WG : Wd ⟨prog, w, h0, mg, mb⟩ (ftT PR) gdT fnT PG := wd_of K g b bb lim (memG_ok W0)
  have WR : Wd ⟨prog, w, h0, mg, mb⟩ (ftT PR) gdT fnT PR2 := wd_of K g b bb lim (memR_ok WG)
  have WQ : Wd ⟨prog, w, h0, mg, mb⟩ (ftT PR) gdT fnT PQ := wd_of K g b bb lim (memQ_ok WG WR)
  have WB : Wd ⟨prog, w, h0, mg, mb⟩ (ftT PR) gdT fnT PB := wd_of K g b bb lim (memB_ok WG WR WQ)
  exact wd_of K g b bb lim (memH_ok WG WR WB)
end
end Mine
namespace Mine
open PySem PySem.Spec PySem.Calls PyProof.Rows PySem.W

noncomputable def sc_law : Sc := ⟨["script", "box", "top", "bottom", "apart", "n", "line", "below", "number", "hidden", "many", "is_long", "due", "one", "other"],
  [("script", .local), ("box", .local), ("top", .local), ("bottom", .local), ("apart", .local), ("n", .local), ("line", .cell), ("below", .local), ("number", .local), ("hidden", .local), ("many", .local), ("is_long", .local), ("due", .local), ("one", .local), ("other", .local), ("list", .globalImplicit), ("_law_take", .globalImplicit), ("_law_x", .globalImplicit), ("abs", .globalImplicit), ("_law_told", .globalImplicit)]⟩
theorem lk_law_take : sc_law.names.lookup ("_law_take" : Str) = some .globalImplicit := by decide +kernel
theorem lk_law_list : sc_law.names.lookup ("list" : Str) = some .globalImplicit := by decide +kernel
theorem lk_law_told : sc_law.names.lookup ("_law_told" : Str) = some .globalImplicit := by decide +kernel
theorem lk_law_box : sc_law.names.lookup ("box" : Str) = some .local := by decide +kernel
theorem lk_law_script : sc_law.names.lookup ("script" : Str) = some .local := by decide +kernel
theorem nd_take : NotDebug "_law_take" := by show (_ == _) = false; decide +kernel
theorem nd_told : NotDebug "_law_told" := by show (_ == _) = false; decide +kernel
theorem nd_script : NotDebug "script" := by show (_ == _) = false; decide +kernel

section
variable {C : Cx} {A : Around} {s s' s₀ : Shared} {env : Env} {ρ : Rho} {PR : Params} {P : Pg} {gd : Str → Option D}

theorem go_take {k mm : Nat} {xs : List Int} {r2 : Int} {B : Addr} {p pos p1 p2 : Pos} {kk : Nat} (W : Wd C (ftT PR) gd fnT P) (K : (hd.heap_1 PR).In C.h0) (Z : EnvF sc_law env) (R : Room A 20) (F : Fm C sc_law env s₀ [] [B] ρ (some (1, [.list (xs.map .int), .int (k : Nat)])) s)
    (hlen : xs.length ≤ 100) (hmm : 0 < mm) (hkk : k ≤ 10)
    (hA : run P 8 (.x [(1, .int (mm : Nat))] (some (0, [.list (xs.map .int), .int (k : Nat)])) (.bin .add (.oget 0 (.cst (.int 1))) (.cst (.int 1)))) = some (.v (.int ((k + 1 : Nat) : Int))))
    (hC : run P 9 (.x (Rho.put [(1, .int (mm : Nat))] 0 (.list [.list (xs.map .int), .int ((k + 1 : Nat) : Int)])) none (.bin .fmod (.bin .add (.bin .mul (.cst (.int 7)) (.idx (.var 0) (.cst (.int 1)))) (.bin .fdiv (.idx (.var 0) (.cst (.int 1))) (.cst (.int 4)))) (.var 1))) = some (.v (.int r2))) (h0 : 0 ≤ r2) (h1 : r2 < mm) :
    Go C A sc_law env s₀ [] [B] ρ (eval (.Call (.Name "_law_take" p) [.Name "box" p1, .Constant (.int (mm : Nat)) kk p2] [] pos) env) (some (1, [.list (xs.map .int), .int ((k + 1 : Nat) : Int)])) (fun d => ∃ r : Int, 0 ≤ r ∧ r < mm ∧ d = .int r) s := fun E => by
  have X := K.keeps F.st.old
  have hv : C.mg "_law_take" = some (.ref 264) := mg_of K W.B.g (by rfl)
  rw [call_arm]
  refine wpAny_bind (name_glob Z.toEnvS F.st W.B.g lk_law_take hv nd_take ?_)
  obtain ⟨B', y, vs, m, hH, hy, hky, hm, hmx, hp, rr, hB, hn, hρ⟩ := F.own.ex
  cases hH
  have hyb : y = "box" := by
    have : sc_law.nms[1]? = some ("box" : Str) := rfl
    exact Option.some.inj (hy.symm.trans this)
  subst hyb
  have hB0 : C.h0.get? B = none := by
    cases e : C.h0.get? B with
    | none => rfl
    | some ob => rw [F.old0 B ob e] at hB; cases hB
  obtain ⟨oF, hoF⟩ : ∃ oF, (hd.heap_1 PR).lookup 264 = some oF := ⟨_, rfl⟩
  refine callWith_function (o := oF) (fd := fdAt PR 264) (args_raw rfl (wpAny_items_cons (wpAny_Name (wpAny_loadName_local Z.fn hky hm hmx (wpAny_items_cons (wpAny_Constant_int (wpAny_items_nil ?_)) rfl)) nd_box) rfl))
  refine ⟨⟨X 264 _ hoF, by cases hoF; rfl⟩, ?_⟩
  have kT : Keeps s { s with toks := s.toks + 1 } := Ks.tok s _
  have F1 := F.keeps kT
  refine take_ok (n := 0) W K hlen hmm hkk hA hC h0 h1 A _ B vs _ R F1.st hp rr hB0 _ E fun s2 i u vs2 i0 i1 hs2 hk2 hp2 rr2 => ?_
  obtain ⟨F2, p2⟩ := F1.boxed hs2 hk2 hp2 rr2
  exact ⟨.int i, ⟨i, i0, i1, rfl⟩, ⟨u, rfl⟩, F2, (Pres.keeps kT).trans Hid.refl p2⟩
end
end Mine
namespace Mine
open PySem PySem.Spec PySem.Calls PyProof.Rows PySem.W

noncomputable def ir_m7 : X := .lst [.tup [.cst (.int 2), .cst (.int 1)], .tup [.neg (.cst (.int 1)), .cst (.int 1)], .tup [.cst (.int 1), .cst (.int 2)], .tup [.cst (.int 3), .cst (.int 1)], .tup [.cst (.int 0), .cst (.int 1)], .tup [.cst (.int 1), .cst (.int 1)], .tup [.neg (.cst (.int 3)), .cst (.int 2)]]
noncomputable def ir_m10 : X := .lst [.cst (.int 2), .neg (.cst (.int 1)), .cst (.int 3), .neg (.cst (.int 2)), .cst (.int 100000), .cst (.int 100001), .neg (.cst (.int 100001)), .bin .pow (.cst (.int 10)) (.cst (.int 12)), .neg (.bin .pow (.cst (.int 10)) (.cst (.int 12))), .cst (.int 1)]
noncomputable def ir_line : X := .tup [.cst (.str "sum"), .tup [.cst (.tuple [.str "sym", .str "x"]), .tup [.cst (.str "num"), .var 4, .cst (.int 1)]]]
noncomputable def ir_mid : List Sm := [.asgS [7, 8] (.tup [.tup [.cst (.str "pow"), .var 6, .tup [.cst (.str "num"), .neg (.cst (.int 1)), .cst (.int 1)]], .tup [.cst (.str "num"), .var 2, .var 3]]), .asg 9 (.tup [.cst (.str "sum"), .tup [.tup [.cst (.str "prod"), .tup [.var 8, .cst (.tuple [.str "sym", .str "x"]), .var 7]], .tup [.cst (.str "prod"), .tup [.var 8, .tup [.cst (.str "num"), .var 4, .cst (.int 1)], .var 7]]]]), .asgS [10, 11] (.tup [.bi .abs [.var 5], .and2 (.cmp .gt (.bi .abs [.var 5]) (.cst (.int 100000))) (.or2 (.cmp .gt (.bi .abs [.var 2]) (.cst (.int 1))) (.cmp .gt (.var 3) (.cst (.int 1))))]), .ite (.cmp .eq (.var 2) (.cst (.int 0))) [.asg 12 (.ite (.cmp .lt (.var 5) (.cst (.int 0))) (.cst .none) (.tup [.lst [], .lst [.tup [.cst (.int 1), .cst (.int 1)]]]))] [.ite (.val (.var 11)) [.asg 12 (.cst (.str "limit"))] [.ite (.and [.cmp .eq (.bi .abs [.var 2]) (.cst (.int 1)), .cmp .eq (.var 3) (.cst (.int 1))]) [.asg 12 (.tup [.lst [.tup [.ite (.cmp .eq (.bin .fmod (.var 10) (.cst (.int 2))) (.cst (.int 1))) (.var 2) (.cst (.int 1)), .cst (.int 1)]], .lst [.tup [.cst (.int 1), .cst (.int 1)]]])] [.asgP [13, 14] (.ite (.cmp .gt (.var 5) (.cst (.int 0))) (.tup [.bin .pow (.var 2) (.var 10), .bin .pow (.var 3) (.var 10)]) (.tup [.bin .pow (.var 3) (.var 10), .bin .pow (.bi .abs [.var 2]) (.var 10)])), .asg 12 (.tup [.lst [.tup [.ite (.or [.cmp .gt (.var 5) (.cst (.int 0)), .cmp .gt (.var 2) (.cst (.int 0)), .cmp .eq (.bin .fmod (.var 10) (.cst (.int 2))) (.cst (.int 0))]) (.var 13) (.bin .sub (.cst (.int 0)) (.var 13)), .var 14]], .lst [.tup [.cst (.int 1), .cst (.int 1)]]])]]]]
noncomputable def ir_arg : X := .tup [.cst (.str "pow"), .var 9, .tup [.cst (.str "num"), .var 5, .cst (.int 1)]]
noncomputable def menuN : List Int := [2, -1, 3, -2, 100000, 100001, -100001, 1000000000000, -1000000000000, 1]

section
variable {C : Cx} {A : Around} {H H' H₀ : List Addr} {s s' s₀ : Shared} {env : Env} {z : Sc} {ρ : Rho} {o o' : OwnL} {PR : Params} {P : Pg} {gd : Str → Option D}

theorem gf_list {elts : List Expr} {pos : Pos} {ds : List D} (S : St C H s) (hn : ds.length ≤ 5000) (h : GvL C A H (spliced (backTo pos (starEach elts env))) ds s) : Gf C A H (eval (.List elts pos) env) ds s := fun E =>
  wpAny_List (h.use fun vs s1 k1 r1 => by
    refine ⟨by rw [RzL.len r1, size_line]; omega, Ks.trans k1 (Ks.push s1 _ _), s1.heap.objs.size, vs.toArray, rfl, ?_, (S.keeps k1).size, ⟨_, Heap.get?_push_size _ rfl⟩, ?_⟩
    · cases e : s.heap.get? s1.heap.objs.size with
      | none => rfl
      | some ob => exact absurd (Heap.lt_size (Ks.heap k1 _ _ e)) (Nat.lt_irrefl _)
    · rw [List.toList_toArray]
      refine (RzL.off (fun a ob e hn hm => ?_) _ r1).keeps fun _ _ e => Heap.get?_push_of_some _ e
      rcases List.mem_cons.mp hm with rfl | hm
      · exact Nat.lt_irrefl _ (Heap.lt_size e)
      · exact hn hm)

theorem gv_upto0 {value hi : Expr} {p pos : Pos} {xs : List D} {k : Int} (hz : xs.length ≤ 5000) (S : St C H s) (ha : ∀ E, wpAny C.M A (eval value env) (fun v s' => Keeps s s' ∧ ∃ l vs, v = .ref l ∧ s'.heap.IsList l vs ∧ RzL H s'.heap xs vs.toList) E s) (hi' : ∀ s', Keeps s s' → Gv C A H (eval hi env) (.int k) s')
    (ht : ∀ o r, letTemporaryGo value o r = pure ()) : Gv C A H (eval (.Subscript value (.Slice none (some hi) none p) pos) env) (.list (xs.take (uptoN xs.length k))) s := fun E => by
  refine wpAny_Subscript_list_slice (wpAny_mono (ha E) (fun v s1 q => ?_) fun _ _ x => x) ht
  obtain ⟨k1, l, vs, rfl, hl1, hr1⟩ := q
  rw [evalPart_none]
  refine wpAny_pure ?_
  rw [evalPart_some]
  refine (hi' s1 k1).use fun u s2 k2 r2 => ?_
  have hl : s2.heap.IsList l vs := hl1.at fun ob e => Ks.heap k2 _ ob e
  have hr := hr1.keeps (Ks.heap k2)
  obtain ⟨tk, rfl⟩ := r2
  have len := RzL.len hr
  have hsz : vs.toList.length = vs.size := by simp
  have S2 := S.keeps (Ks.trans k1 k2)
  refine ⟨l, vs, none, some k, rfl, hl, by rw [size_line]; omega, .none, .int k tk, ?_⟩
  have hk : Keeps s2 { s2 with heap := (s2.heap.push { cls := .type "slice", data := .fields #[Value.none, Value.int k tk, Value.none] }).push { cls := .type "list", data := .seq (slicePick vs none (some k) none) } } :=
    ⟨_, _, rfl, fun _ _ e => Heap.get?_push_of_some _ (Heap.get?_push_of_some _ e)⟩
  refine ⟨Ks.trans (Ks.trans k1 k2) hk, ?_⟩
  have hnew : s2.heap.objs.size + 1 ∉ H := fun hm => by
    obtain ⟨o, e⟩ := S2.inn _ hm
    exact Nat.lt_irrefl _ (Nat.lt_of_succ_lt (Heap.lt_size e))
  have hget : ((s2.heap.push { cls := .type "slice", data := .fields #[Value.none, Value.int k tk, Value.none] }).push { cls := .type "list", data := .seq (slicePick vs none (some k) none) }).PlainList (s2.heap.objs.size + 1) (slicePick vs none (some k) none) := by
    have := Heap.get?_push_size (s2.heap.push { cls := .type "slice", data := .fields #[Value.none, Value.int k tk, Value.none] }) (o := { cls := .type "list", data := .seq (slicePick vs none (some k) none) }) rfl
    rw [Heap.size_push] at this
    exact ⟨_, this⟩
  refine ⟨_, _, rfl, hnew, hget, ?_⟩
  have e : uptoN vs.size k = uptoN xs.length k := by rw [← hsz, len]
  have q : (slicePick vs none (some k) none).toList = vs.toList.take (uptoN xs.length k) := by rw [slicePick_to, e, List.toList_toArray]
  have r3 := (RzL.take (uptoN xs.length k) hr).keeps (Ks.heap hk)
  rw [← q] at r3
  exact r3

/-- x, y = a tuple's value, by a tree that may write the own list -/
theorem x_asgT_go {xs : List (Str × Pos)} {k : Nat} {tpos pos : Pos} {value : Expr} {is : List Nat} {n : Nat} {Pd : D → Prop} {Q : Flow → Shared → Prop} {E : Value → Shared → Prop} (R : Room A n) (Z : EnvZ z env)
    (hv : Go C A z env s₀ H₀ H ρ (eval value env) o' Pd s) (hl : xs.length = is.length) (hd : ∀ d, Pd d → ∃ ds, d = .tuple ds ∧ ds.length = is.length)
    (hx : ∀ (k : Nat) i x, is[k]? = some i → (xs.map (·.1))[k]? = some x → z.nms[i]? = some x ∧ env.kindOf x = some .local ∧ ∀ ys, o' ≠ some (i, ys))
    (hs : swapsWithSole [.Tuple (xs.map fun x => Expr.Name x.1 x.2) k tpos] value pos.line env = pure false) (hw : swappedStores [.Tuple (xs.map fun x => Expr.Name x.1 x.2) k tpos] value env = pure none)
    (h : ∀ ds s', Pd (.tuple ds) → Fm C z env s₀ H₀ H (ρ.puts is ds) o' s' → Q .next s') :
    wpAny C.M A (exec (.Assign [.Tuple (xs.map fun x => Expr.Name x.1 x.2) k tpos] value pos) env) Q E s := by
  refine Assign_Tuple (hv.use fun v s1 d hPd r1 F1 p1 => ?_) hs hw
  obtain ⟨ds, rfl, hdl⟩ := hd d hPd
  obtain ⟨t, vs, rfl, _, ht, hr⟩ := r1
  have len := RzL.len hr
  have hsz : vs.toList.length = vs.size := by simp
  have ha := assignEach_names (env := env) xs
  refine wpAny_assign_Tuple R.h ht (by rw [ha, List.length_map]; omega) ?_ fun h' he => ?_
  · rw [ha]
    rw [List.findIdx?_eq_none_iff]
    intro p hp
    obtain ⟨q, _, rfl⟩ := List.mem_map.mp hp
    rfl
  have k2 := ext_keeps he
  rw [ha, List.map_map]
  refine in_order Z _ is (xs.map (·.1)) ds vs.toList ρ _ (by simp [hl]) (by simp [hl]) hdl ?_ hx (F1.keeps k2) (hr.keeps (Ks.heap k2)) fun s' F' p => h ds s' hPd F'
  intro j f x e1 e2
  rw [List.getElem?_map] at e1 e2
  obtain ⟨q, hq, rfl⟩ := Option.map_eq_some_iff.mp e1
  rw [hq] at e2
  cases e2
  exact storeF_assign
theorem x_asgS_go {elts : List Expr} {k : Nat} {tpos pos : Pos} {value : Expr} {names : List Str} {is : List Nat} {n : Nat} {Pd : D → Prop} {Q : Flow → Shared → Prop} {E : Value → Shared → Prop} (R : Room A n) (Z : EnvZ z env)
    (hv : Go C A z env s₀ H₀ H ρ (eval value env) o' Pd s) (hl : names.length = is.length) (hd : ∀ d, Pd d → ∃ ds, d = .tuple ds ∧ ds.length = is.length)
    (hx : ∀ (k : Nat) i x, is[k]? = some i → names[k]? = some x → z.nms[i]? = some x ∧ env.kindOf x = some .local ∧ ∀ ys, o' ≠ some (i, ys))
    (hs : swapsWithSole [.Tuple elts k tpos] value pos.line env = pure false) (hw : swappedStores [.Tuple elts k tpos] value env = pure (some names))
    (h : ∀ ds s', Pd (.tuple ds) → Fm C z env s₀ H₀ H (ρ.puts is.reverse ds.reverse) o' s' → Q .next s') :
    wpAny C.M A (exec (.Assign [.Tuple elts k tpos] value pos) env) Q E s := by
  refine Assign_Tuple_swapped (hv.use fun v s1 d hPd r1 F1 p1 => ?_) hs hw
  obtain ⟨ds, rfl, hdl⟩ := hd d hPd
  obtain ⟨t, vs, rfl, _, ht, hr⟩ := r1
  have len := RzL.len hr
  have hsz : vs.toList.length = vs.size := by simp
  rw [show names.length = vs.size by omega]
  refine wpAny_unpackItems_tuple R.h ht fun h' he => ?_
  have k2 := ext_keeps he
  refine in_order Z (names.reverse.map fun n => bindName env n) is.reverse names.reverse ds.reverse vs.toList.reverse ρ _ (by simp [hl]) (by simp [hl]) (by simp [hdl]) ?_ ?_ (F1.keeps k2) (rzl_rev (hr.keeps (Ks.heap k2))) fun s' F' p => h ds s' hPd F'
  · intro j f x e1 e2
    rw [List.getElem?_map, e2] at e1
    cases e1
    exact storeF_bind
  · intro j i x e1 e2
    have hj : j < is.length := by
      have := (List.getElem?_eq_some_iff.mp e1).1
      simpa using this
    rw [List.getElem?_reverse hj] at e1
    rw [List.getElem?_reverse (by omega), hl] at e2
    exact hx _ i x e1 e2
theorem Fm.del {i : Nat} (F : Fm C z env s₀ H₀ H ρ none s) : Fm C z env s₀ H₀ H (ρ.del i) none s :=
  ⟨F.same, F.keep, F.fresh, F.ns, F.cells, F.apart, F.old0, F.st, fun j d e => by
    rw [Rho.get_del] at e
    split at e
    · cases e
    · exact F.rho j d e, F.own⟩
end
end Mine
namespace Mine
open PySem PySem.Spec PySem.Calls PyProof.Rows PySem.W

section
variable {C : Cx} {A : Around} {H H' H₀ : List Addr} {s s' s₀ : Shared} {env : Env} {z : Sc} {ρ : Rho} {PR : Params}

/-- a cell's name is stored -/
theorem x_asgC {x : Str} {i : Nat} {e : Expr} {p pos : Pos} {d : D} {c : Addr} (Z : EnvF z env) (F : Fm C z env s₀ H₀ H ρ none s) (hi : z.nms[i]? = some x) (hk : z.names.lookup x = some .cell) (hc : env.cells.lookup x = some c)
    (h : Gv C A H (eval e env) d s) (hs : swapsWith e (some (.Name x p)) pos.line env = pure false) : Xs C A z env s₀ H₀ H (exec (.Assign [.Name x p] e pos) env) (ρ.put i d, none, none) s := fun E =>
  wpAny_Assign_Name (h.use fun v s1 k r => by
    have F1 := F.keeps k
    obtain ⟨q0, v0, hv0⟩ := F1.cells x c hc
    refine wpAny_storeName_cell Z.fn ((Z.kd x).trans hk) hc hv0 fun h' hc' hs' => ?_
    have hLc : env.locals ≠ c := fun q => by
      obtain ⟨m, oL, es, ep, e1, e2, _⟩ := F1.ns
      obtain ⟨oc, e3, e4⟩ := hv0
      rw [q, e3] at e1; cases e1; rw [e4] at e2; cases e2
    have kp : Kp H s1.heap h' := fun b ob _ hsq e => hs'.extBut b ob (fun q => by
      obtain ⟨oc, e3, e4⟩ := hv0
      rw [q, e3] at e; cases e
      obtain ⟨xs, n, q'⟩ := hsq
      rw [e4] at q'; cases q') e
    obtain ⟨h1, tk1, hsm⟩ := F1.same
    refine ⟨⟨fun b ob _ h2 _ e => hs'.extBut b ob (fun q => h2 x (q ▸ hc)) (Ks.heap k b ob e), fun b ob e => ?_⟩, rfl, H, ⟨⟨h', s1.toks, by rw [hsm]⟩, fun b ob e => hs'.extBut b ob (fun q => by rw [q, q0] at e; cases e) (F1.keep b ob e), F1.fresh, let ⟨m, q⟩ := F1.ns; ⟨m, q.sameBut hs' hLc⟩,
      fun n c' e => ?_, F1.apart, F1.old0, ⟨fun b ob e => hs'.extBut b ob (fun q => ?_) (F1.st.old b ob e), F1.st.hid, fun b hb => ?_⟩, fun j dj e => ?_, F1.own⟩, Hid.refl⟩
    · by_cases hb : b = c
      · obtain ⟨oc, e3, _⟩ := hc'
        exact ⟨oc, hb ▸ e3⟩
      · exact ⟨ob, hs'.extBut b ob hb (Ks.heap k b ob e)⟩
    · obtain ⟨q1, v1, hv1⟩ := F1.cells n c' e
      by_cases hcc : c' = c
      · subst hcc; exact ⟨q1, _, hc'⟩
      · exact ⟨q1, v1, hv1.sameBut hs' hcc⟩
    · have := F1.old0 b ob e
      rw [q, q0] at this; cases this
    · by_cases hbc : b = c
      · obtain ⟨oc, e3, _⟩ := hc'
        exact ⟨oc, hbc ▸ e3⟩
      · obtain ⟨ob, e⟩ := F1.st.inn b hb
        exact ⟨ob, hs'.extBut b ob hbc e⟩
    · rw [Rho.get_put] at e
      by_cases hij : i = j
      · rw [if_pos hij] at e; cases e
        exact ⟨x, v, hij ▸ hi, .inr ⟨(Z.kd x).trans hk, c, hc, hc'⟩, Rz.kp kp _ r⟩
      · rw [if_neg hij] at e
        obtain ⟨y, u, a1, a2, ru⟩ := F1.rho j dj e
        refine ⟨y, u, a1, ?_, Rz.kp kp _ ru⟩
        rcases a2 with ⟨ky, my, hmy, hv⟩ | ⟨ky, c2, hc2, hv⟩
        · exact .inl ⟨ky, my, hmy.sameBut hs' hLc, hv⟩
        · refine .inr ⟨ky, c2, hc2, hv.sameBut hs' fun q => ?_⟩
          have hyx := F1.apart y x c (q ▸ hc2) hc
          have : i = j := (List.getElem?_inj (List.getElem?_eq_some_iff.mp hi).1 Z.nd).mp (hi.trans (hyx ▸ a1.symm))
          exact hij this) hs

theorem pick7 : ∀ d, (∃ r : Int, 0 ≤ r ∧ r < (7 : Nat) ∧ d = .int r) → ∃ x, (∃ t b, (t, b) ∈ menuT ∧ x = .tuple [.int t, .int b]) ∧ didx (.list [.tuple [.int 2, .int 1], .tuple [.int (-1), .int 1], .tuple [.int 1, .int 2], .tuple [.int 3, .int 1], .tuple [.int 0, .int 1], .tuple [.int 1, .int 1], .tuple [.int (-3), .int 2]]) d = some x := by
  rintro d ⟨r, h0, h1, rfl⟩
  have : r = 0 ∨ r = 1 ∨ r = 2 ∨ r = 3 ∨ r = 4 ∨ r = 5 ∨ r = 6 := by omega
  rcases this with rfl | rfl | rfl | rfl | rfl | rfl | rfl
  · exact ⟨_, ⟨2, 1, by simp [menuT], rfl⟩, rfl⟩
  · exact ⟨_, ⟨-1, 1, by simp [menuT], rfl⟩, rfl⟩
  · exact ⟨_, ⟨1, 2, by simp [menuT], rfl⟩, rfl⟩
  · exact ⟨_, ⟨3, 1, by simp [menuT], rfl⟩, rfl⟩
  · exact ⟨_, ⟨0, 1, by simp [menuT], rfl⟩, rfl⟩
  · exact ⟨_, ⟨1, 1, by simp [menuT], rfl⟩, rfl⟩
  · exact ⟨_, ⟨-3, 2, by simp [menuT], rfl⟩, rfl⟩
theorem pick10 : ∀ d, (∃ r : Int, 0 ≤ r ∧ r < (10 : Nat) ∧ d = .int r) → ∃ x, (∃ n, n ∈ menuN ∧ x = .int n) ∧ didx (.list [.int 2, .int (-1), .int 3, .int (-2), .int 100000, .int 100001, .int (-100001), .int 1000000000000, .int (-1000000000000), .int 1]) d = some x := by
  rintro d ⟨r, h0, h1, rfl⟩
  have : r = 0 ∨ r = 1 ∨ r = 2 ∨ r = 3 ∨ r = 4 ∨ r = 5 ∨ r = 6 ∨ r = 7 ∨ r = 8 ∨ r = 9 := by omega
  rcases this with rfl | rfl | rfl | rfl | rfl | rfl | rfl | rfl | rfl | rfl <;> exact ⟨_, ⟨_, by simp [menuN], rfl⟩, rfl⟩
theorem pick3 : ∀ d, (∃ r : Int, 0 ≤ r ∧ r < (3 : Nat) ∧ d = .int r) → ∃ x, (∃ a, a ∈ menuA ∧ x = .int a) ∧ dbop .add (.int 1) d = some x := by
  rintro d ⟨r, h0, h1, rfl⟩
  have : r = 0 ∨ r = 1 ∨ r = 2 := by omega
  rcases this with rfl | rfl | rfl <;> exact ⟨_, ⟨_, by simp [menuA], rfl⟩, rfl⟩

theorem m7_run (P : Pg) (ρ : Rho) (o : OwnL) : run P 40 (.x ρ o ir_m7) = some (.v (.list [.tuple [.int 2, .int 1], .tuple [.int (-1), .int 1], .tuple [.int 1, .int 2], .tuple [.int 3, .int 1], .tuple [.int 0, .int 1], .tuple [.int 1, .int 1], .tuple [.int (-3), .int 2]])) := rfl
theorem m10_run (P : Pg) (ρ : Rho) (o : OwnL) : isV (run P 40 (.x ρ o ir_m10)) (.list [.int 2, .int (-1), .int 3, .int (-2), .int 100000, .int 100001, .int (-100001), .int 1000000000000, .int (-1000000000000), .int 1]) = true := rfl

set_option maxHeartbeats 4000000 in
theorem law_head {a : Addr} {vs : Array Value} {xs : List Int} {m0 : Str → Option Value} (W : Wd C (ftT PR) gdT fnT PH) (K : (hd.heap_1 PR).In C.h0) (Z : EnvF sc_law env) (R : Room A 300) (hL : s.heap.IsList a vs) (rL : RzL [] s.heap (xs.map .int) vs.toList) (hlen : xs.length ≤ 100)
    (F : Fm C sc_law env s₀ [] [] [] none s) (hn : s.heap.Ns env.locals m0) (hm : m0 "script" = some (.ref a)) (Q : Flow → Shared → Prop) (E : Value → Shared → Prop)
    (hq : ∀ t b ap n s', (t, b) ∈ menuT → ap ∈ menuA → n ∈ menuN → Fm C sc_law env s₀ [] [] [(2, .int t), (3, .int b), (5, .int n), (4, .int ap)] none s' → wpAny C.M A (execs ((bodyAt PR 276).drop 3) env) Q E s') :
    wpAny C.M A (execs (bodyAt PR 276) env) Q E s := by
  have R1 : Room A 40 := R.less (by omega)
  have R2 : Room A 20 := R.less (by omega)
  have hkS : env.kindOf "script" = some .local := (Z.kd _).trans lk_law_script
  have hkB : env.kindOf "box" = some .local := (Z.kd _).trans lk_law_box
  have hz : (xs.map PyData.int).length ≤ 5000 := by simp; omega
  refine wpAny_execs_cons (wpAny_mono (x_own (i := 1) (xs := [.list ((xs.map PyData.int).take (uptoN (xs.map PyData.int).length 8)), .int 0]) Z.toEnvZ F rfl hkB (gf_list F.st (by simp) (gl_cons ?_ (fun s1 _ => gl_cons gv_int (fun _ _ => gl_nil) rfl) rfl)) rfl E) (fun f s1 q => ?_) fun _ _ x => x)
  · refine gv_callB (b := .lst) (ds := [.list ((xs.map PyData.int).take (uptoN (xs.map PyData.int).length 8))]) Z.toEnvS F.st W.B R1 ?_ (W.N _ (by decide)) (by decide) rfl lk_law_list (by show (_ == _) = false; decide +kernel) (List.cons_ne_nil _ _) (fun e he => by rw [List.mem_singleton.mp he]; exact fun _ _ => rfl)
      (gl_cons (gv_upto0 hz F.st (fun E' => wpAny_Name (wpAny_loadName_local Z.fn hkS hn hm ⟨Ks.refl s, a, vs, rfl, hL, rL⟩) nd_script) (fun s' _ => gv_int) (fun _ _ => rfl)) (fun _ _ => gl_nil) rfl)
    unfold dbi
    dsimp only
    rw [if_pos (Nat.ble_eq_true_of_le (by rw [List.length_take]; omega))]
  obtain ⟨_, rfl, H1, F1, _⟩ := q
  obtain ⟨B, _, _, _, hH, _⟩ := F1.own.ex
  subst hH
  have hmt : (xs.map PyData.int).take (uptoN (xs.map PyData.int).length 8) = (xs.take (uptoN (xs.map PyData.int).length 8)).map PyData.int := by rw [List.map_take]
  rw [hmt] at F1
  have hl2 : (xs.take (uptoN (xs.map PyData.int).length 8)).length ≤ 100 := by rw [List.length_take]; omega
  generalize xs.take (uptoN (xs.map PyData.int).length 8) = ys at F1 hl2
  have F1' : Fm C sc_law env s₀ [] [B] [] (some (1, [.list (ys.map .int), .int ((0 : Nat) : Int)])) s1 := F1
  have tk0 : ∀ s' ρ, Fm C sc_law env s₀ [] [B] ρ (some (1, [.list (ys.map .int), .int ((0 : Nat) : Int)])) s' → ∀ p pos p1 p2 kk, Go C A sc_law env s₀ [] [B] ρ (eval (.Call (.Name "_law_take" p) [.Name "box" p1, .Constant (.int (7 : Nat)) kk p2] [] pos) env) (some (1, [.list (ys.map .int), .int ((1 : Nat) : Int)])) (fun d => ∃ r : Int, 0 ≤ r ∧ r < (7 : Nat) ∧ d = .int r) s' := fun s' ρ F' p pos p1 p2 kk =>
    go_take (r2 := 0) W K Z R2 F' hl2 (by omega) (by omega) rfl rfl (by omega) (by omega)
  have tk1 : ∀ s' ρ, Fm C sc_law env s₀ [] [B] ρ (some (1, [.list (ys.map .int), .int ((1 : Nat) : Int)])) s' → ∀ p pos p1 p2 kk, Go C A sc_law env s₀ [] [B] ρ (eval (.Call (.Name "_law_take" p) [.Name "box" p1, .Constant (.int (3 : Nat)) kk p2] [] pos) env) (some (1, [.list (ys.map .int), .int ((2 : Nat) : Int)])) (fun d => ∃ r : Int, 0 ≤ r ∧ r < (3 : Nat) ∧ d = .int r) s' := fun s' ρ F' p pos p1 p2 kk =>
    go_take (r2 := 2) W K Z R2 F' hl2 (by omega) (by omega) rfl rfl (by omega) (by omega)
  have tk2 : ∀ s' ρ, Fm C sc_law env s₀ [] [B] ρ (some (1, [.list (ys.map .int), .int ((2 : Nat) : Int)])) s' → ∀ p pos p1 p2 kk, Go C A sc_law env s₀ [] [B] ρ (eval (.Call (.Name "_law_take" p) [.Name "box" p1, .Constant (.int (10 : Nat)) kk p2] [] pos) env) (some (1, [.list (ys.map .int), .int ((3 : Nat) : Int)])) (fun d => ∃ r : Int, 0 ≤ r ∧ r < (10 : Nat) ∧ d = .int r) s' := fun s' ρ F' p pos p1 p2 kk =>
    go_take (r2 := 1) W K Z R2 F' hl2 (by omega) (by omega) rfl rfl (by omega) (by omega)
  refine wpAny_execs_cons (x_asgT_go (xs := [("top", _), ("bottom", _)]) (is := [2, 3]) (Pd := fun d => ∃ t b, (t, b) ∈ menuT ∧ d = .tuple [.int t, .int b]) R1 Z.toEnvZ (go_idx F1' ((sound W 40).x [] _ ir_m7 _ (m7_run PH [] _) sc_law _ (.lst (.cons (.tup (.cons (.int) (fun _ _ => rfl) (.cons (.int) (fun _ _ => rfl) (.nil)))) (fun _ _ => rfl) (.cons (.tup (.cons (.neg (.int)) (fun _ _ => rfl) (.cons (.int) (fun _ _ => rfl) (.nil)))) (fun _ _ => rfl) (.cons (.tup (.cons (.int) (fun _ _ => rfl) (.cons (.int) (fun _ _ => rfl) (.nil)))) (fun _ _ => rfl) (.cons (.tup (.cons (.int) (fun _ _ => rfl) (.cons (.int) (fun _ _ => rfl) (.nil)))) (fun _ _ => rfl) (.cons (.tup (.cons (.int) (fun _ _ => rfl) (.cons (.int) (fun _ _ => rfl) (.nil)))) (fun _ _ => rfl) (.cons (.tup (.cons (.int) (fun _ _ => rfl) (.cons (.int) (fun _ _ => rfl) (.nil)))) (fun _ _ => rfl) (.cons (.tup (.cons (.neg (.int)) (fun _ _ => rfl) (.cons (.int) (fun _ _ => rfl) (.nil)))) (fun _ _ => rfl) (.nil))))))))) A env [B] s1 R1 Z.toX (F1'.xm Z)) (fun s' F' => tk0 s' _ F' _ _ _ _ _) pick7 (fun _ _ _ => rfl)) rfl (fun d hd => by obtain ⟨t, b, _, rfl⟩ := hd; exact ⟨_, rfl, rfl⟩)
    (fun k i x e1 e2 => ?_) rfl rfl fun ds s2 hds F2 => ?_)
  · exact hx_of (o := some (1, [.list (ys.map .int), .int ((1 : Nat) : Int)])) (is := [2, 3]) (names := ["top", "bottom"]) Z rfl (by decide +kernel) (by rfl) k i x e1 e2
  obtain ⟨t, b, htb, hds⟩ := hds
  cases hds
  have F2' : Fm C sc_law env s₀ [] [B] [(2, .int t), (3, .int b)] (some (1, [.list (ys.map .int), .int ((1 : Nat) : Int)])) s2 := F2
  refine wpAny_execs_cons (x_asgS_go (names := ["apart", "n"]) (is := [4, 5]) (Pd := fun d => ∃ ap n, (∃ a, a ∈ menuA ∧ ap = .int a) ∧ (∃ x, x ∈ menuN ∧ n = .int x) ∧ d = .tuple [ap, n]) R1 Z.toEnvZ (go_tup2 (o1 := some (1, [.list (ys.map .int), .int ((2 : Nat) : Int)])) F2' (go_bin (op := .add) F2' gv_int (fun s' F' => tk1 s' _ F' _ _ _ _ _) pick3)
      (fun s' F' => go_idx F' ((sound W 40).x [(2, .int t), (3, .int b)] _ ir_m10 _ (isV_eq (m10_run PH _ _)) sc_law _ (.lst (.cons (.int) (fun _ _ => rfl) (.cons (.neg (.int)) (fun _ _ => rfl) (.cons (.int) (fun _ _ => rfl) (.cons (.neg (.int)) (fun _ _ => rfl) (.cons (.int) (fun _ _ => rfl) (.cons (.int) (fun _ _ => rfl) (.cons (.neg (.int)) (fun _ _ => rfl) (.cons (.bin (o := .pow) (.int) (.int)) (fun _ _ => rfl) (.cons (.neg (.bin (o := .pow) (.int) (.int))) (fun _ _ => rfl) (.cons (.int) (fun _ _ => rfl) (.nil)))))))))))) A env [B] s' R1 Z.toX (F'.xm Z)) (fun s3 F3 => tk2 s3 _ F3 _ _ _ _ _) pick10 (fun _ _ _ => rfl)) (fun _ _ => rfl) (fun _ _ => rfl)) rfl
    (fun d hd => by obtain ⟨_, _, _, _, rfl⟩ := hd; exact ⟨_, rfl, rfl⟩)
    (fun k i x e1 e2 => ?_) rfl (sw_of (blk_of Z) (fun x hx => (Z.kd x).trans ((by decide +kernel : ∀ x ∈ ([("apart" : Str), "n"] : List Str), sc_law.names.lookup x = some .local) x hx)) ⟨by decide +kernel, by decide +kernel, by decide +kernel, by decide +kernel, by decide +kernel, by decide +kernel⟩) fun ds s3 hds F3 => ?_)
  · exact hx_of (o := some (1, [.list (ys.map .int), .int ((3 : Nat) : Int)])) (is := [4, 5]) (names := ["apart", "n"]) Z rfl (by decide +kernel) (by rfl) k i x e1 e2
  obtain ⟨_, _, ⟨ap, hap, rfl⟩, ⟨n, hnn, rfl⟩, hds⟩ := hds
  cases hds
  have F3' : Fm C sc_law env s₀ [] [B] [(2, .int t), (3, .int b), (5, .int n), (4, .int ap)] (some (1, [.list (ys.map .int), .int ((3 : Nat) : Int)])) s3 := F3
  have F4 := F3'.freeze.del (i := 1)
  exact hq t b ap n s3 htb hap hnn F4
end
end Mine
namespace Mine
open PySem PySem.Spec PySem.Calls PyProof.Rows PySem.W

section
variable {C : Cx} {A : Around} {H H' H₀ : List Addr} {s s' s₀ : Shared} {env : Env} {z : Sc} {ρ : Rho} {o o' : OwnL} {PR : Params} {P : Pg} {gd : Str → Option D}

/-- all kept but the frame's own slots -/
structure KX (L : Addr) (s s' : Shared) : Prop where
  same : ∃ h tk, s' = { s with heap := h, toks := tk }
  keep : ∀ b ob, b ≠ L → s.heap.get? b = some ob → s'.heap.get? b = some ob
  slots : SlotsKept s.heap s'.heap
theorem KX.of {L : Addr} (k : Keeps s s') : KX L s s' := ⟨let ⟨h, tk, e, _⟩ := k; ⟨h, tk, e⟩, fun b ob _ e => Ks.heap k b ob e, SlotsKept.of_keeps (Ks.heap k)⟩
theorem KX.trans {L : Addr} {s'' : Shared} (a : KX L s s') (b : KX L s' s'') : KX L s s'' :=
  ⟨by obtain ⟨h1, t1, rfl⟩ := a.same; obtain ⟨h2, t2, rfl⟩ := b.same; exact ⟨h2, t2, rfl⟩, fun x ob h e => b.keep x ob h (a.keep x ob h e), a.slots.trans b.slots⟩

theorem Fm.kx (F : Fm C z env s₀ H₀ H ρ none s) (k : KX env.locals s s') : Fm C z env s₀ H₀ H ρ none s' ∧ Pres env H s s' := by
  have hLc : ∀ n c, env.cells.lookup n = some c → c ≠ env.locals := fun n c e q => by
    obtain ⟨m, oL, es, ep, e1, e2, _⟩ := F.ns
    obtain ⟨_, v, oc, e3, e4⟩ := F.cells n c e
    rw [q, e1] at e3; cases e3; rw [e2] at e4; cases e4
  have kp : Kp H s.heap s'.heap := fun b ob _ hsq e => k.keep b ob (fun q => by
    obtain ⟨m, oL, es, ep, e1, e2, _⟩ := F.ns
    rw [q, e1] at e; cases e
    obtain ⟨xs, n, q'⟩ := hsq
    rw [e2] at q'; cases q') e
  have live : ∀ b ob, s.heap.get? b = some ob → ∃ ob', s'.heap.get? b = some ob' := fun b ob e => by
    by_cases hb : b = env.locals
    · obtain ⟨m, oL, es, ep, e1, e2, _⟩ := F.ns
      obtain ⟨sl, e3⟩ := k.slots _ _ e1 (fun vs q => by rw [e2] at q; cases q)
      exact ⟨_, hb ▸ e3⟩
    · exact ⟨ob, k.keep b ob hb e⟩
  refine ⟨⟨?_, fun b ob e => k.keep b ob (fun q => by rw [q, F.fresh] at e; cases e) (F.keep b ob e), F.fresh, let ⟨m, q⟩ := F.ns; ⟨m, Ns.slots q k.slots⟩, fun n c e => ?_, F.apart, F.old0, ⟨fun b ob e => k.keep b ob (fun q => ?_) (F.st.old b ob e), F.st.hid, fun b hb => let ⟨ob, e⟩ := F.st.inn b hb; live b ob e⟩, fun j d e => ?_, F.own⟩, ⟨fun b ob h1 _ _ e => k.keep b ob h1 e, live⟩⟩
  · obtain ⟨h1, t1, rfl⟩ := F.same
    obtain ⟨h2, t2, rfl⟩ := k.same
    exact ⟨h2, t2, rfl⟩
  · obtain ⟨q, v, oc, e1, e2⟩ := F.cells n c e
    exact ⟨q, v, oc, k.keep c oc (hLc n c e) e1, e2⟩
  · have := F.old0 b ob e
    rw [q, F.fresh] at this; cases this
  · obtain ⟨y, u, a1, a2, ru⟩ := F.rho j d e
    refine ⟨y, u, a1, ?_, Rz.kp kp _ ru⟩
    rcases a2 with ⟨ky, my, hmy, hv⟩ | ⟨ky, c, hc, oc, e1, e2⟩
    · exact .inl ⟨ky, my, Ns.slots hmy k.slots, hv⟩
    · exact .inr ⟨ky, c, hc, oc, k.keep c oc (hLc _ c hc) e1, e2⟩

/-- a value's tree, all kept but the frame's slots -/
noncomputable def Gx (C : Cx) (A : Around) (L : Addr) (H : List Addr) (t : Sem Value) (d : D) (s : Shared) : Prop := ∀ E, wpAny C.M A t (fun v s' => KX L s s' ∧ Rz H s'.heap d v) E s
theorem Gx.of {L : Addr} {t : Sem Value} {d : D} (g : Gv C A H t d s) : Gx C A L H t d s := fun E => g.use fun v s' k r => ⟨KX.of k, r⟩
theorem Gx.use {L : Addr} {t : Sem Value} {d : D} {Q : Value → Shared → Prop} {E : Value → Shared → Prop} (g : Gx C A L H t d s) (h : ∀ v s', KX L s s' → Rz H s'.heap d v → Q v s') : wpAny C.M A t Q E s :=
  wpAny_mono (g E) (fun v s' q => h v s' q.1 q.2) fun _ _ x => x

/-- what _law_told gives: by a run that ends, or by one that raises -/
noncomputable def Told (C : Cx) (PR : Params) (n : Nat) (t d : D) : Prop := CallOk C (ftT PR) n 30 [t, .str "x"] d ∨ ∃ kd, d = .str kd ∧ CallX C (ftT PR) n 30 [t, .str "x"] kd

theorem gx_told {n : Nat} {t d : D} {env1 : Env} {z1 : Sc} {p pos : Pos} {e : Expr} {L : Addr} {fr : Env} (W : Wd C (ftT PR) gd fnT P) (K : (hd.heap_1 PR).In C.h0) (hcf : C.mg "CasFail" = some (.ref 31)) (T : Told C PR n t d)
    (Z : EnvS z1 env1) (hx : z1.names.lookup ("_law_told" : Str) = some .globalImplicit) (R : Room A (n + 2)) (S : St C H s) (hfr : A.frames = some [fr]) (hfL : fr.frame = some L) (hfk : fr.scope.kind ≠ .module) (hL : ∃ oL, s.heap.get? L = some oL ∧ ∀ vs, oL.data ≠ .fields vs) (hL0 : C.h0.get? L = none)
    (g : Gv C A H (eval e env1) t s) (hst : NotStar e) : Gx C A L H (eval (.Call (.Name "_law_told" p) [e] [] pos) env1) d s := fun E => by
  have hv : C.mg "_law_told" = some (.ref 271) := mg_of K W.B.g (by rfl)
  obtain ⟨oF, hoF⟩ : ∃ oF, (hd.heap_1 PR).lookup 271 = some oF := ⟨_, rfl⟩
  rw [call_arm]
  refine wpAny_bind (name_glob Z S W.B.g hx hv nd_told ?_)
  refine callWith_function (o := oF) (fd := fdAt PR 271) (args_of (List.cons_ne_nil _ _) (fun e' he => by rw [List.mem_singleton.mp he]; exact hst) (gl_cons g (fun _ _ => gl_nil) (hst env1 [])) fun vs s1 k1 r1 => ?_)
  obtain ⟨v, rfl, rv⟩ := rz1 r1
  have S1 := S.keeps k1
  refine ⟨⟨K.keeps S1.old 271 _ hoF, by cases hoF; rfl⟩, ?_⟩
  rcases T with T | ⟨kd, rfl, T⟩
  · exact (told_ok W K T A H s1 v R S1 rv).use fun v s2 k2 r2 => ⟨KX.of (Ks.trans k1 k2), r2⟩
  · obtain ⟨oL, hoL, hnf⟩ := hL
    have hoL1 := Ks.heap k1 _ _ hoL
    refine told_x W K hcf T A H s1 v (erase s1.heap L) [fr] R S1 rv hfr (fun b ob e => erase_of (fun q => by rw [q, hL0] at e; cases e) (S1.old b ob e)) (fun b ob e => erase_sub e) ⟨hfk, ⟨L, oL, hfL, erase_self _ _, hoL1, hnf⟩, trivial⟩ _ E fun s2 u hs2 hst2 sk2 => ?_
    exact ⟨(KX.of k1).trans ⟨hs2, fun b ob hb e => hst2 b ob (erase_of hb e), sk2⟩, u, rfl⟩

theorem gx_cmp {op : Cop} {l r : Expr} {pos : Pos} {a b : D} {c : Bool} {n : Nat} {L : Addr} (R : Room A n) (h : dcmp op a b = some c) (hl : Gx C A L H (eval l env) a s) (hr : ∀ s', KX L s s' → Gv C A H (eval r env) b s') (hm : behindInMarks op.py r = false) :
    Gx C A L H (eval (.Compare l [op.py] [r] pos) env) (.bool c) s := fun E =>
  wpAny_Compare1 (hl.use fun v s1 k1 r1 => (hr s1 k1).use fun u s2 k2 r2 => (g_cmp R h (r1.keeps (Ks.heap k2)) r2).use fun x s3 k3 r3 => ⟨(k1.trans (KX.of k2)).trans (KX.of k3), r3⟩) hm
theorem gbx_cmp {op : Cop} {l r : Expr} {pos : Pos} {whole : Sem Value} {a b : D} {c : Bool} {n : Nat} {L : Addr} {E : Value → Shared → Prop} (R : Room A n) (h : dcmp op a b = some c) (hl : Gx C A L H (eval l env) a s) (hr : ∀ s', KX L s s' → Gv C A H (eval r env) b s') (hm : behindInMarks op.py r = false) :
    wpAny C.M A (isTrue (.Compare l [op.py] [r] pos) env whole) (fun t s' => t = c ∧ KX L s s') E s :=
  wpAny_isTrue_Compare1 (hl.use fun v s1 k1 r1 => (hr s1 k1).use fun u s2 k2 r2 => (g_cmp R h (r1.keeps (Ks.heap k2)) r2).use fun x s3 k3 r3 => by
    have e : x = .bool c := r3
    subst e
    exact wpAny_truthy_bool ⟨rfl, (k1.trans (KX.of k2)).trans (KX.of k3)⟩) hm
end
end Mine
namespace Mine
open PySem PySem.Spec PySem.Calls PyProof.Rows PySem.W

section
variable {C : Cx} {A : Around} {H : List Addr} {s : Shared} {env : Env}

/-- the frame's own object, up to its slots -/
noncomputable def AtL (oL : Obj) (L : Addr) (h : Heap) : Prop := ∃ sl, h.get? L = some { oL with slots := sl }

theorem comp_loopX {R : Result → Shared → Prop} {elt iter : Expr} {x : Str} {px : Pos} {scope : Scope} {pos : Pos} {I D L : Addr} {oL : Obj} {fp wr : List Addr} {n : Nat} {P : Nat → Value → Prop} {Q : Nat → Heap → Prop}
    {cenv : Env} {m : Str → Option Value} (W : Walks C.prog C.w A I fp wr n P Q) (ds : List PyData) (hn : n = ds.length) (hsz : n ≤ 5000)
    (hx : cenv.kindOf x = some .local) (hp : (cenv.scope.kind == .class || (cenv.scope.kind == .module && cenv.locals != cenv.globals)) = false)
    (hDC : D ≠ cenv.locals) (hDf : D ∉ fp) (hCf : cenv.locals ∉ fp) (hLf : L ∉ fp) (hLC : L ≠ cenv.locals) (hLD : L ≠ D) (hdict : ∃ es ep, oL.data = .dict es ep) (hL : AtL oL L s.heap)
    (hwr : ∀ i h, Q i h → ∀ b ∈ wr, ∀ o xs k, h.get? b = some o → o.data ≠ .seq xs k)
    (hst : Q 0 s.heap) (hacc : s.heap.PlainList D #[]) (hns : s.heap.Ns cenv.locals m)
    (helt : ∀ i v s₂ m₂ d, P i v → ds[i]? = some d → s₂.heap.Ns cenv.locals m₂ → m₂ x = some v → (∀ b o, b ≠ cenv.locals → b ∉ wr → b ≠ D → b ≠ L → s.heap.get? b = some o → s₂.heap.get? b = some o) → (∃ o, s₂.heap.get? D = some o) → AtL oL L s₂.heap →
      Gx C A L (D :: H) (eval elt cenv) d s₂)
    (hR : ∀ h' tk m' ys, h'.Ns cenv.locals m' → h'.PlainList D ys → RzL (D :: H) h' ds ys.toList →
      (∀ b o, b ≠ cenv.locals → b ∉ wr → b ≠ D → b ≠ L → s.heap.get? b = some o → h'.get? b = some o) → AtL oL L h' → R (.ok .next) { s with heap := h', toks := tk }) :
    codeAny C.M A (.compLoop (.ListComp elt [⟨.Name x px, iter, [], 0⟩] scope pos) 0 (.ref I) (.ref D) cenv) R s := by
  have hLw : L ∉ wr := fun h => hLf (W.sub _ h)
  refine codeAny_compLoop_tests
    (fun k s' => ∃ h' tk m' ys j, s' = { s with heap := h', toks := tk } ∧ Q j h' ∧ h'.PlainList D ys ∧ h'.Ns cenv.locals m' ∧ RzL (D :: H) h' (ds.take j) ys.toList ∧ j ≤ n ∧ k = n + 1 - j ∧
      (∀ b o, b ≠ cenv.locals → b ∉ wr → b ≠ D → b ≠ L → s.heap.get? b = some o → h'.get? b = some o) ∧ AtL oL L h') ?_ (n + 1)
    ⟨s.heap, s.toks, m, #[], 0, rfl, hst, hacc, hns, by simp [RzL], Nat.zero_le _, rfl, fun _ _ _ _ _ _ e => e, hL⟩
  rintro k s' ⟨G, tk, m', ys, j, rfl, hst', hacc', hn', hF, hi, rfl, hk, hLG⟩
  have hCw : cenv.locals ∉ wr := fun h => hCf (W.sub _ h)
  have hDw : D ∉ wr := fun h => hDf (W.sub _ h)
  have hys := RzL.len hF
  by_cases hlt : j < n
  · refine W.item j _ _ _ hlt hst' fun v h₁ tk₁ hPv hst₁ hk₁ => ?_
    refine wpAny_assign_Name (wpAny_storeName_local hx (hn'.at' fun o e => hk₁ _ o hCw e) (fun h₂ hn₂ hs₂ => ?_) hp)
    have up₂ : ∀ b o, b ≠ cenv.locals → b ∉ wr → G.get? b = some o → h₂.get? b = some o := fun b o hbC hbf e => hs₂.extBut b o hbC (hk₁ b o hbf e)
    have hL₂ : AtL oL L h₂ := let ⟨sl, e⟩ := hLG; ⟨sl, up₂ L _ hLC hLw e⟩
    have hst₂ : Q (j + 1) h₂ := W.frame _ _ _ hst₁ fun b hb o e => hs₂.extBut b o (fun h => hCf (h ▸ hb)) e
    have hacc₂ : h₂.PlainList D ys := hacc'.at fun o e => up₂ D o hDC hDw e
    have hlt' : j < ds.length := by omega
    have kp₂ : Kp (D :: H) G h₂ := fun b o hbH hsq e => by
      have hbw : b ∉ wr := fun hm => by
        obtain ⟨xs, k, q⟩ := hsq
        exact hwr _ _ hst' b hm o xs k e q
      have hbC : b ≠ cenv.locals := fun hb => by
        obtain ⟨oL, es, ep, hL, hd, _⟩ := hn'
        rw [hb, hL] at e
        cases e
        obtain ⟨xs, k, q⟩ := hsq
        rw [hd] at q; cases q
      exact up₂ b o hbC hbw e
    refine wpAny_tests_nil ?_
    rw [if_pos rfl]
    refine (helt j v _ _ ds[j] hPv (by simp [hlt']) hn₂ (by simp) (fun b o hbC hbf hbD hbL e => up₂ b o hbC hbf (hk b o hbC hbf hbD hbL e)) (let ⟨o, ho⟩ := hacc₂; ⟨_, ho⟩) hL₂).use fun y s₄ k₄ r₄ => ?_
    obtain ⟨⟨h₄, tk₄, rfl⟩, hk₄, sk₄⟩ := k₄
    have hLnf : ∀ sl vs, ({ oL with slots := sl } : Obj).data ≠ .fields vs := fun sl vs q => by
      obtain ⟨es, ep, hd⟩ := hdict
      have : oL.data = .fields vs := q
      rw [hd] at this; cases this
    have hL₄ : AtL oL L h₄ := by
      obtain ⟨sl, e⟩ := hL₂
      obtain ⟨sl', e'⟩ := sk₄ L _ e (hLnf sl)
      exact ⟨sl', e'⟩
    have kp₄ : Kp (D :: H) h₂ h₄ := fun b o _ hsq e => hk₄ b o (fun q => by
      obtain ⟨sl, e2⟩ := hL₂
      have e' : h₂.get? b = some o := e
      rw [q, e2] at e'
      cases e'
      obtain ⟨xs, k, q'⟩ := hsq
      obtain ⟨es, ep, hd⟩ := hdict
      have : oL.data = .seq xs k := q'
      rw [hd] at this; cases this) e
    have hysz : ys.size ≤ sizeLine := by
      have e1 : ys.toList.length = ys.size := by simp
      rw [size_line, ← e1, hys, List.length_take]
      omega
    refine wpAny_list_append_plain (hsz := hysz) (hacc₂.at fun o e => hk₄ _ o (Ne.symm hLD) e) fun h₅ hl₅ hs₅ => ?_
    refine ⟨n + 1 - (j + 1), by omega, h₅, tk₄, _, ys.push y, j + 1, rfl, ?_, hl₅, (hn₂.at' fun o e => hk₄ _ o (Ne.symm hLC) e).sameBut hs₅ (Ne.symm hDC), ?_, hlt, rfl, fun b o hbC hbf hbD hbL e => hs₅.extBut b o hbD (hk₄ b o hbL (up₂ b o hbC hbf (hk b o hbC hbf hbD hbL e))), ?_⟩
    · exact W.frame _ _ h₅ hst₂ fun b hb o e => hs₅.extBut b o (fun h => hDf (h ▸ hb)) (hk₄ b o (fun h => hLf (h ▸ hb)) e)
    · have kp₅ : Kp (D :: H) h₄ h₅ := fun b o hbH _ e => hs₅.extBut b o (fun q => hbH (q ▸ .head _)) e
      have a1 := RzL.kp kp₅ _ (RzL.kp kp₄ _ (RzL.kp kp₂ _ hF))
      have a2 := Rz.kp kp₅ _ r₄
      have a4 : RzL (D :: H) h₅ [ds[j]] [y] := ⟨y, [], rfl, a2, rfl⟩
      have a3 := RzL.app a1 a4
      rw [List.take_succ_eq_append_getElem hlt', Array.toList_push]
      exact a3
    · obtain ⟨sl, e⟩ := hL₄
      exact ⟨sl, hs₅.extBut L _ hLD e⟩
  · have hin : j = n := by omega
    refine W.done _ _ _ (hin ▸ hst') fun h₁ tk₁ hk₁ => ?_
    refine hR h₁ tk₁ m' ys (hn'.at' fun o e => hk₁ _ o hCw e) (hacc'.at fun o e => hk₁ _ o hDw e) ?_ (fun b o hbC hbf hbD hbL e => hk₁ b o hbf (hk b o hbC hbf hbD hbL e)) (let ⟨sl, e⟩ := hLG; ⟨sl, hk₁ L _ hLw e⟩)
    rw [List.take_of_length_le (by omega)] at hF
    refine RzL.kp (fun b o hbH hsq e => ?_) _ hF
    refine hk₁ b o (fun hm => ?_) e
    obtain ⟨xs, k, q⟩ := hsq
    exact hwr _ _ hst' b hm o xs k e q

theorem gx_comp {elt iter : Expr} {x : Str} {px : Pos} {scope : Scope} {cl : List (Str × Addr)} {pos : Pos} {ds : List PyData} {L : Addr} {oL : Obj} (S : St C H s)
    (hclos : closureFor scope env = pure cl) (hcell : ∀ y ∈ scope.names, y.2 ≠ .cell) (hkind : scope.kind = .function)
    (hnames : ∀ y ∈ scope.names, y.2 = .local → scope.names.lookup y.1 = some .local) (hx : scope.names.lookup x = some .local)
    (hs : ∀ x, foldedSetIterable iter env x = pure x) (hsz : ds.length ≤ 5000) (hoL : s.heap.get? L = some oL) (hdict : ∃ es ep, oL.data = .dict es ep)
    (h : ∀ E (Q' : Value → Shared → Prop), (∀ s₂ I fp wr n P Q, Keeps s s₂ → Walks C.prog C.w A I fp wr n P Q → n = ds.length → Q 0 s₂.heap → (∀ b ∈ fp, b < s₂.heap.objs.size) → (∀ b ∈ wr, s.heap.get? b = none) → L ∉ fp →
        (∀ i h, Q i h → ∀ b ∈ wr, ∀ o xs k, h.get? b = some o → o.data ≠ .seq xs k) →
        (∀ F D i v s₃ m₃ d, s₂.heap.objs.size ≤ F → s₂.heap.get? D = none → (∃ o, s₃.heap.get? D = some o) → P i v → ds[i]? = some d → s₃.heap.Ns F m₃ → m₃ x = some v → (∀ b o, b ∉ wr → b ≠ L → s₂.heap.get? b = some o → s₃.heap.get? b = some o) → AtL oL L s₃.heap →
          Gx C A L (D :: H) (eval elt (compEnvC scope cl F env)) d s₃) → Q' (.ref I) s₂) →
      wpAny C.M A (eval iter env) (fun xv s₁ => wpAny C.M A (pyIter xv) Q' E s₁) E s) :
    ∀ E, wpAny C.M A (eval (.ListComp elt [⟨.Name x px, iter, [], 0⟩] scope pos) env) (fun v s' => (∃ h tk, s' = { s with heap := h, toks := tk }) ∧ (∀ b o, b ≠ L → s.heap.get? b = some o → s'.heap.get? b = some o) ∧ Rz H s'.heap (.list ds) v) E s := fun E => by
  rw [eval_ListComp]
  refine wpAny_comprehension_free (use := none) rfl hs hclos hkind hnames (h E _ ?_)
  intro s₂ I fp wr n P Q ks W hn hst hfp hold hLfp hwr hq
  refine wpAny_newObj_type (wpAny_newFunctionEnv hcell (by intro y hy; simp at hy) (fun h₁ hns₁ hsb₁ => ?_) hkind)
  dsimp only at hns₁ hsb₁ ⊢
  generalize hH2 : s₂.heap.push { cls := .type "list", dict := none, data := .seq ([] : List Value).toArray } = H2 at hns₁ hsb₁ ⊢
  have hC : H2.objs.size = s₂.heap.objs.size + 1 := by rw [← hH2, Heap.size_push]
  have hDC : s₂.heap.objs.size ≠ H2.objs.size := by rw [hC]; exact Nat.ne_of_lt (Nat.lt_succ_self _)
  have hCle : s₂.heap.objs.size ≤ H2.objs.size := by rw [hC]; exact Nat.le_succ _
  have below : ∀ b, b < s₂.heap.objs.size → b ≠ H2.objs.size ∧ b ≠ s₂.heap.objs.size := fun b hb => ⟨by rw [hC]; exact Nat.ne_of_lt (Nat.lt_succ_of_lt hb), Nat.ne_of_lt hb⟩
  have hDf : s₂.heap.objs.size ∉ fp := fun hm => Nat.lt_irrefl _ (hfp _ hm)
  have hCf : H2.objs.size ∉ fp := fun hm => by have := hfp _ hm; rw [hC] at this; exact Nat.lt_irrefl _ (Nat.lt_of_succ_lt this)
  have old : ∀ b o, s₂.heap.get? b = some o → h₁.get? b = some o := fun b o e => hsb₁.extBut b o (below b (Heap.lt_size e)).1 (Heap.get?_push_of_some _ (hH2 ▸ Heap.get?_push_of_some _ e))
  have hacc : h₁.PlainList s₂.heap.objs.size #[] := ⟨_, hsb₁.extBut _ _ hDC (Heap.get?_push_of_some _ (hH2 ▸ Heap.get?_push_size _ rfl))⟩
  have hst₁ : Q 0 h₁ := W.frame _ _ _ hst fun b _ o e => old b o e
  have fresh : ∀ a, s₂.heap.objs.size ≤ a → s₂.heap.get? a = none := fun a ha => by
    cases e : s₂.heap.get? a with
    | none => rfl
    | some o' => exact absurd (Heap.lt_size e) (Nat.not_lt.mpr ha)
  have S₂ := S.keeps ks
  have hoL2 := Ks.heap ks _ _ hoL
  have hLlt := Heap.lt_size hoL2
  have loop : ∀ s₃ : Shared, s₃ = { s₂ with heap := h₁, toks := s₂.toks + ([] : List (Str × Value)).length } →
      codeAny C.M A (.compLoop (.ListComp elt [⟨.Name x px, iter, [], 0⟩] scope pos) 0 (.ref I) (.ref s₂.heap.objs.size) (compEnvC scope cl H2.objs.size env))
        (compPost C.M A E none (fun v s' => (∃ h tk, s' = { s with heap := h, toks := tk }) ∧ (∀ b o, b ≠ L → s.heap.get? b = some o → s'.heap.get? b = some o) ∧ Rz H s'.heap (.list ds) v) (.ref s₂.heap.objs.size) H2.objs.size) s₃ := by
   rintro s₃ rfl
   refine comp_loopX (H := H) (L := L) (oL := oL) (cenv := compEnvC scope cl H2.objs.size env) W ds hn (by omega) (lookup_relabel_local hx) (by simp [compEnvC, relabel, hkind]) hDC hDf hCf hLfp (below L hLlt).1 (below L hLlt).2 hdict ⟨oL.slots, old _ _ hoL2⟩ hwr hst₁ hacc hns₁
     (fun i v s₃ m₃ d hv hd hn₃ hm hk ho hLL => hq _ _ i v s₃ m₃ d hCle (fresh _ (Nat.le_refl _)) ho hv hd hn₃ hm (fun b o hbf hbL e => hk b o (below b (Heap.lt_size e)).1 hbf (below b (Heap.lt_size e)).2 hbL (old b o e)) hLL) ?_
   intro h' tk m' ys hns' hpl hr hk _
   refine ⟨m', hns', fun h'' hs'' => ?_⟩
   obtain ⟨g, tk₂, rfl, kk⟩ := ks
   have kept : ∀ b o, b ≠ L → s.heap.get? b = some o → h''.get? b = some o := fun b o hbL e => by
     have e₂ := kk b o e
     have hb := below b (Heap.lt_size e₂)
     have hbw : b ∉ wr := fun hm => by rw [hold b hm] at e; cases e
     exact hs''.extBut b o hb.1 (hk b o hb.1 hbw hb.2 hbL (old b o e₂))
   refine ⟨⟨h'', _, rfl⟩, kept, ?_⟩
   have kp : Kp (g.objs.size :: H) h' h'' := fun b o _ hsq e => by
     refine hs''.extBut b o (fun hb => ?_) e
     obtain ⟨oL, es, ep, hL, hd, _⟩ := hns'
     rw [hb] at e
     have hL' : h'.get? H2.objs.size = some oL := hL
     rw [e] at hL'
     cases hL'
     obtain ⟨xs, k, q⟩ := hsq
     rw [hd] at q; cases q
   refine ⟨_, ys, rfl, S₂.size, hpl.extBut hs''.extBut hDC, ?_⟩
   exact RzL.off (fun a o _ hn hm => hn (.tail _ hm)) _ (RzL.kp kp _ hr)
  exact codeAny_compStart_list (loop _ rfl) (W.self 0 _ _ _ hst₁ (loop _ rfl))

theorem gx_comp_tuple {elt iter : Expr} {x : Str} {px : Pos} {scope : Scope} {cl : List (Str × Addr)} {pos : Pos} {ls ds : List PyData} {n : Nat} {L : Addr} {oL : Obj} (S : St C H s) (R : Room A n) (K : CompS env scope cl x iter)
    (hlen : ls.length = ds.length) (hsz : ds.length ≤ 5000) (ha : Gv C A H (eval iter env) (.tuple ls) s) (hoL : s.heap.get? L = some oL) (hdict : ∃ es ep, oL.data = .dict es ep)
    (he : ∀ (i : Nat) (di d : PyData), ls[i]? = some di → ds[i]? = some d → ∀ (F D : Addr) (s₃ : Shared) (m₃ : Str → Option Value) (v : Value), s.heap.get? D = none → (∃ o, s₃.heap.get? D = some o) → (∀ b o, b ≠ L → s.heap.get? b = some o → s₃.heap.get? b = some o) → AtL oL L s₃.heap →
      Rz (D :: H) s₃.heap di v → s₃.heap.Ns F m₃ → m₃ x = some v → Gx C A L (D :: H) (eval elt (compEnvC scope cl F env)) d s₃) :
    ∀ E, wpAny C.M A (eval (.ListComp elt [⟨.Name x px, iter, [], 0⟩] scope pos) env) (fun v s' => (∃ h tk, s' = { s with heap := h, toks := tk }) ∧ (∀ b o, b ≠ L → s.heap.get? b = some o → s'.heap.get? b = some o) ∧ Rz H s'.heap (.list ds) v) E s := by
  refine gx_comp S K.clos K.cell K.kind K.names K.x K.it hsz hoL hdict fun E Q' k => ha.use fun xv s₁ k₁ r₁ => ?_
  obtain ⟨l, vs, rfl, _, hl, hr⟩ := r₁
  have len := RzL.len hr
  have hsz' : vs.toList.length = vs.size := by simp
  have hlt : l < s₁.heap.objs.size := by obtain ⟨_, e, _⟩ := hl; exact Heap.lt_size e
  have hoL1 := Ks.heap k₁ _ _ hoL
  have hLlt := Heap.lt_size hoL1
  have hLl : L ≠ l := fun q => by
    obtain ⟨o, e, _, n, e2⟩ := hl
    rw [← q, hoL1] at e; cases e
    obtain ⟨es, ep, e3⟩ := hdict
    rw [e2] at e3; cases e3
  refine wpAny_pyIter_tuple hl ?_
  refine k _ s₁.heap.objs.size [s₁.heap.objs.size, l] [s₁.heap.objs.size] vs.size _ _ (Ks.trans k₁ (Ks.push s₁ _ _)) (Walks.tuple R.h _ l (Nat.ne_of_lt hlt) vs) (by omega) ⟨⟨_, Heap.get?_push_size _ rfl, rfl, rfl⟩, hl.push _⟩ ?_ ?_ ?_ ?_ ?_
  · intro b hb
    show b < (s₁.heap.push _).objs.size
    rw [Heap.size_push]
    rcases List.mem_cons.mp hb with rfl | hb
    · exact Nat.lt_succ_self _
    · rcases List.mem_cons.mp hb with rfl | hb
      · exact Nat.lt_succ_of_lt hlt
      · cases hb
  · intro b hb
    rcases List.mem_cons.mp hb with rfl | hb
    · cases e : s.heap.get? s₁.heap.objs.size with
      | none => rfl
      | some o => exact absurd (Heap.lt_size (Ks.heap k₁ _ _ e)) (Nat.lt_irrefl _)
    · cases hb
  · intro hb
    rcases List.mem_cons.mp hb with q | hb
    · rw [q] at hLlt; exact Nat.lt_irrefl _ hLlt
    · rcases List.mem_cons.mp hb with q | hb
      · exact hLl q
      · cases hb
  · intro i h hq b hb o xs j e
    rcases List.mem_cons.mp hb with rfl | hb
    · obtain ⟨⟨o', ho', _, hd'⟩, _⟩ := hq
      rw [ho'] at e; cases e
      rw [hd']; intro q; cases q
    · cases hb
  · intro F D i v s₃ m₃ d hF hD ho hP hd hns hm hk hLL
    have hi : i < ls.length := by
      have := (List.getElem?_eq_some_iff.mp hd).1
      omega
    obtain ⟨v', hv', rv⟩ := Rz.get hr (List.getElem?_eq_getElem hi)
    rw [hP] at hv'; cases hv'
    have k2 : ∀ b o, b ≠ L → s.heap.get? b = some o → s₃.heap.get? b = some o := fun b o hbL e => by
      have e1 := Ks.heap k₁ b o e
      refine hk b o (fun hm => ?_) hbL (Heap.get?_push_of_some _ e1)
      rcases List.mem_cons.mp hm with rfl | hm
      · exact absurd (Heap.lt_size e1) (Nat.lt_irrefl _)
      · cases hm
    have hDs : s.heap.get? D = none := by
      cases e : s.heap.get? D with
      | none => rfl
      | some o => rw [Heap.get?_push_of_some _ (Ks.heap k₁ D o e)] at hD; cases hD
    refine he i _ d (List.getElem?_eq_getElem hi) hd F D s₃ m₃ v hDs ho k2 hLL ?_ hns hm
    have rv1 := rv.keeps fun b o e => Heap.get?_push_of_some (h := s₁.heap) { cls := .type "tuple_iterator", data := .fields #[.ref l, .int 0 0] } e
    refine Rz.kp (fun b o _ hsq e => hk b o (fun hm => ?_) (fun q => ?_) e) _ (Rz.off (fun a o e hn hm => ?_) _ rv1)
    · obtain ⟨xs, n, q⟩ := hsq
      rcases List.mem_cons.mp hm with rfl | hm
      · have e' : (s₁.heap.push { cls := .type "tuple_iterator", data := .fields #[.ref l, .int 0 0] }).get? s₁.heap.objs.size = some o := e
        rw [Heap.get?_push_size _ rfl] at e'
        cases e'; cases q
      · cases hm
    · obtain ⟨xs, n, q'⟩ := hsq
      obtain ⟨es, ep, hd'⟩ := hdict
      have e' : (s₁.heap.push { cls := .type "tuple_iterator", data := .fields #[.ref l, .int 0 0] }).get? b = some o := e
      rw [q, Heap.get?_push_of_some _ hoL1] at e'
      cases e'
      rw [hd'] at q'; cases q'
    · rcases List.mem_cons.mp hm with rfl | hm
      · have hD' : (s₁.heap.push { cls := .type "tuple_iterator", data := .fields #[.ref l, .int 0 0] }).get? a = none := hD
        rw [hD'] at e; cases e
      · exact hn hm
end
end Mine
namespace Mine
open PySem PySem.Spec PySem.Calls PyProof.Rows

/-! ## The 210 cases -/
noncomputable def powD (d : D) (n : Int) : D := .tuple [.str "pow", d, numD n 1]
noncomputable def toldD (t : D) : Option D := match vOf (run PH 250 (.c 30 [t, .str "x"])) with
  | some d => some d
  | none => match runX PH 250 (.c 30 [t, .str "x"]) with
    | some kd => some (.str kd)
    | none => none
noncomputable def chk (o : Option D) (d : D) : Bool := match o with | some x => deqB x d | none => false
noncomputable def rho5 (t b ap n : Int) : Rho := [(2, .int t), (3, .int b), (5, .int n), (4, .int ap), (6, lineD ap)]
noncomputable def endsQ (out : Out) : Bool := match out.2.1, out.2.2 with | none, none => true | _, _ => false
noncomputable def dueQ (due : Option D) (t : D) : Bool := match due with
  | some due => match toldD t with
    | some d => match dcmp .ne d due with | some false => true | _ => false
    | none => false
  | none => false
noncomputable def caseOk (t b ap n : Int) : Bool := match oOf (run PH 100 (.s (rho5 t b ap n) none ir_mid)) with
  | some out => endsQ out && chk (out.1.get 9) (hiddenD t b ap) && chk (out.1.get 5) (.int n) && chk (out.1.get 6) (lineD ap) && dueQ (out.1.get 12) (powD (hiddenD t b ap) n)
  | none => false
noncomputable def limD (t : D) : Bool := match toldD t with | some d => deqB d (.str "limit") | none => false
noncomputable def farOk (ap : Int) : Bool := limD (powD (lineD ap) 2001) && limD (powD (lineD ap) (-2001)) && limD (powD (lineD ap) 1000000000000)

theorem c_0_1 : menuN.all (caseOk (2) 1 1) = true := by decide +kernel
theorem c_0_2 : menuN.all (caseOk (2) 1 2) = true := by decide +kernel
theorem c_0_3 : menuN.all (caseOk (2) 1 3) = true := by decide +kernel
theorem c_1_1 : menuN.all (caseOk (-1) 1 1) = true := by decide +kernel
theorem c_1_2 : menuN.all (caseOk (-1) 1 2) = true := by decide +kernel
theorem c_1_3 : menuN.all (caseOk (-1) 1 3) = true := by decide +kernel
theorem c_2_1 : menuN.all (caseOk (1) 2 1) = true := by decide +kernel
theorem c_2_2 : menuN.all (caseOk (1) 2 2) = true := by decide +kernel
theorem c_2_3 : menuN.all (caseOk (1) 2 3) = true := by decide +kernel
theorem c_3_1 : menuN.all (caseOk (3) 1 1) = true := by decide +kernel
theorem c_3_2 : menuN.all (caseOk (3) 1 2) = true := by decide +kernel
theorem c_3_3 : menuN.all (caseOk (3) 1 3) = true := by decide +kernel
theorem c_4_1 : menuN.all (caseOk (0) 1 1) = true := by decide +kernel
theorem c_4_2 : menuN.all (caseOk (0) 1 2) = true := by decide +kernel
theorem c_4_3 : menuN.all (caseOk (0) 1 3) = true := by decide +kernel
theorem c_5_1 : menuN.all (caseOk (1) 1 1) = true := by decide +kernel
theorem c_5_2 : menuN.all (caseOk (1) 1 2) = true := by decide +kernel
theorem c_5_3 : menuN.all (caseOk (1) 1 3) = true := by decide +kernel
theorem c_6_1 : menuN.all (caseOk (-3) 2 1) = true := by decide +kernel
theorem c_6_2 : menuN.all (caseOk (-3) 2 2) = true := by decide +kernel
theorem c_6_3 : menuN.all (caseOk (-3) 2 3) = true := by decide +kernel
theorem far_1 : farOk 1 = true := by decide +kernel
theorem far_2 : farOk 2 = true := by decide +kernel
theorem far_3 : farOk 3 = true := by decide +kernel
end Mine
namespace Mine
open PySem PySem.Spec PySem.Calls PyProof.Rows PySem.W

theorem case_all {t b a n : Int} (h : (t, b) ∈ menuT) (ha : a ∈ menuA) (hn : n ∈ menuN) : caseOk t b a n = true := by
  rcases List.mem_cons.mp h with e | h
  · cases e
    rcases List.mem_cons.mp ha with rfl | ha; · exact List.all_eq_true.mp c_0_1 n hn
    rcases List.mem_cons.mp ha with rfl | ha; · exact List.all_eq_true.mp c_0_2 n hn
    rcases List.mem_cons.mp ha with rfl | ha; · exact List.all_eq_true.mp c_0_3 n hn
    cases ha
  rcases List.mem_cons.mp h with e | h
  · cases e
    rcases List.mem_cons.mp ha with rfl | ha; · exact List.all_eq_true.mp c_1_1 n hn
    rcases List.mem_cons.mp ha with rfl | ha; · exact List.all_eq_true.mp c_1_2 n hn
    rcases List.mem_cons.mp ha with rfl | ha; · exact List.all_eq_true.mp c_1_3 n hn
    cases ha
  rcases List.mem_cons.mp h with e | h
  · cases e
    rcases List.mem_cons.mp ha with rfl | ha; · exact List.all_eq_true.mp c_2_1 n hn
    rcases List.mem_cons.mp ha with rfl | ha; · exact List.all_eq_true.mp c_2_2 n hn
    rcases List.mem_cons.mp ha with rfl | ha; · exact List.all_eq_true.mp c_2_3 n hn
    cases ha
  rcases List.mem_cons.mp h with e | h
  · cases e
    rcases List.mem_cons.mp ha with rfl | ha; · exact List.all_eq_true.mp c_3_1 n hn
    rcases List.mem_cons.mp ha with rfl | ha; · exact List.all_eq_true.mp c_3_2 n hn
    rcases List.mem_cons.mp ha with rfl | ha; · exact List.all_eq_true.mp c_3_3 n hn
    cases ha
  rcases List.mem_cons.mp h with e | h
  · cases e
    rcases List.mem_cons.mp ha with rfl | ha; · exact List.all_eq_true.mp c_4_1 n hn
    rcases List.mem_cons.mp ha with rfl | ha; · exact List.all_eq_true.mp c_4_2 n hn
    rcases List.mem_cons.mp ha with rfl | ha; · exact List.all_eq_true.mp c_4_3 n hn
    cases ha
  rcases List.mem_cons.mp h with e | h
  · cases e
    rcases List.mem_cons.mp ha with rfl | ha; · exact List.all_eq_true.mp c_5_1 n hn
    rcases List.mem_cons.mp ha with rfl | ha; · exact List.all_eq_true.mp c_5_2 n hn
    rcases List.mem_cons.mp ha with rfl | ha; · exact List.all_eq_true.mp c_5_3 n hn
    cases ha
  rcases List.mem_cons.mp h with e | h
  · cases e
    rcases List.mem_cons.mp ha with rfl | ha; · exact List.all_eq_true.mp c_6_1 n hn
    rcases List.mem_cons.mp ha with rfl | ha; · exact List.all_eq_true.mp c_6_2 n hn
    rcases List.mem_cons.mp ha with rfl | ha; · exact List.all_eq_true.mp c_6_3 n hn
    cases ha
  cases h
theorem far_all {a : Int} (ha : a ∈ menuA) : farOk a = true := by
  rcases List.mem_cons.mp ha with rfl | ha; · exact far_1
  rcases List.mem_cons.mp ha with rfl | ha; · exact far_2
  rcases List.mem_cons.mp ha with rfl | ha; · exact far_3
  cases ha
theorem lk_sc_law_ulawux : sc_law.names.lookup ("_law_x" : Str) = some .globalImplicit := by decide +kernel
theorem lk_sc_law_abs : sc_law.names.lookup ("abs" : Str) = some .globalImplicit := by decide +kernel
theorem lk_sc_law_due : sc_law.names.lookup ("due" : Str) = some .local := by decide +kernel
theorem lk_sc_law_hidden : sc_law.names.lookup ("hidden" : Str) = some .local := by decide +kernel
theorem lk_sc_law_line : sc_law.names.lookup ("line" : Str) = some .cell := by decide +kernel
theorem nd_apart : NotDebug "apart" := by show (_ == _) = false; decide +kernel
theorem nd_below : NotDebug "below" := by show (_ == _) = false; decide +kernel
theorem nd_hidden : NotDebug "hidden" := by show (_ == _) = false; decide +kernel
theorem nd_is_long : NotDebug "is_long" := by show (_ == _) = false; decide +kernel
theorem nd_line : NotDebug "line" := by show (_ == _) = false; decide +kernel
theorem nd_ulawux : NotDebug "_law_x" := by show (_ == _) = false; decide +kernel
theorem nd_due : NotDebug "due" := by show (_ == _) = false; decide +kernel
theorem er_mid (P : Params) : ErB gdT fnT sc_law (((bodyAt P 276).drop 4).take 4) ir_mid := .asgS (names := ["below", "number"]) rfl (by decide +kernel) (.tup (.cons (.tup (.cons (.str) (fun _ _ => rfl) (.cons (.var rfl nd_line) (fun _ _ => rfl) (.cons (.tup (.cons (.str) (fun _ _ => rfl) (.cons (.neg (.int)) (fun _ _ => rfl) (.cons (.int) (fun _ _ => rfl) (.nil))))) (fun _ _ => rfl) (.nil))))) (fun _ _ => rfl) (.cons (.tup (.cons (.str) (fun _ _ => rfl) (.cons (.var rfl nd_top) (fun _ _ => rfl) (.cons (.var rfl nd_bottom) (fun _ _ => rfl) (.nil))))) (fun _ _ => rfl) (.nil)))) (fun _ => rfl) ⟨by decide +kernel, by decide +kernel, by decide +kernel, by decide +kernel, by decide +kernel, by decide +kernel⟩ (.asg rfl lk_sc_law_hidden (.tup (.cons (.str) (fun _ _ => rfl) (.cons (.tup (.cons (.tup (.cons (.str) (fun _ _ => rfl) (.cons (.tup (.cons (.var rfl nd_number) (fun _ _ => rfl) (.cons (.glob lk_sc_law_ulawux nd_ulawux gd_ulawux) (fun _ _ => rfl) (.cons (.var rfl nd_below) (fun _ _ => rfl) (.nil))))) (fun _ _ => rfl) (.nil)))) (fun _ _ => rfl) (.cons (.tup (.cons (.str) (fun _ _ => rfl) (.cons (.tup (.cons (.var rfl nd_number) (fun _ _ => rfl) (.cons (.tup (.cons (.str) (fun _ _ => rfl) (.cons (.var rfl nd_apart) (fun _ _ => rfl) (.cons (.int) (fun _ _ => rfl) (.nil))))) (fun _ _ => rfl) (.cons (.var rfl nd_below) (fun _ _ => rfl) (.nil))))) (fun _ _ => rfl) (.nil)))) (fun _ _ => rfl) (.nil)))) (fun _ _ => rfl) (.nil)))) (fun _ => rfl) (.asgS (names := ["many", "is_long"]) rfl (by decide +kernel) (.tup (.cons (.bi lk_sc_law_abs rfl (by exact List.cons_ne_nil _ _) (.cons (.var rfl nd_n) (fun _ _ => rfl) (.nil))) (fun _ _ => rfl) (.cons (.and2 (.cmp (o := .gt) (.bi lk_sc_law_abs rfl (by exact List.cons_ne_nil _ _) (.cons (.var rfl nd_n) (fun _ _ => rfl) (.nil))) (.int) rfl) (.or2 (.cmp (o := .gt) (.bi lk_sc_law_abs rfl (by exact List.cons_ne_nil _ _) (.cons (.var rfl nd_top) (fun _ _ => rfl) (.nil))) (.int) rfl) (.cmp (o := .gt) (.var rfl nd_bottom) (.int) rfl))) (fun _ _ => rfl) (.nil)))) (fun _ => rfl) ⟨by decide +kernel, by decide +kernel, by decide +kernel, by decide +kernel, by decide +kernel, by decide +kernel⟩ (.ite (.cmp (o := .eq) (.var rfl nd_top) (.int) rfl) (.asg rfl lk_sc_law_due (.ite (.cmp (o := .lt) (.var rfl nd_n) (.int) rfl) (.none) (.tup (.cons (.lst (.nil)) (fun _ _ => rfl) (.cons (.lst (.cons (.tup (.cons (.int) (fun _ _ => rfl) (.cons (.int) (fun _ _ => rfl) (.nil)))) (fun _ _ => rfl) (.nil))) (fun _ _ => rfl) (.nil))))) (fun _ => rfl) (.nil)) (.ite (.val (.var rfl nd_is_long) (fun _ _ => rfl)) (.asg rfl lk_sc_law_due (.str) (fun _ => rfl) (.nil)) (.ite (.and (.cons (.cmp (o := .eq) (.bi lk_sc_law_abs rfl (by exact List.cons_ne_nil _ _) (.cons (.var rfl nd_top) (fun _ _ => rfl) (.nil))) (.int) rfl) (.cons (.cmp (o := .eq) (.var rfl nd_bottom) (.int) rfl) (.nil)))) (.asg rfl lk_sc_law_due (.tup (.cons (.lst (.cons (.tup (.cons (.ite (.cmp (o := .eq) (.bin (o := .fmod) (.var rfl nd_many) (.int)) (.int) rfl) (.var rfl nd_top) (.int)) (fun _ _ => rfl) (.cons (.int) (fun _ _ => rfl) (.nil)))) (fun _ _ => rfl) (.nil))) (fun _ _ => rfl) (.cons (.lst (.cons (.tup (.cons (.int) (fun _ _ => rfl) (.cons (.int) (fun _ _ => rfl) (.nil)))) (fun _ _ => rfl) (.nil))) (fun _ _ => rfl) (.nil)))) (fun _ => rfl) (.nil)) (.asgP (xs := [("one", _), ("other", _)]) rfl (by decide +kernel) (.ite (.cmp (o := .gt) (.var rfl nd_n) (.int) rfl) (.tup (.cons (.bin (o := .pow) (.var rfl nd_top) (.var rfl nd_many)) (fun _ _ => rfl) (.cons (.bin (o := .pow) (.var rfl nd_bottom) (.var rfl nd_many)) (fun _ _ => rfl) (.nil)))) (.tup (.cons (.bin (o := .pow) (.var rfl nd_bottom) (.var rfl nd_many)) (fun _ _ => rfl) (.cons (.bin (o := .pow) (.bi lk_sc_law_abs rfl (by exact List.cons_ne_nil _ _) (.cons (.var rfl nd_top) (fun _ _ => rfl) (.nil))) (.var rfl nd_many)) (fun _ _ => rfl) (.nil))))) (fun _ => rfl) (fun _ => rfl) (.asg rfl lk_sc_law_due (.tup (.cons (.lst (.cons (.tup (.cons (.ite (.or (.cons (.cmp (o := .gt) (.var rfl nd_n) (.int) rfl) (.cons (.cmp (o := .gt) (.var rfl nd_top) (.int) rfl) (.cons (.cmp (o := .eq) (.bin (o := .fmod) (.var rfl nd_many) (.int)) (.int) rfl) (.nil))))) (.var rfl nd_one) (.bin (o := .sub) (.int) (.var rfl nd_one))) (fun _ _ => rfl) (.cons (.var rfl nd_other) (fun _ _ => rfl) (.nil)))) (fun _ _ => rfl) (.nil))) (fun _ _ => rfl) (.cons (.lst (.cons (.tup (.cons (.int) (fun _ _ => rfl) (.cons (.int) (fun _ _ => rfl) (.nil)))) (fun _ _ => rfl) (.nil))) (fun _ _ => rfl) (.nil)))) (fun _ => rfl) (.nil))) (.nil)) (.nil)) (.nil))))

noncomputable def sc_lawc : Sc := ⟨["far", "line"], [(".0", .local), ("far", .local), ("_law_told", .globalImplicit), ("line", .free)]⟩
theorem cs_sc_lawc : CompSc sc_law ⟨.function, [(".0", .local), ("far", .local), ("_law_told", .globalImplicit), ("line", .free)], false, false, []⟩ "far" [6] ["line"] sc_lawc := ⟨by decide +kernel, rfl, by decide +kernel, by decide +kernel, rfl, by decide +kernel, by decide +kernel, rfl, rfl⟩
theorem lk_lawc_told : sc_lawc.names.lookup ("_law_told" : Str) = some .globalImplicit := by decide +kernel
theorem nd_far' : NotDebug "far" := by show (_ == _) = false; decide +kernel
theorem lim_told {t : D} (h : limD t = true) : toldD t = some (.str "limit") := by
  unfold limD at h
  split at h
  · rename_i d e; rw [e, deqB_eq h]
  · cases h

section
variable {C : Cx} {A : Around} {H H' H₀ : List Addr} {s s' s₀ : Shared} {env : Env} {z : Sc} {ρ : Rho} {PR : Params}
theorem execs_app_wp {M : Model} {Γ : PySem.Ctx} {b : List Stmt} {Qp : Flow → Pos → Shared → Prop} {Ep : Value → Pos → Shared → Prop} : ∀ (a : List Stmt) (p : Pos) (s : Shared), Sem.wp M Γ (execs a env) (fun f p' s' => match f with | .next => Sem.wp M Γ (execs b env) Qp Ep p' s' | f => Qp f p' s') Ep p s → Sem.wp M Γ (execs (a ++ b) env) Qp Ep p s
  | [], p, s, h => h
  | st :: a, p, s, h => by
    rw [execs_cons, Sem.wp_bind'] at h
    show Sem.wp M Γ (execs (st :: (a ++ b)) env) Qp Ep p s
    rw [execs_cons, Sem.wp_bind']
    refine Sem.wp_mono M Γ _ (fun f p' s' h' => ?_) (fun _ _ _ h' => h') _ _ h
    cases f with
    | next => exact execs_app_wp a p' s' h'
    | _ => exact h'
theorem execs_app {M : Model} {A : Around} {Q : Flow → Shared → Prop} {E : Value → Shared → Prop} {a b : List Stmt} {s : Shared} (h : wpAny M A (execs a env) (fun f s' => match f with | .next => wpAny M A (execs b env) Q E s' | f => Q f s') E s) : wpAny M A (execs (a ++ b) env) Q E s := fun Γ p hΓ => by
  refine execs_app_wp a p s (Sem.wp_mono M Γ _ (fun f p' s' h' => ?_) (fun _ _ _ h' => h') _ _ (h Γ p hΓ))
  cases f with
  | next => exact h' Γ p' hΓ
  | _ => exact h'

theorem toldD_ok {t d : D} (W : Wd C (ftT PR) gdT fnT PH) (B : Cf PR C.h0) (hcf : C.mg "CasFail" = some (.ref 31)) (h : toldD t = some d) : Told C PR 250 t d := by
  unfold toldD at h
  split at h
  · rename_i d' h1
    cases h
    exact .inl ((sound W 250).c _ _ _ (vOf_eq h1))
  · split at h
    · rename_i kd h2
      cases h
      exact .inr ⟨kd, rfl, (soundX W B hcf 250).c _ _ _ h2⟩
    · cases h
theorem chk_eq {o : Option D} {d : D} (h : chk o d = true) : o = some d := by
  unfold chk at h
  split at h
  · rw [deqB_eq h]
  · cases h

theorem law_tail {t b ap n : Int} {c : Addr} (W : Wd C (ftT PR) gdT fnT PH) (K : (hd.heap_1 PR).In C.h0) (B : Cf PR C.h0) (hcf : C.mg "CasFail" = some (.ref 31)) (Z : EnvF sc_law env) (R : Room A 300) (hfr : A.frames = some [env]) (hfL : env.frame = some env.locals) (hline : env.cells.lookup ("line" : Str) = some c)
    (h1 : (t, b) ∈ menuT) (h2 : ap ∈ menuA) (h3 : n ∈ menuN) (F : Fm C sc_law env s₀ [] [] [(2, .int t), (3, .int b), (5, .int n), (4, .int ap)] none s) (Q : Flow → Shared → Prop) (E : Value → Shared → Prop)
    (hq : ∀ s', (∃ h tk, s' = { s₀ with heap := h, toks := tk }) → (∀ b o, s₀.heap.get? b = some o → s'.heap.get? b = some o) → Q (.ret (.bool true)) s') : wpAny C.M A (execs ((bodyAt PR 276).drop 3) env) Q E s := by
  have J := sound W 100
  have R1 : Room A 100 := R.less (by omega)
  have RT : Room A 252 := R.less (by omega)
  refine wpAny_execs_cons (wpAny_mono (x_asgC (i := 6) (d := lineD ap) Z F rfl lk_sc_law_line hline (J.x _ none ir_line _ (by rfl) sc_law _ (.tup (.cons (.str) (fun _ _ => rfl) (.cons (.tup (.cons (.glob lk_sc_law_ulawux nd_ulawux gd_ulawux) (fun _ _ => rfl) (.cons (.tup (.cons (.str) (fun _ _ => rfl) (.cons (.var rfl nd_apart) (fun _ _ => rfl) (.cons (.int) (fun _ _ => rfl) (.nil))))) (fun _ _ => rfl) (.nil)))) (fun _ _ => rfl) (.nil)))) A env [] s R1 Z.toX (F.xm Z)) rfl E) (fun f s1 q => ?_) fun _ _ x => x)
  obtain ⟨_, rfl, H1, F1, _⟩ := q
  have hH1 : H1 = [] := F1.own
  subst hH1
  have F1' : Fm C sc_law env s₀ [] [] (rho5 t b ap n) none s1 := F1
  have hc := case_all h1 h2 h3
  unfold caseOk at hc
  split at hc
  · rename_i out hrun
    obtain ⟨hc, hdue⟩ := Bool.and_eq_true_iff.mp hc
    obtain ⟨hc, h6⟩ := Bool.and_eq_true_iff.mp hc
    obtain ⟨hc, h5⟩ := Bool.and_eq_true_iff.mp hc
    obtain ⟨hends, h9⟩ := Bool.and_eq_true_iff.mp hc
    obtain ⟨ρ7, o7, d7⟩ := out
    have ho : o7 = none ∧ d7 = none := by
      unfold endsQ at hends
      split at hends
      · rename_i e1 e2; exact ⟨e1, e2⟩
      · cases hends
    obtain ⟨rfl, rfl⟩ := ho
    have g9 := chk_eq h9
    have g5 := chk_eq h5
    have g6 := chk_eq h6
    refine execs_app (a := ((bodyAt PR 276).drop 4).take 4) (b := (bodyAt PR 276).drop 8) (wpAny_mono (J.s _ none ir_mid _ (oOf_eq hrun) sc_law _ (er_mid PR) A env s₀ [] [] s1 R1 Z F1' E) (fun f s2 q => ?_) fun _ _ x => x)
    obtain ⟨_, rfl, H2, F2, _⟩ := q
    have hH2 : H2 = [] := F2.own
    subst hH2
    have F7 : Fm C sc_law env s₀ [] [] ρ7 none s2 := F2
    obtain ⟨due, d, g12, hT, hne⟩ : ∃ due d, ρ7.get 12 = some due ∧ toldD (powD (hiddenD t b ap) n) = some d ∧ dcmp .ne d due = some false := by
      unfold dueQ at hdue
      split at hdue
      · rename_i due e1
        split at hdue
        · rename_i d e2
          split at hdue
          · rename_i e3; exact ⟨due, d, e1, e2, e3⟩
          · cases hdue
        · cases hdue
      · cases hdue
    have v9 : run PH 100 (.x ρ7 none (.var 9)) = some (.v (hiddenD t b ap)) := by
      show thn (ρ7.get 9) _ = _
      rw [g9]; rfl
    have v5 : run PH 100 (.x ρ7 none (.var 5)) = some (.v (.int n)) := by
      show thn (ρ7.get 5) _ = _
      rw [g5]; rfl
    have v12 : run PH 100 (.x ρ7 none (.var 12)) = some (.v due) := by
      show thn (ρ7.get 12) _ = _
      rw [g12]; rfl
    have gArg : ∀ p1 p2 p3 p4 p5 k1 k2 k3 k4 k5 p6 p7, Gv C A [] (eval (.Tuple [.Constant (.str "pow") k1 p1, .Name "hidden" p2, .Tuple [.Constant (.str "num") k2 p3, .Name "n" p4, .Constant (.int 1) k3 p5] k4 p6] k5 p7) env) (powD (hiddenD t b ap) n) s2 := fun p1 p2 p3 p4 p5 k1 k2 k3 k4 k5 p6 p7 =>
      gv_tuple F7.st (by simp) (gl_cons gv_str (fun sa ka => gl_cons (J.x ρ7 none (.var 9) _ v9 sc_law _ (.var rfl nd_hidden) A env [] sa R1 Z.toX ((F7.xm Z).keeps ka)) (fun sb kb => gl_cons (gv_tuple ((F7.st.keeps ka).keeps kb) (by simp) (gl_cons gv_str (fun sc kc => gl_cons (J.x ρ7 none (.var 5) _ v5 sc_law _ (.var rfl nd_n) A env [] sc R1 Z.toX ((((F7.xm Z).keeps ka).keeps kb).keeps kc)) (fun _ _ => gl_cons gv_int (fun _ _ => gl_nil) rfl) rfl) rfl)) (fun _ _ => gl_nil) rfl) rfl) rfl)
    obtain ⟨mL, hmL⟩ := F7.ns
    obtain ⟨oL, esL, epL, hoL, hdL, _⟩ := id hmL
    have hL0 : C.h0.get? env.locals = none := by
      cases e : C.h0.get? env.locals with
      | none => rfl
      | some ob => have := F7.old0 _ _ e; rw [F7.fresh] at this; cases this
    refine wpAny_execs_cons (wpAny_If (wpAny_mono (gbx_cmp (op := .ne) (L := env.locals) R1 hne (gx_told W K hcf (toldD_ok W B hcf hT) Z.toEnvS lk_law_told RT F7.st hfr hfL (by rw [Z.fn]; decide) ⟨oL, hoL, fun vs q => by rw [hdL] at q; cases q⟩ hL0 (gArg _ _ _ _ _ _ _ _ _ _ _ _) (fun _ _ => rfl)) (fun sx kx => J.x ρ7 none (.var 12) _ v12 sc_law _ (.var rfl nd_due) A env [] sx R1 Z.toX ((F7.kx kx).1.xm Z)) rfl) (fun tt s3 q => ?_) fun _ _ x => x))
    obtain ⟨rfl, kx3⟩ := q
    obtain ⟨F8, _⟩ := F7.kx kx3
    rw [if_neg (by decide)]
    refine wpAny_execs_nil ?_
    show wpAny _ _ (execs _ env) _ _ _
    obtain ⟨mL3, hmL3⟩ := F8.ns
    obtain ⟨oL3, esL3, epL3, hoL3, hdL3, _⟩ := id hmL3
    have kErase : ∀ b o, C.h0.get? b = some o → (erase s3.heap env.locals).get? b = some o := fun b o e => erase_of (fun q => by rw [q, hL0] at e; cases e) (F8.st.old b o e)
    have V' : Xm C sc_law env [] [(6, lineD ap)] none { s3 with heap := erase s3.heap env.locals } := by
      refine ⟨⟨kErase, fun b hb => (by cases hb), fun b hb => (by cases hb)⟩, fun i d e => ?_, fun p e => by cases e⟩
      unfold Rho.get at e
      rw [beq_of] at e
      by_cases hi : 6 = i
      · simp only [hi, decide_true] at e
        cases e
        subst hi
        obtain ⟨x, v, hx, hh, rz⟩ := F8.rho 6 (lineD ap) g6
        have hxl : x = "line" := Option.some.inj (hx.symm.trans (rfl : sc_law.nms[6]? = some ("line" : Str)))
        subst hxl
        obtain ⟨c', hc', oc, e1, e2⟩ := held_cell ((Z.kd _).trans lk_sc_law_line) hh
        refine ⟨"line", v, rfl, .inr ⟨(Z.kd _).trans lk_sc_law_line, c', hc', oc, erase_of (fun q => ?_) e1, e2⟩, Rz.kp (fun b o _ hsq e => erase_of (fun q => ?_) e) _ rz⟩
        · rw [q, hoL3] at e1; cases e1; rw [hdL3] at e2; cases e2
        · rw [q, hoL3] at e; cases e
          obtain ⟨xs, k, q'⟩ := hsq
          rw [hdL3] at q'; cases q'
      · simp only [hi, decide_false] at e
        cases e
    obtain ⟨hclos, henv⟩ := comp_env Z.toX V' cs_sc_lawc (ρ' := [(1, lineD ap)]) rfl
    have hfar := far_all h2
    unfold farOk at hfar
    obtain ⟨hf12, hf3⟩ := Bool.and_eq_true_iff.mp hfar
    obtain ⟨hf1, hf2⟩ := Bool.and_eq_true_iff.mp hf12
    refine wpAny_execs_cons (wpAny_Return_some (wpAny_Compare1 (wpAny_mono (gx_comp_tuple (ls := [.int 2001, .int (-2001), .int 1000000000000]) (ds := [.str "limit", .str "limit", .str "limit"]) (L := env.locals) F8.st R1 ⟨hclos, cs_sc_lawc.cell, rfl, cs_sc_lawc.loc, cs_sc_lawc.hx, fun _ => rfl⟩ rfl (by simp)
      ((sound W 40).x [] none (.tup [.cst (.int 2001), .neg (.cst (.int 2001)), .bin .pow (.cst (.int 10)) (.cst (.int 12))]) _ (isV_eq (by decide +kernel)) sc_law _ (.tup (.cons .int (fun _ _ => rfl) (.cons (.neg .int) (fun _ _ => rfl) (.cons (.bin (o := .pow) .int .int) (fun _ _ => rfl) .nil)))) A env [] s3 (R1.less (by omega)) Z.toX ⟨F8.st, fun i d e => (by cases e), fun p e => (by cases e)⟩) hoL3 ⟨_, _, hdL3⟩ ?_ E) (fun v s4 q => ?_) fun _ _ x => x) rfl))
    · intro i di d hdi hdd F0 D0 s5 m5 v hD ho hk hLL rz hns hm
      have hT3 : ∀ far : Int, limD (powD (lineD ap) far) = true → di = .int far → d = .str "limit" → ∀ (p pos p1 p2 p3 p4 p5 p6 p7 : Pos) (k1 k2 k3 k4 k5 : Nat), Gx C A env.locals [D0] (eval (.Call (.Name "_law_told" p) [.Tuple [.Constant (.str "pow") k1 p1, .Name "line" p2, .Tuple [.Constant (.str "num") k2 p3, .Name "far" p4, .Constant (.int 1) k3 p5] k4 p6] k5 p7] [] pos) (compEnvC ⟨.function, [(".0", .local), ("far", .local), ("_law_told", .globalImplicit), ("line", .free)], false, false, []⟩ (closG env (Scope.names ⟨.function, [(".0", .local), ("far", .local), ("_law_told", .globalImplicit), ("line", .free)], false, false, []⟩) []) F0 env)) d s5 := fun far hl hdi hd p pos p1 p2 p3 p4 p5 p6 p7 k1 k2 k3 k4 k5 => by
        subst hdi; subst hd
        obtain ⟨Z3, V3⟩ := henv F0 D0 s5 m5 v _ (by
          cases e : (erase s3.heap env.locals).get? D0 with
          | none => rfl
          | some ob => rw [erase_sub e] at hD; cases hD) ho (fun b o e => hk b o (fun q => by
            have e' : (erase s3.heap env.locals).get? b = some o := e
            rw [q, erase_self] at e'; cases e') (erase_sub e)) rz hns hm
        obtain ⟨slL, hLL'⟩ := hLL
        exact gx_told W K hcf (toldD_ok W B hcf (lim_told hl)) Z3.toEnvS lk_lawc_told RT V3.st hfr hfL (by rw [Z.fn]; decide) ⟨_, hLL', fun vs q => by
          have q' : oL3.data = .fields vs := q
          rw [hdL3] at q'; cases q'⟩ hL0 (J.x _ none (.tup [.cst (.str "pow"), .var 1, .tup [.cst (.str "num"), .var 0, .cst (.int 1)]]) _ (by rfl) sc_lawc _ (.tup (.cons .str (fun _ _ => rfl) (.cons (.var rfl nd_line) (fun _ _ => rfl) (.cons (.tup (.cons .str (fun _ _ => rfl) (.cons (.var rfl nd_far') (fun _ _ => rfl) (.cons .int (fun _ _ => rfl) .nil)))) (fun _ _ => rfl) .nil)))) A _ [D0] s5 R1 Z3 V3) (fun _ _ => rfl)
      match i, hdi, hdd with
      | 0, hdi, hdd => cases hdi; cases hdd; exact hT3 2001 hf1 rfl rfl _ _ _ _ _ _ _ _ _ _ _ _ _ _
      | 1, hdi, hdd => cases hdi; cases hdd; exact hT3 (-2001) hf2 rfl rfl _ _ _ _ _ _ _ _ _ _ _ _ _ _
      | 2, hdi, hdd => cases hdi; cases hdd; exact hT3 1000000000000 hf3 rfl rfl _ _ _ _ _ _ _ _ _ _ _ _ _ _
      | i + 3, hdi, hdd => simp at hdi
    · obtain ⟨hs4, hk4, r4⟩ := q
      have S4 : St C [] s4 := ⟨fun b o e => hk4 b o (fun q => by rw [q, hL0] at e; cases e) (F8.st.old b o e), fun b hb => (by cases hb), fun b hb => (by cases hb)⟩
      refine (gv_bin (o := .mul) (c := .list [.str "limit", .str "limit", .str "limit"]) (by rfl) S4 (gv_list (ds := [.str "limit"]) S4 (by simp) (gl_cons gv_str (fun _ _ => gl_nil) rfl)) fun sx kx => gv_int (i := 3)).use fun u s6 k6 r6 => ?_
      refine (g_cmp (o := .eq) R1 (c := true) (by decide +kernel) (r4.keeps (Ks.heap k6)) r6).use fun x s7 k7 r7 => ?_
      have e : x = .bool true := r7
      subst e
      have kAll : ∀ b o, s₀.heap.get? b = some o → s7.heap.get? b = some o := fun b o e => Ks.heap k7 b o (Ks.heap k6 b o (hk4 b o (fun q => by rw [q, F8.fresh] at e; cases e) (F8.keep b o e)))
      refine hq s7 ?_ kAll
      obtain ⟨h3', t3', e3⟩ := F8.same
      obtain ⟨h4', t4', e4⟩ := hs4
      obtain ⟨h6', t6', e6, _⟩ := k6
      obtain ⟨h7', t7', e7, _⟩ := k7
      exact ⟨h7', t7', by rw [e7, e6, e4, e3]⟩
  · cases hc
end
end Mine
namespace Mine
open PySem PySem.Spec PySem.Calls PyProof.Rows PySem.W

/-- the law's body, whole -/
theorem law_whole {prog : Program} {w : World} {h0 : Heap} {mg mb : Str → Option Value} {PR : Params} {A : Around} {env : Env} {s₀ s : Shared} {c a : Addr} {vs : Array Value} {xs : List Int} {m0 : Str → Option Value} {Q : Flow → Shared → Prop} {E : Value → Shared → Prop}
    (K : (hd.heap_1 PR).In h0) (g : h0.Ns mainGlobals mg) (b : h0.Ns builtinsNs mb) (bb : ∀ x : Str, x ≠ "__name__" → mb x = bootBuiltins x) (lim : h0.NoLimit)
    (Z : EnvF sc_law env) (R : Room A 300) (hfr : A.frames = some [env]) (hfL : env.frame = some env.locals) (hline : env.cells.lookup ("line" : Str) = some c)
    (hL : s.heap.IsList a vs) (rL : RzL [] s.heap (xs.map .int) vs.toList) (hlen : xs.length ≤ 100)
    (F : Fm ⟨prog, w, h0, mg, mb⟩ sc_law env s₀ [] [] [] none s) (hn : s.heap.Ns env.locals m0) (hm : m0 "script" = some (.ref a))
    (hq : ∀ s', (∃ h tk, s' = { s₀ with heap := h, toks := tk }) → (∀ b o, s₀.heap.get? b = some o → s'.heap.get? b = some o) → Q (.ret (.bool true)) s') : wpAny (model prog w) A (execs (bodyAt PR 276) env) Q E s := by
  have W := wdH (prog := prog) (w := w) K g b bb lim
  have hcf : mg "CasFail" = some (.ref 31) := mg_of K g (by rfl)
  have B : Cf PR h0 := ⟨K, ⟨mg, mb, g, mg_none_of K g (by rfl), b, (bb _ (by decide)).trans rfl⟩, lim⟩
  exact law_head (C := ⟨prog, w, h0, mg, mb⟩) W K Z R hL rL hlen F hn hm Q E fun t b ap n s' h1 h2 h3 F' => law_tail (C := ⟨prog, w, h0, mg, mb⟩) W K B hcf Z R hfr hfL hline h1 h2 h3 F' Q E hq
end Mine
namespace Mine
open PySem PySem.Spec PySem.Calls PyProof.Rows PySem.W
theorem rz_ints {h : Heap} : ∀ {vs : List Value} {ns : List Int}, IntsAre vs ns → RzL [] h (ns.map .int) vs := by
  intro vs ns hI
  induction hI with
  | nil => rfl
  | cons _ _ => exact ⟨_, _, rfl, ⟨_, rfl⟩, by assumption⟩
theorem fm_law {prog : Program} {w : World} {mg mb : Str → Option Value} {env : Env} {s₁ : Shared} {h₁ : Heap} {tk₁ : Nat} {m : Str → Option Value} {cA : Addr} {v : Option Value} (F : Fr s₁.heap env.locals h₁ m) (hcells : ∀ n c, env.cells.lookup n = some c → n = "line" ∧ c = cA) (hc : h₁.IsCell cA v) (hcA : s₁.heap.objs.size ≤ cA) :
    Fm ⟨prog, w, s₁.heap, mg, mb⟩ sc_law env s₁ [] [] [] none { s₁ with heap := h₁, toks := tk₁ } := by
  have none_of : ∀ a, s₁.heap.objs.size ≤ a → s₁.heap.get? a = none := fun a ha => by
    cases e : s₁.heap.get? a with
    | none => rfl
    | some o => exact absurd (Nat.lt_of_lt_of_le (Heap.lt_size e) ha) (Nat.lt_irrefl _)
  exact ⟨⟨h₁, tk₁, rfl⟩, F.keep, none_of _ F.above, ⟨m, F.ns⟩, fun n c e => by obtain ⟨_, rfl⟩ := hcells n c e; exact ⟨none_of _ hcA, v, hc⟩, fun n n' c e e' => (hcells n c e).1.trans (hcells n' c e').1.symm,
    fun b o e => e, ⟨F.keep, fun b hb => (by cases hb), fun b hb => (by cases hb)⟩, fun i d e => (by cases e), rfl⟩
end Mine
namespace Mine
open PySem PySem.Spec PySem.Calls PyProof.Rows PySem.W

/-- the law's call, from the facts that the head leaves -/
theorem law_ends {prog p : Program} {lo : List Str} {mean : ExcName → Option Value} {w : World} {mg mb : Str → Option Value} {env : Env} {s₁ : Shared} {h₁ : Heap} {tk₁ : Nat} {m : Str → Option Value} {L cA a : Addr} {ob : Obj} {v : Option Value} {vs : List Value} {ns : List Int} {body : List Stmt} {Q : Flow → Shared → Prop} {E : Value → Shared → Prop}
    (K : (hd.heap_1 w.params).In s₁.heap) (T : Top p lo mean mg mb s₁.heap) (hL : s₁.heap.IsList a vs.toArray) (hI : IntsAre vs ns) (hlen : ¬ (63 : Int) < (ns.length : Int))
    (F : Fr s₁.heap env.locals h₁ m) (N : News s₁.heap L h₁ [(cA, ob)]) (hob : ob.data = .cell v)
    (hc : env.cells = [(("line" : Str), cA)]) (hcA : s₁.heap.objs.size ≤ cA) (Z : EnvF sc_law env) (hfL : env.frame = some env.locals) (hm : m "script" = some (.ref a)) (hb : body = bodyAt w.params 276)
    (hq : ∀ s', (∃ h tk, s' = { s₁ with heap := h, toks := tk }) → (∀ b o, s₁.heap.get? b = some o → s'.heap.get? b = some o) → Q (.ret (.bool true)) s') :
    wpAny (model prog w) (callerA.deeper env) (execs body env) Q E ⟨h₁, s₁.gens, s₁.drawn, tk₁, s₁.os⟩ := by
  subst hb
  have hlk : ∀ n c, env.cells.lookup n = some c → n = "line" ∧ c = cA := fun n c e => by
    rw [hc] at e
    rw [List.lookup_cons] at e
    split at e
    · rename_i he
      exact ⟨eq_of_beq he, (Option.some.inj e).symm⟩
    · cases e
  have F' := fm_law (prog := prog) (w := w) (mg := mg) (mb := mb) (tk₁ := tk₁) F hlk (v := v) ⟨ob, (N _ (List.mem_singleton.mpr rfl)).1, hob⟩ hcA
  have R : Room (callerA.deeper env) 300 := Room.deeper (⟨rfl, by decide, by decide⟩ : Room callerA 301)
  exact law_whole K T.g T.b T.builtins T.nolimit Z R rfl hfL (by rw [hc]; rfl) (F.lst hL) (rz_ints hI) (by omega) F' F.ns hm hq
end Mine
open PySem PySem.W PyProof.Rows
set_option maxRecDepth 100000 in
set_option maxHeartbeats 8000000 in
theorem PySem.Challenge.cw_rh0029_01_holds : PySem.Challenge.rw_rh0029_01.Holds := by
  refine Mine.hd ?_
  k_go0
  refine Mine.law_ends (by assumption) (by assumption) (by assumption) (by assumption) (by assumption) (by assumption) (by assumption) (by assumption) ?hc ?hcA ?Z ?hfL ?hm ?hb ?hq
  case hc => with_unfolding_all rfl
  case hcA => exact Nat.le_succ _
  case Z => exact { fn := rfl, gl := rfl, bi := rfl, glob := fun _ e => e, nd := by decide, kd := fun _ => rfl }
  case hfL => rfl
  case hm => with_unfolding_all rfl
  case hb => with_unfolding_all rfl
  case hq =>
    rintro s' ⟨h, tk, rfl⟩ hk
    refine ⟨.inl ⟨_, .bool true, [], rfl, raisesW_false ?_, .bool true, ?_, unshared_nil⟩, hk, rfl, by assumption⟩
    · wrow_none_raised
    · wrow_post
