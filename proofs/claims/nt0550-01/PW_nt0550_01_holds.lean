import PyProof.Rows.All
import Wide.All
import OpenK.AllK
import Wide.FinOn
import Lean
import PySem.Challenge.RW_nt0550_01
set_option Elab.async false
set_option maxRecDepth 100000
set_option autoImplicit false
set_option linter.unusedVariables false
noncomputable section
namespace Mine
open PySem PySem.W PySem.Calls PyProof.Rows
section
local macro_rules | `(tactic| o_head $H) => `(tactic| assumption)
theorem hk (h : PySem.Challenge.rw_nt0550_01.row.Holds) : PySem.Challenge.rw_nt0550_01.row.Holds := by
  k_head
end
noncomputable def viewP : Program := view PySem.Challenge.pw_nt0550_01 [0, 2, 3, 5, 6, 8, 9, 10, 11, 12, 13, 14, 15, 16, 17, 18, 20, 21, 22, 23, 24, 25, 26, 27, 28, 29, 30]
theorem at_ : ∀ P, ([2, 3, 15, 17, 18, 20, 21, 22, 29, 31, 32, 34, 35, 36, 37, 38, 39, 42, 49, 50, 51, 61, 63, 64, 66, 67, 68, 70, 71, 73, 74, 75, 77, 78, 80, 81, 82, 83, 84, 85, 86, 89, 91, 92, 94, 95, 96, 97, 100, 101, 109, 112, 113, 114, 117, 118, 119, 122, 123, 124, 126, 127, 129, 130, 131, 134, 135, 136, 137, 138, 139, 140, 143, 146, 147, 148, 150, 151, 153, 154, 155, 157, 158, 160, 161, 162, 165, 166, 167, 170, 171, 172, 174, 175, 177, 178, 179, 182, 183, 184, 187, 188, 189, 191, 192, 194, 195, 196, 198, 199, 201, 202, 203, 205, 206, 208, 209, 210, 213, 214, 215, 218, 219, 220, 223, 224, 225, 228, 229, 230, 233, 234, 235, 238, 239, 240, 243, 244, 245, 248, 249] : List Addr) = (hk.heap_1 P).map (·.1) := fun P => by kernel_rfl
noncomputable def hookP : Hook := kHook hk.heap_1 [2, 3, 15, 17, 18, 20, 21, 22, 29, 31, 32, 34, 35, 36, 37, 38, 39, 42, 49, 50, 51, 61, 63, 64, 66, 67, 68, 70, 71, 73, 74, 75, 77, 78, 80, 81, 82, 83, 84, 85, 86, 89, 91, 92, 94, 95, 96, 97, 100, 101, 109, 112, 113, 114, 117, 118, 119, 122, 123, 124, 126, 127, 129, 130, 131, 134, 135, 136, 137, 138, 139, 140, 143, 146, 147, 148, 150, 151, 153, 154, 155, 157, 158, 160, 161, 162, 165, 166, 167, 170, 171, 172, 174, 175, 177, 178, 179, 182, 183, 184, 187, 188, 189, 191, 192, 194, 195, 196, 198, 199, 201, 202, 203, 205, 206, 208, 209, 210, 213, 214, 215, 218, 219, 220, 223, 224, 225, 228, 229, 230, 233, 234, 235, 238, 239, 240, 243, 244, 245, 248, 249] at_
noncomputable def topQ (p : Program) (w : World) (N : Nat) (s₀ : Shared) : Option Shared :=
  match s₀.heap.isNs mainGlobals && s₀.gens.size == 0 with
  | true => (Fast.tw14082659384304107361 Fast.tw14364793385576792824 p w s₀.heap.objs.size (s₀.heap.nsMap mainGlobals "__annotations__") N s₀ (topStub p)).bind fun s₁ =>
    match staticsOk (importedModules p.main.body) s₀.heap s₁.heap && namesBound p s₁.heap && gensDone s₁ && laidKept s₀.heap s₁.heap with
    | true => some s₁
    | false => none
  | false => none
theorem topQ_eq (p : Program) (w : World) (N : Nat) (s₀ : Shared) : topFrom treeTable p w N s₀ = topQ p w N s₀ := by
  unfold topFrom topQ
  rw [Fast.te14082659384304107361, Fast.te14364793385576792824]
  rfl
theorem left_of {p q : Program} {Xt : Shared → Bool} {α : Type} {Yf : Shared → α} {Ya : World → α} {N : Nat}
    (e : opening p = plainProg p.main.scope.names) (hN : Nat.ble 600 N = true) (hf : ∀ s, fenceModules? p s = some s)
    (h1 : ∀ (w : World) (os : OsState), (topQ p w N ⟨boot_heap w.params, Array.mk [], boot_drawn, boot_toks, os⟩).map (Fast.tw4187177175401517315 q [] (importedModules p.main.body) Xt true) = some (openGood q []))
    (h2 : ∀ (w : World) (os : OsState), (topQ p w N ⟨boot_heap w.params, Array.mk [], boot_drawn, boot_toks, os⟩).map Yf = some (Ya w)) : LeftO p q [] Xt Yf Ya N := fun w => by
  obtain ⟨⟨h, gs, d, k, os⟩, e1, e2⟩ := Option.map_eq_some_iff.mp (boot_open e hN hf w)
  obtain ⟨rfl, rfl, rfl, rfl⟩ : h = boot_heap w.params ∧ gs = Array.mk [] ∧ d = boot_drawn ∧ k = boot_toks := by simpa using e2
  obtain ⟨s1, a1, a2⟩ := Option.map_eq_some_iff.mp (h1 w os)
  obtain ⟨s2, b1, b2⟩ := Option.map_eq_some_iff.mp (h2 w os)
  rw [a1] at b1
  cases b1
  unfold openEnds
  rw [e1]
  show (topFrom treeTable p w N _).map _ = _
  rw [topQ_eq, a1]
  refine congrArg some (Prod.ext ?_ b2)
  rw [Fast.te4187177175401517315]
  exact a2
noncomputable abbrev lawRow : OpenRow := PySem.Challenge.rw_nt0550_01.row
noncomputable abbrev seenP (s : Shared) : Bool := xlAt viewP [] s && recOk (RowW.records lawRow.toRowW) s
theorem run1 (w : World) (os : OsState) : (topQ lawRow.prog w 3598 ⟨boot_heap w.params, Array.mk [], boot_drawn, boot_toks, os⟩).map (Fast.tw4187177175401517315 viewP [] (importedModules lawRow.prog.main.body) seenP true) = some (openGood viewP []) := by kernel_rfl
theorem run2 (w : World) (os : OsState) : (topQ lawRow.prog w 3598 ⟨boot_heap w.params, Array.mk [], boot_drawn, boot_toks, os⟩).map (Hook.obs hookP) = some (Hook.val hookP w) := by kernel_rfl
theorem left : LeftO lawRow.prog viewP [] seenP (Hook.obs hookP) (Hook.val hookP) 3598 := left_of (by kernel_rfl) (by kernel_rfl) (fun _ => by kernel_rfl) run1 run2
noncomputable def lawDef : DefRec × List (Str × Expr) := (defOf viewP lawRow.name).getD ⟨⟨"", ⟨[], [], none, [], [], none, []⟩, [], default, default⟩, []⟩
theorem hd (walk : WalkO viewP [] (XL viewP []) hookP.says lawRow.toRowW lawDef.1 lawDef.2 fun f vs => call f vs) (said : PySem.Challenge.rw_nt0550_01.wellSaid = true) (hw : lawRow.toRowW.promised) : PySem.Challenge.rw_nt0550_01.Holds :=
  holds_law said fun said => holds_open (q := viewP) (loose := []) (Xt := seenP) (XP := XL viewP []) (YP := hookP.says) (d := lawDef.1) (kwd := lawDef.2) (N := 3598) left hookP.of hookP.keeps (fun s e => xl_of s (Bool.and_eq_true_iff.mp e).1) XL.keeps
    (by kernel_rfl) (by kernel_rfl) (by kernel_rfl) (fun s e => recFacts_of (Bool.and_eq_true_iff.mp e).2) (by kernel_rfl) said (by kernel_rfl) ⟨rfl, rfl, rfl, rfl, rfl, by kernel_rfl⟩ hw walk
theorem saidP : PySem.Challenge.rw_nt0550_01.wellSaid = true := by
  rw [Fast.te9446332074065402090]
  kernel_rfl
theorem witP : lawRow.toRowW.promised := ⟨[.list []], by decide +kernel, by decide +kernel⟩
inductive D where
  | none | bool (b : Bool) | int (i : Int) | tup (ds : List D) | lst (ds : List D) | obj (C : Addr) (ns : List Str) (ds : List D)
  | dct (kvs : List (List Int × Int)) | src | adr (a : Addr) | rng (a b : Int)
noncomputable abbrev Facts := Addr → Obj → Prop
noncomputable abbrev Led := List (Addr × Obj)
noncomputable abbrev Rho := List (Str × D)
noncomputable def Sub (N N' : Facts) : Prop := ∀ a o, N a o → N' a o
theorem Sub.refl (N : Facts) : Sub N N := fun _ _ h => h
theorem Sub.trans {N N' N'' : Facts} (h : Sub N N') (h' : Sub N' N'') : Sub N N'' := fun a o x => h' a o (h a o x)
/-- a source: a list of two ints, the first at least nought, the second below the modulus -/
noncomputable def IsSrc (o : Obj) : Prop := ∃ (a b : Int) (t u : Tok) (n : Nat), o.cls = .type "list" ∧ o.data = .seq #[.int a t, .int b u] n ∧ 0 ≤ a ∧ a.natAbs.log2 < 2 ^ 21 ∧ 0 ≤ b ∧ b < 2147483647
noncomputable def FieldsAre (es : List DictEntry) (ns : List Str) (vs : List Value) : Prop := ∀ x, getL x es = some ((ns.zip vs).lookup x)
noncomputable abbrev IK (prog : Program) (w : World) := tupleKind (intKind prog w)
section
variable (prog : Program) (w : World) (S : List Addr)
inductive KvRel : List (List Int × Addr × Value) → List (List Int × Int) → Prop
  | nil : KvRel [] []
  | cons {k : List Int} {a : Addr} {i : Int} {t : Tok} {xs : List (List Int × Addr × Value)} {kvs : List (List Int × Int)} : KvRel xs kvs → KvRel ((k, a, .int i t) :: xs) ((k, i) :: kvs)
/-- an exact dict keyed by tuples of ints, its values ints -/
noncomputable def DctOb (N : Facts) (o : Obj) (kvs : List (List Int × Int)) : Prop :=
  ∃ (xs : List (List Int × Addr × Value)) (es : Array DictEntry) (ep : Nat), o.ExactDict ∧ o.data = .dict es ep ∧ es.toList = xs.map (entryOfKey (IK prog w)) ∧
    (∀ x ∈ xs, ∃ ok vs n, N x.2.1 ok ∧ ok.cls = .type "tuple" ∧ ok.data = .seq vs n ∧ ItemsAre (intKind prog w) x.1 vs.toList) ∧ (xs.map (·.1)).Nodup ∧ KvRel xs kvs
mutual
inductive DIn (N : Facts) : Value → D → Prop
  | none : DIn N Value.none D.none
  | bool (b : Bool) : DIn N (Value.bool b) (D.bool b)
  | int (i : Int) (t : Tok) : DIn N (Value.int i t) (D.int i)
  | tup {a : Addr} {o : Obj} {vs : List Value} {n : Nat} {ds : List D} : N a o → o.cls = .type "tuple" → o.data = .seq vs.toArray n → DAll N vs ds → DIn N (Value.ref a) (D.tup ds)
  | lst {a : Addr} {o : Obj} {vs : List Value} {n : Nat} {ds : List D} : N a o → o.cls = .type "list" → o.dict = Option.none → o.data = .seq vs.toArray n → DAll N vs ds → DIn N (Value.ref a) (D.lst ds)
  | obj {x dx C : Addr} {es : List DictEntry} {n : Nat} {ns : List Str} {vs : List Value} {ds : List D} : N x (instObj C dx) → N dx (dictOf es n) → FieldsAre es ns vs → DAll N vs ds → DIn N (Value.ref x) (D.obj C ns ds)
  | dct {a : Addr} {o : Obj} {kvs : List (List Int × Int)} : (a == sysModules) = false → N a o → DctOb prog w N o kvs → DIn N (Value.ref a) (D.dct kvs)
  | src {a : Addr} : a ∈ S → DIn N (Value.ref a) D.src
  | adr (a : Addr) : DIn N (Value.ref a) (D.adr a)
  | rng {r : Addr} {a b : Int} (t u v : Tok) : N r { cls := .type "range", dict := none, data := .fields #[.int a t, .int b u, .int 1 v], slots := #[] } → DIn N (Value.ref r) (D.rng a b)
inductive DAll (N : Facts) : List Value → List D → Prop
  | nil : DAll N [] []
  | cons {v : Value} {vs : List Value} {d : D} {ds : List D} : DIn N v d → DAll N vs ds → DAll N (v :: vs) (d :: ds)
end
end
section
variable {prog : Program} {w : World} {S : List Addr}
theorem DctOb.mono {N N' : Facts} {o : Obj} {kvs : List (List Int × Int)} (h : DctOb prog w N o kvs) (hs : Sub N N') : DctOb prog w N' o kvs := by
  obtain ⟨xs, es, ep, h1, h2, h3, h4, h5⟩ := h
  refine ⟨xs, es, ep, h1, h2, h3, fun x hx => ?_, h5⟩
  obtain ⟨ok, vs, n, a, b⟩ := h4 x hx
  exact ⟨ok, vs, n, hs _ _ a, b⟩
mutual
theorem DIn.mono {N N' : Facts} (hs : Sub N N') : ∀ {v : Value} {d : D}, DIn prog w S N v d → DIn prog w S N' v d
  | _, _, .none => .none
  | _, _, .bool b => .bool b
  | _, _, .int i t => .int i t
  | _, _, .tup h c e r => .tup (hs _ _ h) c e (DAll.mono hs r)
  | _, _, .lst h c q e r => .lst (hs _ _ h) c q e (DAll.mono hs r)
  | _, _, .obj h k f r => .obj (hs _ _ h) (hs _ _ k) f (DAll.mono hs r)
  | _, _, .dct q h k => .dct q (hs _ _ h) (k.mono hs)
  | _, _, .src h => .src h
  | _, _, .adr a => .adr a
  | _, _, .rng t u v h => .rng t u v (hs _ _ h)
theorem DAll.mono {N N' : Facts} (hs : Sub N N') : ∀ {vs : List Value} {ds : List D}, DAll prog w S N vs ds → DAll prog w S N' vs ds
  | _, _, .nil => .nil
  | _, _, .cons h r => .cons (DIn.mono hs h) (DAll.mono hs r)
end
theorem DAll.length {N : Facts} {vs : List Value} {ds : List D} (h : DAll prog w S N vs ds) : vs.length = ds.length := by
  induction vs generalizing ds with
  | nil => cases h; rfl
  | cons v vs ih => cases h with | cons _ r => rw [List.length_cons, List.length_cons, ih r]
theorem DAll.append {N : Facts} {vs ws : List Value} {ds es : List D} (h : DAll prog w S N vs ds) (k : DAll prog w S N ws es) : DAll prog w S N (vs ++ ws) (ds ++ es) := by
  induction vs generalizing ds with
  | nil => cases h; exact k
  | cons v vs ih => cases h with | cons h r => exact .cons h (ih r)
theorem DAll.get {N : Facts} {vs : List Value} {ds : List D} (h : DAll prog w S N vs ds) {k : Nat} {d : D} (hk : ds[k]? = some d) : ∃ v, vs[k]? = some v ∧ DIn prog w S N v d := by
  induction vs generalizing ds k with
  | nil => cases h; simp at hk
  | cons v vs ih =>
    cases h with
    | cons h r =>
      cases k with
      | zero => simp at hk; subst hk; exact ⟨v, rfl, h⟩
      | succ k => exact ih r (by simpa using hk)
theorem DAll.get' {N : Facts} {vs : List Value} {ds : List D} (h : DAll prog w S N vs ds) {k : Nat} {v : Value} (hk : vs[k]? = some v) : ∃ d, ds[k]? = some d ∧ DIn prog w S N v d := by
  induction vs generalizing ds k with
  | nil => simp at hk
  | cons u vs ih =>
    cases h with
    | cons h r =>
      cases k with
      | zero => simp at hk; subst hk; exact ⟨_, rfl, h⟩
      | succ k => exact ih r (by simpa using hk)
theorem DAll.take {N : Facts} {vs : List Value} {ds : List D} (h : DAll prog w S N vs ds) : ∀ k, DAll prog w S N (vs.take k) (ds.take k) := by
  induction vs generalizing ds with
  | nil => cases h; intro k; simpa using DAll.nil
  | cons v vs ih =>
    cases h with
    | cons h r =>
      intro k
      cases k with
      | zero => simpa using DAll.nil
      | succ k => simpa using DAll.cons h (ih r k)
theorem DAll.drop {N : Facts} {vs : List Value} {ds : List D} (h : DAll prog w S N vs ds) : ∀ k, DAll prog w S N (vs.drop k) (ds.drop k) := by
  induction vs generalizing ds with
  | nil => cases h; intro k; simpa using DAll.nil
  | cons v vs ih =>
    intro k
    cases k with
    | zero => simpa using h
    | succ k => cases h with | cons h r => simpa using ih r k
theorem DAll.one {N : Facts} {v : Value} {d : D} (h : DIn prog w S N v d) : DAll prog w S N [v] [d] := .cons h .nil
theorem DIn.int_cases {N : Facts} {i : Int} {motive : ∀ v, DIn prog w S N v (.int i) → Prop} (mk : ∀ t, motive (.int i t) (.int i t)) {v : Value} (x : DIn prog w S N v (.int i)) : motive v x := by cases x; exact mk _
theorem DIn.src_cases {N : Facts} {motive : ∀ v, DIn prog w S N v .src → Prop} (mk : ∀ a (h : a ∈ S), motive (.ref a) (.src h)) {v : Value} (x : DIn prog w S N v .src) : motive v x := by cases x with | src h => exact mk _ h
theorem DIn.adr_cases {N : Facts} {a : Addr} {motive : ∀ v, DIn prog w S N v (.adr a) → Prop} (mk : motive (.ref a) (.adr a)) {v : Value} (x : DIn prog w S N v (.adr a)) : motive v x := by cases x; exact mk
theorem DIn.tup_cases {N : Facts} {ds : List D} {motive : ∀ v, DIn prog w S N v (.tup ds) → Prop} (mk : ∀ (a : Addr) (o : Obj) (vs : List Value) (n : Nat) (h : N a o) (c : o.cls = .type "tuple") (e : o.data = .seq vs.toArray n) (r : DAll prog w S N vs ds), motive (.ref a) (.tup h c e r)) {v : Value} (x : DIn prog w S N v (.tup ds)) : motive v x := by cases x with | tup h c e r => exact mk _ _ _ _ h c e r
theorem DIn.lst_cases {N : Facts} {ds : List D} {motive : ∀ v, DIn prog w S N v (.lst ds) → Prop} (mk : ∀ (a : Addr) (o : Obj) (vs : List Value) (n : Nat) (h : N a o) (c : o.cls = .type "list") (q : o.dict = Option.none) (e : o.data = .seq vs.toArray n) (r : DAll prog w S N vs ds), motive (.ref a) (.lst h c q e r)) {v : Value} (x : DIn prog w S N v (.lst ds)) : motive v x := by cases x with | lst h c q e r => exact mk _ _ _ _ h c q e r
theorem DIn.obj_cases {N : Facts} {C : Addr} {ns : List Str} {ds : List D} {motive : ∀ v, DIn prog w S N v (.obj C ns ds) → Prop} (mk : ∀ (x dx : Addr) (es : List DictEntry) (n : Nat) (vs : List Value) (h : N x (instObj C dx)) (k : N dx (dictOf es n)) (f : FieldsAre es ns vs) (r : DAll prog w S N vs ds), motive (.ref x) (.obj h k f r)) {v : Value} (x : DIn prog w S N v (.obj C ns ds)) : motive v x := by cases x with | obj h k f r => exact mk _ _ _ _ _ h k f r
end
/-- the heap at a point: hb the base, U what is held apart (frames, things in the making), N what stands fast, S the sources -/
structure Hp (hb : Heap) (S : List Addr) (U : Led) (N : Facts) (h : Heap) : Prop where
  base : ∀ b o, hb.get? b = some o → N b o
  led : ∀ a o, N a o → h.get? a = some o
  ledU : ∀ p ∈ U, h.get? p.1 = some p.2
  nodup : (U.map (·.1)).Nodup
  off : ∀ a o, N a o → a ∉ U.map (·.1)
  src : ∀ a ∈ S, (∃ o, h.get? a = some o ∧ IsSrc o) ∧ a ∉ U.map (·.1) ∧ ∀ o, ¬ N a o
theorem Hp.keep {hb : Heap} {S : List Addr} {U : Led} {N : Facts} {h : Heap} (H : Hp hb S U N h) : ∀ b o, hb.get? b = some o → h.get? b = some o := fun b o e => H.led _ _ (H.base b o e)
/-- nothing that stood is changed: the same facts hold -/
theorem Hp.keeps {hb : Heap} {S : List Addr} {U : Led} {N : Facts} {h h' : Heap} (H : Hp hb S U N h) (k : ∀ b o, h.get? b = some o → h'.get? b = some o) : Hp hb S U N h' :=
  ⟨H.base, fun a o x => k _ _ (H.led a o x), fun p hp => k _ _ (H.ledU p hp), H.nodup, H.off, fun a ha => let ⟨⟨o, e, i⟩, r⟩ := H.src a ha; ⟨⟨o, k _ _ e, i⟩, r⟩⟩
noncomputable def addF (N : Facts) (a : Addr) (o : Obj) : Facts := fun b x => N b x ∨ (b = a ∧ x = o)
theorem sub_addF {N : Facts} {a : Addr} {o : Obj} : Sub N (addF N a o) := fun _ _ h => .inl h
theorem addF_new {N : Facts} {a : Addr} {o : Obj} : addF N a o a o := .inr ⟨rfl, rfl⟩
/-- an object that is new to U and S may be added to what stands fast -/
theorem Hp.add {hb : Heap} {S : List Addr} {U : Led} {N : Facts} {h : Heap} {a : Addr} {o : Obj} (H : Hp hb S U N h) (ho : h.get? a = some o) (hU : a ∉ U.map (·.1)) (hS : a ∉ S) : Hp hb S U (addF N a o) h :=
  ⟨fun b x e => .inl (H.base b x e), fun b x hx => hx.elim (H.led b x) fun ⟨e1, e2⟩ => by rw [e1, e2]; exact ho, H.ledU, H.nodup, fun b x hx => hx.elim (H.off b x) fun ⟨e1, _⟩ => by rw [e1]; exact hU,
    fun b hb' => ⟨(H.src b hb').1, (H.src b hb').2.1, fun x hx => hx.elim ((H.src b hb').2.2 x) fun ⟨e1, _⟩ => hS (e1 ▸ hb')⟩⟩
theorem Hp.freshU {hb : Heap} {S : List Addr} {U : Led} {N : Facts} {h : Heap} (H : Hp hb S U N h) {a : Addr} (ha : h.get? a = none) : a ∉ U.map (·.1) := fun hm => by
  obtain ⟨p, hp, rfl⟩ := List.mem_map.mp hm
  rw [H.ledU p hp] at ha; cases ha
theorem Hp.freshS {hb : Heap} {S : List Addr} {U : Led} {N : Facts} {h : Heap} (H : Hp hb S U N h) {a : Addr} (ha : h.get? a = none) : a ∉ S := fun hm => by
  obtain ⟨⟨o, e, _⟩, _⟩ := H.src a hm
  rw [e] at ha; cases ha
theorem get_none_size (h : Heap) : h.get? h.objs.size = none := by
  cases e : h.get? h.objs.size with
  | none => rfl
  | some o => exact absurd (Heap.lt_size e) (Nat.lt_irrefl _)
/-- a push: the new object stands fast -/
theorem Hp.push {hb : Heap} {S : List Addr} {U : Led} {N : Facts} {h : Heap} (H : Hp hb S U N h) (o : Obj) (hf : o.isFreed = false := by rfl) : Hp hb S U (addF N h.objs.size o) (h.push o) :=
  (H.keeps fun _ _ e => Heap.get?_push_of_some _ e).add (Heap.get?_push_size _ hf) (H.freshU (get_none_size h)) (H.freshS (get_none_size h))
/-- a new object held apart -/
theorem Hp.pushU {hb : Heap} {S : List Addr} {U : Led} {N : Facts} {h : Heap} (H : Hp hb S U N h) (o : Obj) (hf : o.isFreed = false := by rfl) : Hp hb S ((h.objs.size, o) :: U) N (h.push o) := by
  have k := H.keeps (h' := h.push o) fun _ _ e => Heap.get?_push_of_some _ e
  refine ⟨k.base, k.led, fun p hp => ?_, ?_, fun a x hx hm => ?_, fun a ha => ⟨(k.src a ha).1, fun hm => ?_, (k.src a ha).2.2⟩⟩
  · rcases List.mem_cons.mp hp with rfl | hp
    · exact Heap.get?_push_size _ hf
    · exact k.ledU p hp
  · rw [List.map_cons, List.nodup_cons]; exact ⟨H.freshU (get_none_size h), k.nodup⟩
  · rcases List.mem_cons.mp (by simpa using hm : a ∈ h.objs.size :: U.map (·.1)) with e | hm
    · subst e; have := H.led _ _ hx; rw [get_none_size] at this; cases this
    · exact k.off a x hx hm
  · rcases List.mem_cons.mp (by simpa using hm : a ∈ h.objs.size :: U.map (·.1)) with e | hm
    · subst e; exact H.freshS (get_none_size h) ha
    · exact (k.src a ha).2.1 hm
/-- the head of U is written anew -/
theorem Hp.setU {hb : Heap} {S : List Addr} {U V : Led} {N : Facts} {h h' : Heap} {a : Addr} {o o' : Obj} (H : Hp hb S (V ++ (a, o) :: U) N h) (hs : Heap.SameBut a h h') (ho : h'.get? a = some o') : Hp hb S (V ++ (a, o') :: U) N h' := by
  have em : (V ++ (a, o') :: U).map (·.1) = (V ++ (a, o) :: U).map (·.1) := by simp
  have nd := H.nodup
  have hne : ∀ p ∈ V ++ U, p.1 ≠ a := by
    intro p hp e
    simp only [List.map_append, List.map_cons, List.nodup_append, List.nodup_cons] at nd
    obtain ⟨_, ⟨n1, _⟩, n2⟩ := nd
    rcases List.mem_append.mp hp with hp | hp
    · exact n2 p.1 (List.mem_map_of_mem hp) a (List.mem_cons_self ..) e
    · exact n1 (e ▸ List.mem_map_of_mem hp)
  refine ⟨H.base, fun b x hx => ?_, fun p hp => ?_, by rw [em]; exact nd, fun b x hx => by rw [em]; exact H.off b x hx, fun b hb' => ?_⟩
  · have : b ≠ a := fun e => H.off b x hx (by rw [e]; simp)
    exact (hs.2 b this).trans (H.led b x hx)
  · rcases List.mem_append.mp hp with hp | hp
    · exact (hs.2 _ (hne p (List.mem_append_left _ hp))).trans (H.ledU p (List.mem_append_left _ hp))
    · rcases List.mem_cons.mp hp with rfl | hp
      · exact ho
      · exact (hs.2 _ (hne p (List.mem_append_right _ hp))).trans (H.ledU p (List.mem_append_right _ (.tail _ hp)))
  · obtain ⟨⟨x, e, i⟩, h2, h3⟩ := H.src b hb'
    have : b ≠ a := fun e => h2 (by rw [e]; simp)
    exact ⟨⟨x, (hs.2 b this).trans e, i⟩, by rw [em]; exact h2, h3⟩
/-- what was held apart is let stand fast -/
theorem Hp.freeze {hb : Heap} {S : List Addr} {U V : Led} {N : Facts} {h : Heap} {a : Addr} {o : Obj} (H : Hp hb S (V ++ (a, o) :: U) N h) : Hp hb S (V ++ U) (addF N a o) h := by
  have nd := H.nodup
  simp only [List.map_append, List.map_cons, List.nodup_append, List.nodup_cons] at nd
  obtain ⟨n0, ⟨n1, n3⟩, n2⟩ := nd
  have sub : ∀ b, b ∈ (V ++ U).map (·.1) → b ∈ (V ++ (a, o) :: U).map (·.1) := fun b hb => by
    simp only [List.map_append, List.map_cons, List.mem_append, List.mem_cons] at hb ⊢
    rcases hb with hb | hb
    · exact .inl hb
    · exact .inr (.inr hb)
  refine ⟨fun b x e => .inl (H.base b x e), fun b x hx => hx.elim (H.led b x) fun ⟨e1, e2⟩ => ?_, fun p hp => H.ledU p ?_, ?_, fun b x hx hm => ?_, fun b hb' => ⟨(H.src b hb').1, fun hm => (H.src b hb').2.1 (sub b hm), fun x hx => ?_⟩⟩
  · rw [e1, e2]; exact H.ledU (a, o) (by simp)
  · rcases List.mem_append.mp hp with hp | hp
    · exact List.mem_append_left _ hp
    · exact List.mem_append_right _ (.tail _ hp)
  · rw [List.map_append, List.nodup_append]
    exact ⟨n0, n3, fun x hx y hy => n2 x hx y (List.mem_cons_of_mem _ hy)⟩
  · rcases hx with hx | ⟨e1, _⟩
    · exact H.off b x hx (sub b hm)
    · subst e1
      rw [List.map_append] at hm
      rcases List.mem_append.mp hm with hm | hm
      · exact n2 b hm b (List.mem_cons_self ..) rfl
      · exact n1 hm
  · rcases hx with hx | ⟨e1, _⟩
    · exact (H.src b hb').2.2 x hx
    · exact (H.src b hb').2.1 (by rw [e1]; simp)
/-- a part of what is held apart is forgotten -/
theorem Hp.drop {hb : Heap} {S : List Addr} {U V W : Led} {N : Facts} {h : Heap} (H : Hp hb S (V ++ (W ++ U)) N h) : Hp hb S (V ++ U) N h := by
  have sub : ∀ p, p ∈ V ++ U → p ∈ V ++ (W ++ U) := fun p hp => by
    rcases List.mem_append.mp hp with hp | hp
    · exact List.mem_append_left _ hp
    · exact List.mem_append_right _ (List.mem_append_right _ hp)
  have subA : ∀ b, b ∈ (V ++ U).map (·.1) → b ∈ (V ++ (W ++ U)).map (·.1) := fun b hb => by
    obtain ⟨p, hp, rfl⟩ := List.mem_map.mp hb
    exact List.mem_map_of_mem (sub p hp)
  have nd := H.nodup
  simp only [List.map_append, List.nodup_append] at nd
  obtain ⟨n0, ⟨_, n1, _⟩, n2⟩ := nd
  refine ⟨H.base, H.led, fun p hp => H.ledU p (sub p hp), ?_, fun b x hx hm => H.off b x hx (subA b hm), fun b hb' => ⟨(H.src b hb').1, fun hm => (H.src b hb').2.1 (subA b hm), (H.src b hb').2.2⟩⟩
  rw [List.map_append, List.nodup_append]
  exact ⟨n0, n1, fun x hx y hy => n2 x hx y (List.mem_append_right _ hy)⟩
theorem Hp.perm {hb : Heap} {S : List Addr} {U V : Led} {N : Facts} {h : Heap} (H : Hp hb S U N h) (p : U.Perm V) : Hp hb S V N h := by
  have pm := p.map (·.1)
  exact ⟨H.base, H.led, fun q hq => H.ledU q (p.mem_iff.mpr hq), pm.nodup_iff.mp H.nodup, fun b x hx hm => H.off b x hx (pm.mem_iff.mpr hm), fun b hb' => ⟨(H.src b hb').1, fun hm => (H.src b hb').2.1 (pm.mem_iff.mpr hm), (H.src b hb').2.2⟩⟩
theorem post_use {prog : Program} {w : World} {α : Type} {A : Around} {E : Value → Shared → Prop} {t : Sem α} {s : Shared} {N : Facts} {R : α → Heap → Facts → Prop} {Q : α → Shared → Prop}
    (x : wpAny (model prog w) A t (fun a s' => ∃ h tk N', s' = { s with heap := h, toks := tk } ∧ Sub N N' ∧ R a h N') E s)
    (k : ∀ a h tk N', Sub N N' → R a h N' → Q a { s with heap := h, toks := tk }) : wpAny (model prog w) A t Q E s :=
  wpAny_mono x (fun a s' y => by obtain ⟨h, tk, N', rfl, sb, r⟩ := y; exact k a h tk N' sb r) fun _ _ e => e
theorem post_mk {s : Shared} {N N' : Facts} {h : Heap} {tk : Nat} {R : Heap → Facts → Prop} (sb : Sub N N') (r : R h N') : ∃ h' tk' N'', ({ s with heap := h, toks := tk } : Shared) = { s with heap := h', toks := tk' } ∧ Sub N N'' ∧ R h' N'' := ⟨h, tk, N', rfl, sb, r⟩
theorem use2 {prog : Program} {w : World} {α : Type} {A : Around} {E : Value → Shared → Prop} {t : Sem α} {s : Shared} {N : Facts} {P : Facts → Heap → Prop} {R : α → Facts → Heap → Prop} {Q : α → Shared → Prop}
    (x : wpAny (model prog w) A t (fun a s' => ∃ h tk N', s' = { s with heap := h, toks := tk } ∧ Sub N N' ∧ P N' h ∧ R a N' h) E s)
    (k : ∀ a h tk N', Sub N N' → P N' h → R a N' h → Q a { s with heap := h, toks := tk }) : wpAny (model prog w) A t Q E s :=
  post_use x fun a h tk N' sb y => k a h tk N' sb y.1 y.2
theorem ev_use {prog : Program} {w : World} {α β : Type} {A : Around} {E : Value → Shared → Prop} {t : Sem α} {s : Shared} {N : Facts} {P : Facts → Heap → Prop} {I : α → β → Facts → Prop} {K : β → Prop} {Q : α → Shared → Prop}
    (x : wpAny (model prog w) A t (fun a s' => ∃ h tk N', s' = { s with heap := h, toks := tk } ∧ Sub N N' ∧ P N' h ∧ ∃ d, I a d N' ∧ K d) E s)
    (k : ∀ a h tk N' d, Sub N N' → P N' h → I a d N' → K d → Q a { s with heap := h, toks := tk }) : wpAny (model prog w) A t Q E s :=
  post_use x fun a h tk N' sb y => by obtain ⟨p, d, i, q⟩ := y; exact k a h tk N' d sb p i q
noncomputable abbrev NsOb := LCg.NsObj
/-- the frame's own objects, and what its names hold -/
structure Frame (env : Env) (own : List Str) (m : Str → Option Value) (F U : Led) : Prop where
  hk : env.scope.kind = .function
  hg : env.globals = mainGlobals
  hb : env.builtins = builtinsNs
  loc : ∃ o ml, (env.locals, o) ∈ F ∧ NsOb o ml ∧ ∀ x, env.kindOf x = some .local → ml x = m x
  cel : ∀ x, (env.kindOf x = some .cell ∨ env.kindOf x = some .free) → ∃ c o, env.cells.lookup x = some c ∧ (c, o) ∈ F ++ U ∧ o.data = .cell (m x)
  ownc : ∀ x ∈ own, env.kindOf x = some .cell ∧ ∃ c o, env.cells.lookup x = some c ∧ (c, o) ∈ F ∧ o.data = .cell (m x)
  inj : ∀ x y c, env.cells.lookup x = some c → env.cells.lookup y = some c → x = y
noncomputable def updm (m : Str → Option Value) (x : Str) (v : Value) : Str → Option Value := fun y => if y = x then some v else m y
theorem mem_mid {α : Type} {pre post : List α} {x y p : α} (h : p ∈ pre ++ x :: post) (hne : p ≠ x) : p ∈ pre ++ y :: post := by
  rcases List.mem_append.mp h with h | h
  · exact List.mem_append_left _ h
  · rcases List.mem_cons.mp h with h | h
    · exact absurd h hne
    · exact List.mem_append_right _ (.tail _ h)
section
variable {M : Model} {A : Around} {E : Value → Shared → Prop} {s : Shared} {env : Env} {own : List Str} {m : Str → Option Value} {F R U : Led} {hb : Heap} {S : List Addr} {N : Facts} {x : Str} {v : Value}
theorem led_fun {h : Heap} (H : Hp hb S (F ++ R) N h) {a : Addr} {o o' : Obj} (h1 : (a, o) ∈ F ++ R) (h2 : (a, o') ∈ F ++ R) : o = o' := by
  have e1 := H.ledU _ h1
  have e2 := H.ledU _ h2
  exact Option.some.inj (e1.symm.trans e2)
theorem Frame.store {Q : Unit → Shared → Prop} (Fm : Frame env own m F U) (hU : ∀ p ∈ U, p ∈ R) (H : Hp hb S (F ++ R) N s.heap) (hx : env.kindOf x = some .local ∨ x ∈ own)
    (h : ∀ h' tk F', Frame env own (updm m x v) F' U → Hp hb S (F' ++ R) N h' → Q () { s with heap := h', toks := tk }) : wpAny M A (storeName env x v) Q E s := by
  have kd : ∀ y, y ∈ own → env.kindOf y = some .cell := fun y hy => (Fm.ownc y hy).1
  rcases hx with hx | hx
  · obtain ⟨o, ml, hm, hn, hl⟩ := Fm.loc
    have hxc : x ∉ own := fun q => by have := kd x q; rw [hx] at this; cases this
    refine wpAny_storeName_local hx (hn.ns (H.ledU _ (List.mem_append_left _ hm))) (fun h' hn' hs => ?_) (by rw [Fm.hk]; rfl)
    obtain ⟨o', e', hn''⟩ := LCg.ns_obj hn'
    obtain ⟨pre, post, rfl⟩ := List.append_of_mem hm
    have H' : Hp hb S ((pre ++ (env.locals, o') :: post) ++ R) N h' := by
      rw [List.append_assoc] at H ⊢
      exact Hp.setU H hs e'
    have cne : ∀ c oc, (c, oc) ∈ (pre ++ (env.locals, o) :: post) ++ R → (∃ z, oc.data = .cell z) → (c, oc) ≠ (env.locals, o) := by
      rintro c oc _ ⟨z, hz⟩ e
      cases e
      obtain ⟨es, ep, hd, _⟩ := hn
      rw [hd] at hz; cases hz
    have hmx : ∀ y, y ≠ x → updm m x v y = m y := fun y hy => if_neg hy
    refine h h' _ _ ⟨Fm.hk, Fm.hg, Fm.hb, ⟨o', _, List.mem_append_right _ (.head _), hn'', fun y hy => ?_⟩, fun y hy => ?_, fun y hy => ⟨kd y hy, ?_⟩, Fm.inj⟩ H'
    · by_cases e : y = x
      · subst e; simp [updm]
      · rw [hmx y e]; simp only [if_neg e]; exact hl y hy
    · have hyx : y ≠ x := fun e => by subst e; rw [hx] at hy; rcases hy with hy | hy <;> cases hy
      obtain ⟨c, oc, h1, h2, h3⟩ := Fm.cel y hy
      refine ⟨c, oc, h1, ?_, by rw [hmx y hyx]; exact h3⟩
      rcases List.mem_append.mp h2 with h2 | h2
      · exact List.mem_append_left _ (mem_mid h2 (cne c oc (List.mem_append_left _ h2) ⟨_, h3⟩))
      · exact List.mem_append_right _ h2
    · have hyx : y ≠ x := fun e => hxc (e ▸ hy)
      obtain ⟨_, c, oc, h1, h2, h3⟩ := Fm.ownc y hy
      exact ⟨c, oc, h1, mem_mid h2 (cne c oc (List.mem_append_left _ h2) ⟨_, h3⟩), by rw [hmx y hyx]; exact h3⟩
  · obtain ⟨hxk, c, oc, h1, h2, h3⟩ := Fm.ownc x hx
    refine wpAny_storeName_cell Fm.hk hxk h1 ⟨oc, H.ledU _ (List.mem_append_left _ h2), h3⟩ fun h' ⟨o', e', hd'⟩ hs => ?_
    obtain ⟨pre, post, rfl⟩ := List.append_of_mem h2
    have H' : Hp hb S ((pre ++ (c, o') :: post) ++ R) N h' := by
      rw [List.append_assoc] at H ⊢
      exact Hp.setU H hs e'
    have hmx : ∀ y, y ≠ x → updm m x v y = m y := fun y hy => if_neg hy
    have hxx : updm m x v x = some v := if_pos rfl
    have cel : ∀ y, (env.kindOf y = some .cell ∨ env.kindOf y = some .free) → ∃ c₁ o₁, env.cells.lookup y = some c₁ ∧ (c₁, o₁) ∈ (pre ++ (c, o') :: post) ++ U ∧ o₁.data = .cell (updm m x v y) := fun y hy => by
      by_cases e : y = x
      · subst e
        exact ⟨c, o', h1, List.mem_append_left _ (List.mem_append_right _ (.head _)), by rw [hxx]; exact hd'⟩
      · obtain ⟨c₁, o₁, g1, g2, g3⟩ := Fm.cel y hy
        refine ⟨c₁, o₁, g1, ?_, by rw [hmx y e]; exact g3⟩
        rcases List.mem_append.mp g2 with g2 | g2
        · refine List.mem_append_left _ (mem_mid g2 fun q => e ?_)
          cases q
          exact Fm.inj y x c g1 h1
        · exact List.mem_append_right _ g2
    refine h h' s.toks _ ⟨Fm.hk, Fm.hg, Fm.hb, ?_, cel, fun y hy => ⟨kd y hy, ?_⟩, Fm.inj⟩ H'
    · obtain ⟨o, ml, hm, hn, hl⟩ := Fm.loc
      refine ⟨o, ml, mem_mid hm fun q => ?_, hn, fun y hy => ?_⟩
      · cases q
        obtain ⟨es, ep, hd, _⟩ := hn
        rw [hd] at h3; cases h3
      · have hyx : y ≠ x := fun e => by subst e; rw [hxk] at hy; cases hy
        rw [hmx y hyx]; exact hl y hy
    · by_cases e : y = x
      · subst e
        exact ⟨c, o', h1, List.mem_append_right _ (.head _), by rw [hxx]; exact hd'⟩
      · obtain ⟨_, c₁, o₁, g1, g2, g3⟩ := Fm.ownc y hy
        refine ⟨c₁, o₁, g1, mem_mid g2 fun q => e ?_, by rw [hmx y e]; exact g3⟩
        cases q
        exact Fm.inj y x c g1 h1
theorem Frame.read {pos : Pos} {Q : Value → Shared → Prop} (Fm : Frame env own m F U) (hU : ∀ p ∈ U, p ∈ R) (H : Hp hb S (F ++ R) N s.heap) (hx : env.kindOf x = some .local ∨ env.kindOf x = some .cell ∨ env.kindOf x = some .free) (hv : m x = some v) (h : Q v s)
    (hd : (x == ("__debug__" : Str)) = false) (hn : (x == ("__classdict__" : Str)) = false) : wpAny M A (eval (.Name x pos) env) Q E s := by
  refine wpAny_Name ?_ hd
  rcases hx with hx | hx
  · obtain ⟨o, ml, hm, hn, hl⟩ := Fm.loc
    exact wpAny_loadName_local Fm.hk hx (hn.ns (H.ledU _ (List.mem_append_left _ hm))) ((hl x hx).trans hv) h
  · obtain ⟨c, o, h1, h2, h3⟩ := Fm.cel x hx
    have hc : s.heap.IsCell c (some v) := ⟨o, H.ledU _ ((List.mem_append.mp h2).elim (fun q => List.mem_append_left _ q) fun q => List.mem_append_right _ (hU _ q)), by rw [h3, hv]⟩
    rcases hx with hx | hx
    · exact wpAny_loadName_cell Fm.hk hx h1 hc h
    · exact wpAny_loadName_free Fm.hk hx h1 hc h hn
end
/-- things of a frame in the making -/
inductive MD where
  | lst (a : Addr) (ds : List D)
  | dct (a : Addr) (kvs : List (List Int × Int))
  | inst (x dx C : Addr) (ns : List Str) (ds : List D)
/-- where a body runs -/
structure Cx where
  hb : Heap
  S : List Addr
  A : Around
  env : Env
  own : List Str
  U : Led
section
variable (prog : Program) (w : World)
noncomputable def MOb (S : List Addr) (N : Facts) : MD → Led → Prop
  | .lst a ds, L => ∃ vs n, L = [(a, listOf vs.toArray n)] ∧ DAll prog w S N vs ds
  | .dct a kvs, L => ∃ o, (a == sysModules) = false ∧ L = [(a, o)] ∧ DctOb prog w N o kvs
  | .inst x dx C ns ds, L => ∃ es n vs, L = [(x, instObj C dx), (dx, dictOf es n)] ∧ FieldsAre es ns vs ∧ es.length = ns.length ∧ DAll prog w S N vs ds
noncomputable def MIn (S : List Addr) (N : Facts) : List MD → Led → Prop
  | [], L => L = []
  | d :: r, L => ∃ L₁ L₂, L = L₁ ++ L₂ ∧ MOb prog w S N d L₁ ∧ MIn S N r L₂
noncomputable def RhoIs (S : List Addr) (N : Facts) (ρ : Rho) (m : Str → Option Value) : Prop := ∀ x d, ρ.lookup x = some d → ∃ v, m x = some v ∧ DIn prog w S N v d
noncomputable def St (cx : Cx) (mu : List MD) (ρ : Rho) (N : Facts) (h : Heap) : Prop :=
  ∃ m F L, Frame cx.env cx.own m F cx.U ∧ MIn prog w cx.S N mu L ∧ Hp cx.hb cx.S (F ++ (L ++ cx.U)) N h ∧ RhoIs prog w cx.S N ρ m
/-- a triple over the heap alone -/
noncomputable def TrH {α : Type} (hb : Heap) (S : List Addr) (A : Around) (N : Facts) (t : Sem α) (K : α → Facts → Prop) : Prop :=
  ∀ U s E, Hp hb S U N s.heap → wpAny (model prog w) A t (fun a s' => ∃ h tk N', s' = { s with heap := h, toks := tk } ∧ Sub N N' ∧ Hp hb S U N' h ∧ K a N') E s
noncomputable def Tr {α : Type} (cx : Cx) (mu : List MD) (ρ : Rho) (N : Facts) (t : Sem α) (K : α → Facts → Prop) : Prop :=
  ∀ s E, St prog w cx mu ρ N s.heap → wpAny (model prog w) cx.A t (fun a s' => ∃ h tk N', s' = { s with heap := h, toks := tk } ∧ Sub N N' ∧ St prog w cx mu ρ N' h ∧ K a N') E s
noncomputable def Is (S : List Addr) (K : D → Prop) (v : Value) (N : Facts) : Prop := ∃ d, DIn prog w S N v d ∧ K d
noncomputable def EvP (cx : Cx) (mu : List MD) (ρ : Rho) (e : Expr) (K : D → Prop) : Prop := ∀ N, Tr prog w cx mu ρ N (eval e cx.env) (Is prog w cx.S K)
/-- a test -/
noncomputable def TsP (cx : Cx) (mu : List MD) (ρ : Rho) (e : Expr) (K : Bool → Prop) : Prop := ∀ N, Tr prog w cx mu ρ N (isTrue e cx.env (eval e cx.env)) (fun b _ => K b)
noncomputable def Op1 (hb : Heap) (S : List Addr) (A : Around) (f : Value → Sem Value) (a : D) (K : D → Prop) : Prop := ∀ N u, DIn prog w S N u a → TrH prog w hb S A N (f u) (Is prog w S K)
noncomputable def Op2 (hb : Heap) (S : List Addr) (A : Around) (f : Value → Value → Sem Value) (a b : D) (K : D → Prop) : Prop := ∀ N u v, DIn prog w S N u a → DIn prog w S N v b → TrH prog w hb S A N (f u v) (Is prog w S K)
noncomputable def OpN (hb : Heap) (S : List Addr) (A : Around) (f : List Value → Sem Value) (ds : List D) (K : D → Prop) : Prop := ∀ N vs, DAll prog w S N vs ds → TrH prog w hb S A N (f vs) (Is prog w S K)
noncomputable def Truth (hb : Heap) (S : List Addr) (A : Around) (a : D) (K : Bool → Prop) : Prop := ∀ N u, DIn prog w S N u a → TrH prog w hb S A N (truthy u) (fun b _ => K b)
end
section
variable {prog : Program} {w : World} {cx : Cx} {mu : List MD} {ρ : Rho}
theorem MOb.mono {S : List Addr} {N N' : Facts} (hs : Sub N N') {d : MD} {L : Led} (h : MOb prog w S N d L) : MOb prog w S N' d L := by
  cases d with
  | lst a ds => obtain ⟨vs, n, e, h⟩ := h; exact ⟨vs, n, e, h.mono hs⟩
  | dct a kvs => obtain ⟨o, q, e, h⟩ := h; exact ⟨o, q, e, h.mono hs⟩
  | inst x dx C ns ds => obtain ⟨es, n, vs, e, h1, h2, h⟩ := h; exact ⟨es, n, vs, e, h1, h2, h.mono hs⟩
theorem MIn.mono {S : List Addr} {N N' : Facts} (hs : Sub N N') : ∀ {l : List MD} {L : Led}, MIn prog w S N l L → MIn prog w S N' l L
  | [], _, h => h
  | _ :: _, _, ⟨L₁, L₂, e, h, r⟩ => ⟨L₁, L₂, e, h.mono hs, MIn.mono hs r⟩
theorem RhoIs.mono {S : List Addr} {N N' : Facts} (hs : Sub N N') {m : Str → Option Value} (h : RhoIs prog w S N ρ m) : RhoIs prog w S N' ρ m := fun x d e => let ⟨v, a, b⟩ := h x d e; ⟨v, a, b.mono hs⟩
theorem TrH.tr {α : Type} {N : Facts} {t : Sem α} {K : α → Facts → Prop} (h : TrH prog w cx.hb cx.S cx.A N t K) : Tr prog w cx mu ρ N t K := by
  rintro s E ⟨m, F, L, Fm, Mi, H, R⟩
  refine wpAny_mono (h _ s E H) (fun a s' x => ?_) fun _ _ e => e
  obtain ⟨h', tk, N', e, sb, H', k⟩ := x
  exact ⟨h', tk, N', e, sb, ⟨m, F, L, Fm, Mi.mono sb, H', R.mono sb⟩, k⟩
theorem TrH.mono {α : Type} {hb : Heap} {S : List Addr} {A : Around} {N : Facts} {t : Sem α} {K K' : α → Facts → Prop} (h : TrH prog w hb S A N t K) (hk : ∀ a N', Sub N N' → K a N' → K' a N') : TrH prog w hb S A N t K' :=
  fun U s E H => wpAny_mono (h U s E H) (fun _ _ ⟨h', tk, N', e, sb, H', k⟩ => ⟨h', tk, N', e, sb, H', hk _ _ sb k⟩) fun _ _ e => e
theorem Tr.mono {α : Type} {N : Facts} {t : Sem α} {K K' : α → Facts → Prop} (h : Tr prog w cx mu ρ N t K) (hk : ∀ a N', Sub N N' → K a N' → K' a N') : Tr prog w cx mu ρ N t K' :=
  fun s E H => wpAny_mono (h s E H) (fun _ _ ⟨h', tk, N', e, sb, H', k⟩ => ⟨h', tk, N', e, sb, H', hk _ _ sb k⟩) fun _ _ e => e
theorem Tr.bind {α β : Type} {N : Facts} {t : Sem α} {f : α → Sem β} {K : β → Facts → Prop} (h : Tr prog w cx mu ρ N t (fun a N' => Tr prog w cx mu ρ N' (f a) K)) : Tr prog w cx mu ρ N (t >>= f) K := by
  intro s E H
  refine wpAny_bind (use2 (h s E H) fun a h' tk N' sb H' k => ?_)
  refine use2 (k _ E H') fun b h'' tk' N'' sb' H'' k' => ?_
  exact post_mk (sb.trans sb') ⟨H'', k'⟩
theorem TrH.bind {α β : Type} {hb : Heap} {S : List Addr} {A : Around} {N : Facts} {t : Sem α} {f : α → Sem β} {K : β → Facts → Prop} (h : TrH prog w hb S A N t (fun a N' => TrH prog w hb S A N' (f a) K)) : TrH prog w hb S A N (t >>= f) K := by
  intro U s E H
  refine wpAny_bind (use2 (h U s E H) fun a h' tk N' sb H' k => ?_)
  refine use2 (k U _ E H') fun b h'' tk' N'' sb' H'' k' => ?_
  exact post_mk (sb.trans sb') ⟨H'', k'⟩
/-- an end where only the tokens turned -/
theorem TrH.now {hb : Heap} {S : List Addr} {U : Led} {N : Facts} {s : Shared} {α : Type} {a : α} {K : α → Facts → Prop} (H : Hp hb S U N s.heap) (k : K a N) (tk : Nat) :
    ∃ h tk' N', ({ s with toks := tk } : Shared) = { s with heap := h, toks := tk' } ∧ Sub N N' ∧ Hp hb S U N' h ∧ K a N' := ⟨s.heap, tk, N, rfl, Sub.refl N, H, k⟩
theorem TrH.now' {hb : Heap} {S : List Addr} {U : Led} {N : Facts} {s : Shared} {α : Type} {a : α} {K : α → Facts → Prop} (H : Hp hb S U N s.heap) (k : K a N) :
    ∃ h tk' N', s = { s with heap := h, toks := tk' } ∧ Sub N N' ∧ Hp hb S U N' h ∧ K a N' := ⟨s.heap, s.toks, N, rfl, Sub.refl N, H, k⟩
theorem TrH.pure {α : Type} {hb : Heap} {S : List Addr} {A : Around} {N : Facts} {a : α} {K : α → Facts → Prop} (k : K a N) : TrH prog w hb S A N (Pure.pure a) K := fun _ _ _ H => wpAny_pure (TrH.now' H k)
theorem Tr.pure {α : Type} {N : Facts} {a : α} {K : α → Facts → Prop} (k : K a N) : Tr prog w cx mu ρ N (Pure.pure a) K := fun s _ H => wpAny_pure ⟨s.heap, s.toks, N, rfl, Sub.refl N, H, k⟩
theorem EvP.mono {e : Expr} {K K' : D → Prop} (h : EvP prog w cx mu ρ e K) (hk : ∀ d, K d → K' d) : EvP prog w cx mu ρ e K' := fun N => (h N).mono fun _ _ _ ⟨d, a, b⟩ => ⟨d, a, hk d b⟩
theorem TsP.mono {e : Expr} {K K' : Bool → Prop} (h : TsP prog w cx mu ρ e K) (hk : ∀ d, K d → K' d) : TsP prog w cx mu ρ e K' := fun N => (h N).mono fun _ _ _ b => hk _ b
-- names and constants
theorem EvP.int {i : Int} {k : Nat} {pos : Pos} {K : D → Prop} (h : K (.int i)) : EvP prog w cx mu ρ (.Constant (.int i) k pos) K :=
  fun N s E H => wpAny_Constant_int ⟨s.heap, s.toks + 1, N, rfl, Sub.refl N, H, _, .int i _, h⟩
theorem EvP.boolc {b : Bool} {k : Nat} {pos : Pos} {K : D → Prop} (h : K (.bool b)) : EvP prog w cx mu ρ (.Constant (.bool b) k pos) K :=
  fun N s E H => wpAny_Constant_bool ⟨s.heap, s.toks, N, rfl, Sub.refl N, H, _, .bool b, h⟩
theorem EvP.nonec {k : Nat} {pos : Pos} {K : D → Prop} (h : K .none) : EvP prog w cx mu ρ (.Constant .none k pos) K :=
  fun N s E H => wpAny_Constant_none ⟨s.heap, s.toks, N, rfl, Sub.refl N, H, _, .none, h⟩
theorem EvP.name {x : Str} {pos : Pos} {d : D} {K : D → Prop} (hl : ρ.lookup x = some d) (hx : cx.env.kindOf x = some .local ∨ cx.env.kindOf x = some .cell ∨ cx.env.kindOf x = some .free)
    (hd : (x == ("__debug__" : Str)) = false) (hn : (x == ("__classdict__" : Str)) = false) (h : K d) : EvP prog w cx mu ρ (.Name x pos) K := by
  rintro N s E ⟨m, F, L, Fm, Mi, H, R⟩
  obtain ⟨v, hv, hi⟩ := R x d hl
  exact Fm.read (R := L ++ cx.U) (fun p hp => List.mem_append_right _ hp) H hx hv ⟨s.heap, s.toks, N, rfl, Sub.refl N, ⟨m, F, L, Fm, Mi, H, R⟩, d, hi, h⟩ hd hn
-- operators
theorem now_is {hb : Heap} {S : List Addr} {U : Led} {N : Facts} {s : Shared} {tk : Nat} {v : Value} {d : D} {K : D → Prop} (H : Hp hb S U N s.heap) (i : DIn prog w S N v d) (k : K d) :
    ∃ h tk' N', ({ s with toks := tk } : Shared) = { s with heap := h, toks := tk' } ∧ Sub N N' ∧ Hp hb S U N' h ∧ Is prog w S K v N' := ⟨s.heap, tk, N, rfl, Sub.refl N, H, d, i, k⟩
theorem now_is0 {hb : Heap} {S : List Addr} {U : Led} {N : Facts} {s : Shared} {v : Value} {d : D} {K : D → Prop} (H : Hp hb S U N s.heap) (i : DIn prog w S N v d) (k : K d) :
    ∃ h tk' N', s = { s with heap := h, toks := tk' } ∧ Sub N N' ∧ Hp hb S U N' h ∧ Is prog w S K v N' := ⟨s.heap, s.toks, N, rfl, Sub.refl N, H, d, i, k⟩
theorem EvP.bin {l r : Expr} {op : Operator} {pos : Pos} {K : D → Prop} (h : EvP prog w cx mu ρ l fun a => EvP prog w cx mu ρ r fun b => Op2 prog w cx.hb cx.S cx.A (binaryOp op) a b K) : EvP prog w cx mu ρ (.BinOp l op r pos) K := by
  intro N s E H
  refine wpAny_BinOp (ev_use (h N s E H) fun a h₁ tk₁ N₁ d₁ sb₁ H₁ i₁ k₁ => ?_)
  refine ev_use (k₁ N₁ _ E H₁) fun b h₂ tk₂ N₂ d₂ sb₂ H₂ i₂ k₂ => ?_
  refine use2 ((k₂ N₂ a b (i₁.mono sb₂) i₂).tr _ E H₂) fun c h₃ tk₃ N₃ sb₃ H₃ k₃ => ?_
  exact post_mk ((sb₁.trans sb₂).trans sb₃) ⟨H₃, k₃⟩
theorem EvP.cmp {l r : Expr} {op : CmpOp} {pos : Pos} {K : D → Prop} (hm : behindInMarks op r = false) (h : EvP prog w cx mu ρ l fun a => EvP prog w cx mu ρ r fun b => Op2 prog w cx.hb cx.S cx.A (compareOp op) a b K) : EvP prog w cx mu ρ (.Compare l [op] [r] pos) K := by
  intro N s E H
  refine wpAny_Compare1 (ev_use (h N s E H) fun a h₁ tk₁ N₁ d₁ sb₁ H₁ i₁ k₁ => ?_) hm
  refine ev_use (k₁ N₁ _ E H₁) fun b h₂ tk₂ N₂ d₂ sb₂ H₂ i₂ k₂ => ?_
  refine use2 ((k₂ N₂ a b (i₁.mono sb₂) i₂).tr _ E H₂) fun c h₃ tk₃ N₃ sb₃ H₃ k₃ => ?_
  exact post_mk ((sb₁.trans sb₂).trans sb₃) ⟨H₃, k₃⟩
theorem TsP.cmp {l r : Expr} {op : CmpOp} {pos : Pos} {K : Bool → Prop} (hm : behindInMarks op r = false)
    (h : EvP prog w cx mu ρ l fun a => EvP prog w cx mu ρ r fun b => Op2 prog w cx.hb cx.S cx.A (compareOp op) a b fun c => Truth prog w cx.hb cx.S cx.A c K) : TsP prog w cx mu ρ (.Compare l [op] [r] pos) K := by
  intro N s E H
  refine wpAny_isTrue_Compare1 (ev_use (h N s E H) fun a h₁ tk₁ N₁ d₁ sb₁ H₁ i₁ k₁ => ?_) hm
  refine ev_use (k₁ N₁ _ E H₁) fun b h₂ tk₂ N₂ d₂ sb₂ H₂ i₂ k₂ => ?_
  refine ev_use ((k₂ N₂ a b (i₁.mono sb₂) i₂).tr _ E H₂) fun c h₃ tk₃ N₃ d₃ sb₃ H₃ i₃ k₃ => ?_
  refine use2 ((k₃ N₃ c i₃).tr _ E H₃) fun c h₄ tk₄ N₄ sb₄ H₄ k₄ => ?_
  exact post_mk (((sb₁.trans sb₂).trans sb₃).trans sb₄) ⟨H₄, k₄⟩
theorem Truth.bool {hb : Heap} {S : List Addr} {A : Around} {b : Bool} {K : Bool → Prop} (h : K b) : Truth prog w hb S A (.bool b) K := by
  intro N u i U s E H
  cases i
  exact wpAny_truthy_bool (TrH.now' (a := b) (K := fun b _ => K b) H h)
theorem EvP.ifexp {t b o : Expr} {pos : Pos} {K : D → Prop} (h : TsP prog w cx mu ρ t fun c => EvP prog w cx mu ρ (if c = true then b else o) K) : EvP prog w cx mu ρ (.IfExp t b o pos) K := by
  intro N s E H
  refine wpAny_IfExp (use2 (h N s E H) fun c h₁ tk₁ N₁ sb₁ H₁ k₁ => ?_)
  cases c with
  | true =>
    simp only [if_true] at k₁ ⊢
    refine use2 (k₁ N₁ _ E H₁) fun b h₂ tk₂ N₂ sb₂ H₂ k₂ => ?_
    exact post_mk (sb₁.trans sb₂) ⟨H₂, k₂⟩
  | false =>
    simp only [Bool.false_eq_true, if_false] at k₁ ⊢
    refine use2 (k₁ N₁ _ E H₁) fun b h₂ tk₂ N₂ sb₂ H₂ k₂ => ?_
    exact post_mk (sb₁.trans sb₂) ⟨H₂, k₂⟩
end
noncomputable abbrev Cx.plus (cx : Cx) (W : Led) : Cx := { cx with U := W ++ cx.U }
noncomputable def NoCell (W : Led) : Prop := ∀ p ∈ W, ∀ z, p.2.data ≠ .cell z
theorem NoCell.nil : NoCell [] := fun _ h => nomatch h
theorem NoCell.cons {p : Addr × Obj} {W : Led} (h : ∀ z, p.2.data ≠ .cell z) (r : NoCell W) : NoCell (p :: W) := fun q hq => by
  rcases List.mem_cons.mp hq with rfl | hq
  · exact h
  · exact r q hq
theorem Frame.more {env : Env} {own : List Str} {m : Str → Option Value} {F U : Led} (h : Frame env own m F U) {V : Led} (hs : ∀ p ∈ U, p ∈ V) : Frame env own m F V :=
  ⟨h.hk, h.hg, h.hb, h.loc, fun x hx => let ⟨c, o, a, b, e⟩ := h.cel x hx; ⟨c, o, a, (List.mem_append.mp b).elim (fun q => List.mem_append_left _ q) fun q => List.mem_append_right _ (hs _ q), e⟩, h.ownc, h.inj⟩
theorem Frame.less {env : Env} {own : List Str} {m : Str → Option Value} {F U W : Led} (h : Frame env own m F (W ++ U)) (hn : NoCell W) : Frame env own m F U :=
  ⟨h.hk, h.hg, h.hb, h.loc, fun x hx => by
    obtain ⟨c, o, a, b, e⟩ := h.cel x hx
    refine ⟨c, o, a, ?_, e⟩
    rcases List.mem_append.mp b with b | b
    · exact List.mem_append_left _ b
    · rcases List.mem_append.mp b with b | b
      · exact absurd e (hn _ b _)
      · exact List.mem_append_right _ b, h.ownc, h.inj⟩
theorem perm3 (F L V U : Led) : (F ++ (L ++ (V ++ U))).Perm (V ++ (F ++ (L ++ U))) :=
  (List.Perm.append_left F (List.perm_append_comm_assoc L V U)).trans (List.perm_append_comm_assoc F V (L ++ U))
section
variable {prog : Program} {w : World} {cx : Cx} {mu : List MD} {ρ : Rho}
theorem St.swap {W : Led} {N : Facts} {h : Heap} (H : St prog w (cx.plus W) mu ρ N h) (hn : NoCell W) :
    ∃ R, Hp cx.hb cx.S (W ++ R) N h ∧ (∀ p ∈ cx.U, p ∈ R) ∧ ∀ W' N' h', Sub N N' → Hp cx.hb cx.S (W' ++ R) N' h' → St prog w (cx.plus W') mu ρ N' h' := by
  obtain ⟨m, F, L, Fm, Mi, H, R⟩ := H
  have pm : ∀ V : Led, (F ++ (L ++ (V ++ cx.U))).Perm (V ++ (F ++ (L ++ cx.U))) := fun V => perm3 F L V cx.U
  refine ⟨F ++ (L ++ cx.U), H.perm (pm W), fun p hp => List.mem_append_right _ (List.mem_append_right _ hp), fun W' N' h' sb H' => ⟨m, F, L, (Fm.less hn).more fun p hp => List.mem_append_right _ hp, Mi.mono sb, ?_, R.mono sb⟩⟩
  exact H'.perm (pm W').symm
theorem St.plus_nil {N : Facts} {h : Heap} (H : St prog w (cx.plus []) mu ρ N h) : St prog w cx mu ρ N h := H
theorem St.to_plus {N : Facts} {h : Heap} (H : St prog w cx mu ρ N h) : St prog w (cx.plus []) mu ρ N h := H
/-- what a target takes -/
inductive Tgt : Expr → D → Rho → Prop
  | name (x : Str) (p : Pos) (d : D) : Tgt (.Name x p) d [(x, d)]
  | pair (x y : Str) (p q : Pos) (k : Nat) (pos : Pos) (a b : D) : Tgt (.Tuple [.Name x p, .Name y q] k pos) (.tup [a, b]) [(y, b), (x, a)]
noncomputable def Storable (cx : Cx) (x : Str) : Prop := cx.env.kindOf x = some .local ∨ x ∈ cx.own
theorem RhoIs.upd {S : List Addr} {N : Facts} {m : Str → Option Value} {x : Str} {v : Value} {d : D} (R : RhoIs prog w S N ρ m) (i : DIn prog w S N v d) : RhoIs prog w S N ((x, d) :: ρ) (updm m x v) := by
  intro y e hl
  rw [List.lookup_cons] at hl
  by_cases h : y = x
  · subst h
    simp only [beq_self_eq_true] at hl
    cases hl
    exact ⟨v, if_pos rfl, i⟩
  · have hb : (y == x) = false := by simpa using h
    rw [hb] at hl
    obtain ⟨u, a, b⟩ := R y e hl
    exact ⟨u, (if_neg h).trans a, b⟩
theorem store_name {x : Str} {v : Value} {d : D} {N : Facts} {s : Shared} {E : Value → Shared → Prop} {Q : Unit → Shared → Prop} (H : St prog w cx mu ρ N s.heap) (hx : Storable cx x) (i : DIn prog w cx.S N v d)
    (h : ∀ h' tk, St prog w cx mu ((x, d) :: ρ) N h' → Q () { s with heap := h', toks := tk }) : wpAny (model prog w) cx.A (storeName cx.env x v) Q E s := by
  obtain ⟨m, F, L, Fm, Mi, H, R⟩ := H
  exact Fm.store (R := L ++ cx.U) (fun p hp => List.mem_append_right _ hp) H hx fun h' tk F' Fm' H' => h h' tk ⟨_, F', L, Fm', Mi, H', R.upd i⟩
theorem assign_tgt {target : Expr} {v : Value} {d : D} {τ : Rho} {N : Facts} {s : Shared} {E : Value → Shared → Prop} {Q : Unit → Shared → Prop} (hh : cx.A.handled = none) (H : St prog w cx mu ρ N s.heap) (t : Tgt target d τ) (hx : ∀ p ∈ τ, Storable cx p.1) (i : DIn prog w cx.S N v d)
    (h : ∀ h' tk, St prog w cx mu (τ ++ ρ) N h' → Q () { s with heap := h', toks := tk }) : wpAny (model prog w) cx.A (assign target cx.env v) Q E s := by
  cases t with
  | name x p => exact wpAny_assign_Name (store_name H (hx (x, d) (.head _)) i fun h' tk H' => h h' tk H')
  | pair x y p q k pos a b =>
    cases i using DIn.tup_cases with
    | mk t o vs n ho hc hd r =>
      cases r with
      | @cons u _ _ _ iu r =>
        cases r with
        | @cons v' _ _ _ iv r =>
          cases r
          obtain ⟨m, F, L, Fm, Mi, H, R⟩ := H
          refine assign_Tuple_tuple hh ⟨o, H.led _ _ ho, hc, n, hd⟩ rfl rfl fun h₁ ek => ?_
          have H₁ : St prog w cx mu ρ N h₁ := ⟨m, F, L, Fm, Mi, H.keeps fun b o e => ek b o (Nat.ne_of_lt (Heap.lt_size e)) e, R⟩
          refine assignInOrder_cons (wpAny_assign_Name (store_name (cx := cx) (s := { s with heap := h₁ }) H₁ (hx (x, a) (.tail _ (.head _))) iu fun h₂ tk₂ H₂ => ?_))
          refine assignInOrder_cons (wpAny_assign_Name (store_name (cx := cx) (s := { s with heap := h₂, toks := tk₂ }) H₂ (hx (y, b) (.head _)) iv fun h₃ tk₃ H₃ => ?_))
          exact assignInOrder_nil (h h₃ tk₃ H₃)
end
/-- an iterator at work: its written objects W at step i -/
structure ItD (prog : Program) (w : World) (hb : Heap) (S : List Addr) (A : Around) (N₀ : Facts) (target : Expr) (I : Addr) (items : List D) (J : Nat → Led → Prop) : Prop where
  nocell : ∀ i W, J i W → NoCell W
  turn : ∀ (i : Nat) (W U : Led) (N : Facts) (s : Shared) (Q : Value → Shared → Prop) (E : Value → Shared → Prop) (d : D), items[i]? = some d → J i W → Sub N₀ N → Hp hb S (W ++ U) N s.heap →
    (∀ v h' tk N' W', J (i + 1) W' → Sub N N' → DIn prog w S N' v d → Hp hb S (W' ++ U) N' h' → Q v { s with heap := h', toks := tk }) →
    wpAny (model prog w) A (pyNext (.ref I)) (fun r s₁ => match r with | none => False | some v => wpAny (model prog w) A (letOwnedTupleGo target (.ref I) v) (fun _ s₂ => Q v s₂) E s₁) E s
  done : ∀ (W U : Led) (N : Facts) (s : Shared) (Q : Shared → Prop) (E : Value → Shared → Prop), J items.length W → Sub N₀ N → Hp hb S (W ++ U) N s.heap →
    (∀ h' tk W', NoCell W' → Hp hb S (W' ++ U) N h' → Q { s with heap := h', toks := tk }) → wpAny (model prog w) A (pyNext (.ref I)) (fun r s₁ => r = none ∧ Q s₁) E s
  self : ∀ (W U : Led) (N : Facts) (s : Shared) (Q : Value → Shared → Prop) (E : Value → Shared → Prop), J 0 W → Sub N₀ N → Hp hb S (W ++ U) N s.heap → Q (.ref I) s → wpAny (model prog w) A (pyIter (.ref I)) Q E s
noncomputable def Plain (target : Expr) : Prop := (∃ x p, target = .Name x p) ∨ ∃ x y p q k pos, target = .Tuple [.Name x p, .Name y q] k pos
/-- a datum that is walked item by item -/
noncomputable def IterD (prog : Program) (w : World) (hb : Heap) (S : List Addr) (A : Around) (d : D) (items : List D) : Prop :=
  ∀ (N : Facts) (u : Value) (U : Led) (s : Shared) (E : Value → Shared → Prop) (target : Expr), Plain target → DIn prog w S N u d → Hp hb S U N s.heap →
    wpAny (model prog w) A (pyIter u) (fun it s' => ∃ h tk N' I W J, s' = { s with heap := h, toks := tk } ∧ it = .ref I ∧ Sub N N' ∧ Hp hb S (W ++ U) N' h ∧ J 0 W ∧ ItD prog w hb S A N' target I items J) E s
theorem go_fields {prog : Program} {w : World} {A : Around} {target : Expr} {I : Addr} {v : Value} {o : Obj} {n : String} {vs : Array Value} {s : Shared} {Q : Unit → Shared → Prop} {E : Value → Shared → Prop} (hp : Plain target) (ho : s.heap.get? I = some o) (hc : o.cls = .type n) (hd : o.data = .fields vs)
    (hn : (["enumerate", "zip", "dict_itemiterator", "dict_reverseitemiterator", "odict_iterator", "itertools.zip_longest", "itertools.pairwise"].contains n) = false) (h : Q () s) : wpAny (model prog w) A (letOwnedTupleGo target (.ref I) v) Q E s := by
  rcases hp with ⟨x, p, rfl⟩ | ⟨x, y, p, q, k, pos, rfl⟩
  · exact wpAny_pure h
  · cases v with
    | ref T =>
      unfold letOwnedTupleGo
      refine wpAny_bind (wpAny_load ho ?_)
      rw [hc, hd]
      show wpAny _ A (if (["enumerate", "zip", "dict_itemiterator", "dict_reverseitemiterator", "odict_iterator", "itertools.zip_longest", "itertools.pairwise"].contains n && vs[0]? == some (rawInt T)) = true then _ else _) Q E s
      rw [if_neg (by rw [hn]; simp)]
      exact wpAny_pure h
    | _ => exact wpAny_pure h
section
variable {prog : Program} {w : World} {hb : Heap} {S : List Addr} {A : Around}
theorem Heap.sameBut_of {h h' : Heap} {I : Addr} (k : ∀ b o, b ≠ I → h.get? b = some o → h'.get? b = some o) : True := trivial
/-- one written object: what the other facts say stays -/
theorem Hp.set1 {U : Led} {N : Facts} {h h' : Heap} {I : Addr} {o o' : Obj} (H : Hp hb S ([(I, o)] ++ U) N h) (k : ∀ b x, b ≠ I → h.get? b = some x → h'.get? b = some x) (ho : h'.get? I = some o') : Hp hb S ([(I, o')] ++ U) N h' := by
  have nd := H.nodup
  simp only [List.cons_append, List.nil_append, List.map_cons, List.nodup_cons] at nd
  refine ⟨H.base, fun b x hx => k b x (fun e => H.off b x hx (by rw [e]; simp)) (H.led b x hx), fun p hp => ?_, by simpa using H.nodup, fun b x hx => by simpa using H.off b x hx, fun b hb' => ?_⟩
  · rcases List.mem_cons.mp hp with rfl | hp
    · exact ho
    · exact k _ _ (fun e => nd.1 (e ▸ List.mem_map_of_mem hp)) (H.ledU p (.tail _ hp))
  · obtain ⟨⟨x, e, i⟩, h2, h3⟩ := H.src b hb'
    exact ⟨⟨x, k _ _ (fun q => h2 (by rw [q]; simp)) e, i⟩, by simpa using h2, h3⟩
theorem IterD.lst (hh : A.handled = none) (ds : List D) : IterD prog w hb S A (.lst ds) ds := by
  intro N u U s E target hp i H
  cases i using DIn.lst_cases with
  | mk l o vs n ho hc _ hd r =>
    have hlen := r.length
    have isl : ∀ {h : Heap} {N' : Facts} {V : Led}, Sub N N' → Hp hb S V N' h → h.IsList l vs.toArray := fun sb H => ⟨o, H.led _ _ (sb _ _ ho), hc, n, hd⟩
    have hne : l ≠ s.heap.objs.size := fun e => by have := H.led _ _ ho; rw [e, get_none_size] at this; cases this
    refine wpAny_pyIter_list (isl (Sub.refl N) H) ⟨_, s.toks, N, s.heap.objs.size, [(s.heap.objs.size, _)], fun i W => ∃ o, W = [(s.heap.objs.size, o)] ∧ o.cls = .type "list_iterator" ∧ o.data = .fields #[.ref l, .int i 0], rfl, rfl, Sub.refl N, H.pushU _, ⟨_, rfl, rfl, rfl⟩, ?_⟩
    refine ⟨?_, ?_, ?_, ?_⟩
    · rintro i W ⟨o, rfl, _, e⟩
      exact NoCell.cons (fun z q => by rw [show ((s.heap.objs.size, o) : Addr × Obj).2.data = o.data from rfl, e] at q; cases q) NoCell.nil
    · rintro i W U' N' s' Q E' d hd' ⟨oI, rfl, hcI, hdI⟩ sb H' hQ
      obtain ⟨v, hv, iv⟩ := r.get hd'
      refine wpAny_pyNext_list_item (i := i) (x := v) ⟨oI, H'.ledU _ (.head _), hcI, hdI⟩ (isl sb H') (by simpa using hv) fun h' ⟨o', e', hc', hd''⟩ hs => ?_
      exact go_fields hp e' hc' hd'' (by decide) (hQ v h' s'.toks N' _ ⟨o', rfl, hc', hd''⟩ (Sub.refl _) (iv.mono sb) (H'.set1 (fun b x hb' e => (hs.2 b hb').trans e) e'))
    · rintro W U' N' s' Q E' ⟨oI, rfl, hcI, hdI⟩ sb H' hQ
      refine wpAny_pyNext_list_end hh (i := ds.length) (l := l) (items := vs.toArray) ⟨oI, H'.ledU _ (.head _), hcI, hdI⟩ (isl sb H') (by simp [hlen]) fun h' he' => ⟨rfl, ?_⟩
      have nd := H'.nodup
      exact hQ h' s'.toks [] NoCell.nil ⟨H'.base, fun b x hx => he' b x (fun e => H'.off b x hx (by rw [e]; simp)) (H'.led b x hx), fun p hp => he' _ _ (fun e => by
        simp only [List.cons_append, List.nil_append, List.map_cons, List.nodup_cons] at nd
        exact nd.1 (e ▸ List.mem_map_of_mem hp)) (H'.ledU p (.tail _ hp)), by
          simp only [List.cons_append, List.nil_append, List.map_cons, List.nodup_cons] at nd
          exact nd.2, fun b x hx hm => H'.off b x hx (.tail _ hm), fun b hb' => by
          obtain ⟨⟨x, e, i⟩, h2, h3⟩ := H'.src b hb'
          exact ⟨⟨x, he' _ _ (fun q => h2 (by rw [q]; simp)) e, i⟩, fun hm => h2 (.tail _ hm), h3⟩⟩
    · rintro W U' N' s' Q E' ⟨oI, rfl, hcI, hdI⟩ sb H' hQ
      exact wpAny_pyIter_listiter (i := 0) (l := l) ⟨oI, H'.ledU _ (.head _), hcI, hdI⟩ hQ
theorem IterD.tup (hh : A.handled = none) (ds : List D) : IterD prog w hb S A (.tup ds) ds := by
  intro N u U s E target hp i H
  cases i using DIn.tup_cases with
  | mk l o vs n ho hc hd r =>
    have hlen := r.length
    have isl : ∀ {h : Heap} {N' : Facts} {V : Led}, Sub N N' → Hp hb S V N' h → h.IsTuple l vs.toArray := fun sb H => ⟨o, H.led _ _ (sb _ _ ho), hc, n, hd⟩
    have hne : l ≠ s.heap.objs.size := fun e => by have := H.led _ _ ho; rw [e, get_none_size] at this; cases this
    refine wpAny_pyIter_tuple (isl (Sub.refl N) H) ⟨_, s.toks, N, s.heap.objs.size, [(s.heap.objs.size, _)], fun i W => ∃ o, W = [(s.heap.objs.size, o)] ∧ o.cls = .type "tuple_iterator" ∧ o.data = .fields #[.ref l, .int i 0], rfl, rfl, Sub.refl N, H.pushU _, ⟨_, rfl, rfl, rfl⟩, ?_⟩
    refine ⟨?_, ?_, ?_, ?_⟩
    · rintro i W ⟨o, rfl, _, e⟩
      exact NoCell.cons (fun z q => by rw [show ((s.heap.objs.size, o) : Addr × Obj).2.data = o.data from rfl, e] at q; cases q) NoCell.nil
    · rintro i W U' N' s' Q E' d hd' ⟨oI, rfl, hcI, hdI⟩ sb H' hQ
      obtain ⟨v, hv, iv⟩ := r.get hd'
      refine wpAny_pyNext_tuple_item (i := i) (x := v) ⟨oI, H'.ledU _ (.head _), hcI, hdI⟩ (isl sb H') (by simpa using hv) fun h' ⟨o', e', hc', hd''⟩ hs => ?_
      exact go_fields hp e' hc' hd'' (by decide) (hQ v h' s'.toks N' _ ⟨o', rfl, hc', hd''⟩ (Sub.refl _) (iv.mono sb) (H'.set1 (fun b x hb' e => (hs.2 b hb').trans e) e'))
    · rintro W U' N' s' Q E' ⟨oI, rfl, hcI, hdI⟩ sb H' hQ
      refine wpAny_pyNext_tuple_end hh (i := ds.length) (t := l) (items := vs.toArray) ⟨oI, H'.ledU _ (.head _), hcI, hdI⟩ (isl sb H') (by simp [hlen]) fun h' he' => ⟨rfl, ?_⟩
      have nd := H'.nodup
      exact hQ h' s'.toks [] NoCell.nil ⟨H'.base, fun b x hx => he' b x (fun e => H'.off b x hx (by rw [e]; simp)) (H'.led b x hx), fun p hp => he' _ _ (fun e => by
        simp only [List.cons_append, List.nil_append, List.map_cons, List.nodup_cons] at nd
        exact nd.1 (e ▸ List.mem_map_of_mem hp)) (H'.ledU p (.tail _ hp)), by
          simp only [List.cons_append, List.nil_append, List.map_cons, List.nodup_cons] at nd
          exact nd.2, fun b x hx hm => H'.off b x hx (.tail _ hm), fun b hb' => by
          obtain ⟨⟨x, e, i⟩, h2, h3⟩ := H'.src b hb'
          exact ⟨⟨x, he' _ _ (fun q => h2 (by rw [q]; simp)) e, i⟩, fun hm => h2 (.tail _ hm), h3⟩⟩
    · rintro W U' N' s' Q E' ⟨oI, rfl, hcI, hdI⟩ sb H' hQ
      exact wpAny_pyIter_tupleiter (i := 0) (t := l) ⟨oI, H'.ledU _ (.head _), hcI, hdI⟩ hQ
noncomputable def rngL (a b : Int) : List D := (List.range (b - a).toNat).map fun i : Nat => D.int (a + (i : Int))
theorem rangeSize1 (a b : Int) : Builtin.Range.rangeSize a b 1 = ((b - a).toNat : Int) := by
  unfold Builtin.Range.rangeSize
  simp only [show (1 : Int) > 0 from by decide, if_true, Int.ediv_one]
  split <;> omega
theorem IterD.rng (hh : A.handled = none) (a b : Int) (hs : Builtin.Range.small a b 1 = true) : IterD prog w hb S A (.rng a b) (rngL a b) := by
  intro N u U s E target hp i H
  cases i with
  | @rng r _ _ t u v hr =>
    have W := Walks.range (prog := prog) (w := w) (A := A) hh s.heap.objs.size a 1 (b - a).toNat
    have e0 : ∀ k : Nat, a + (k : Int) * 1 = a + (k : Int) := fun k => by omega
    refine wpAny_pyIter_range (H.led _ _ hr) hs ⟨_, s.toks, N, s.heap.objs.size, [(s.heap.objs.size, _)], fun i W => W = [(s.heap.objs.size, { cls := .type "range_iterator", dict := none, data := .fields #[rawInt (a + (i : Nat) * 1), rawInt (((b - a).toNat : Int) - (i : Nat)), rawInt 1], slots := #[] })], rfl, rfl, Sub.refl N, H.pushU _, ?_, ?_⟩
    · rw [rangeSize1]; simp
    refine ⟨?_, ?_, ?_, ?_⟩
    · rintro i W rfl
      exact NoCell.cons (fun z q => by cases q) NoCell.nil
    · rintro i _ U' N' s' Q E' d hd' rfl sb H' hQ
      have hi : i < (b - a).toNat := by
        have := (List.getElem?_eq_some_iff.mp hd').1
        simpa [rngL] using this
      have hdd : d = .int (a + (i : Int)) := by
        have := hd'
        simp only [rngL, List.getElem?_map, List.getElem?_range hi, Option.map_some, Option.some.injEq] at this
        exact this.symm
      subst hdd
      refine W.item i s' _ _ hi (H'.ledU _ (.head _)) fun v' h' tk ⟨t', e'⟩ st' k' => ?_
      subst e'
      rw [e0]
      refine go_fields hp st' rfl rfl (by decide) (hQ _ h' tk N' _ rfl (Sub.refl _) (.int _ _) (H'.set1 (fun b x hb' e => k' b x (by simpa using hb') e) st'))
    · rintro _ U' N' s' Q E' rfl sb H' hQ
      have hl : (rngL a b).length = (b - a).toNat := by simp [rngL]
      rw [hl] at H'
      refine W.done s' _ _ (H'.ledU _ (.head _)) fun h' tk k' => ⟨rfl, ?_⟩
      have he' : ∀ b x, b ≠ s.heap.objs.size → s'.heap.get? b = some x → h'.get? b = some x := fun b x hb' e => k' b x (by simpa using hb') e
      have nd := H'.nodup
      exact hQ h' tk [] NoCell.nil ⟨H'.base, fun b x hx => he' b x (fun e => H'.off b x hx (by rw [e]; simp)) (H'.led b x hx), fun p hp => he' _ _ (fun e => by
        simp only [List.cons_append, List.nil_append, List.map_cons, List.nodup_cons] at nd
        exact nd.1 (e ▸ List.mem_map_of_mem hp)) (H'.ledU p (.tail _ hp)), by
          simp only [List.cons_append, List.nil_append, List.map_cons, List.nodup_cons] at nd
          exact nd.2, fun b x hx hm => H'.off b x hx (.tail _ hm), fun b hb' => by
          obtain ⟨⟨x, e, i⟩, h2, h3⟩ := H'.src b hb'
          exact ⟨⟨x, he' _ _ (fun q => h2 (by rw [q]; simp)) e, i⟩, fun hm => h2 (.tail _ hm), h3⟩⟩
    · rintro _ U' N' s' Q E' rfl sb H' hQ
      exact W.self 0 s' _ _ (H'.ledU _ (.head _)) hQ
end
section
variable {prog : Program} {w : World} {cx : Cx} {mu : List MD} {ρ : Rho}
/-- an expression whose value is walked at once -/
noncomputable def EvIt (prog : Program) (w : World) (cx : Cx) (mu : List MD) (ρ : Rho) (target e : Expr) (K : List D → Prop) : Prop :=
  ∀ (N : Facts) (s : Shared) (E : Value → Shared → Prop), Plain target → St prog w cx mu ρ N s.heap →
    wpAny (model prog w) cx.A (eval e cx.env) (fun x s₁ => wpAny (model prog w) cx.A (pyIter x) (fun it s' => ∃ h tk N' I W J items, s' = { s with heap := h, toks := tk } ∧ it = .ref I ∧ Sub N N' ∧ St prog w (cx.plus W) mu ρ N' h ∧ J 0 W ∧
      ItD prog w cx.hb cx.S cx.A N' target I items J ∧ K items) E s₁) E s
theorem EvIt.of {target e : Expr} {K : List D → Prop} (h : EvP prog w cx mu ρ e fun d => ∃ items, IterD prog w cx.hb cx.S cx.A d items ∧ K items) : EvIt prog w cx mu ρ target e K := by
  intro N s E hp H
  refine ev_use (h N s E H) fun x h₁ tk₁ N₁ d sb₁ H₁ i y => ?_
  obtain ⟨items, it, k⟩ := y
  obtain ⟨m, F, L, Fm, Mi, Hh, R⟩ := H₁
  refine wpAny_mono (it N₁ x _ _ E target hp i Hh) (fun v s₂ z => ?_) fun _ _ e => e
  obtain ⟨h₂, tk₂, N₂, I, W, J, rfl, rfl, sb₂, H₂, j, dd⟩ := z
  have hn := dd.nocell 0 W j
  refine ⟨h₂, tk₂, N₂, I, W, J, items, rfl, rfl, sb₁.trans sb₂, ?_, j, dd, k⟩
  have sw : St prog w (cx.plus []) mu ρ N₁ h₁ := ⟨m, F, L, Fm, Mi, Hh, R⟩
  refine ⟨m, F, L, Fm.more fun p hp => List.mem_append_right _ hp, Mi.mono sb₂, H₂.perm ?_, R.mono sb₂⟩
  show (W ++ (F ++ (L ++ cx.U))).Perm (F ++ (L ++ (W ++ cx.U)))
  exact (perm3 F L W cx.U).symm
end
noncomputable def clGo (env : Env) : List (Str × NameKind) → List (Str × Addr) → List (Str × Addr)
  | [], acc => acc
  | (n, k) :: r, acc => if k == .free then (match env.cells.lookup n with | some c => clGo env r ((n, c) :: acc) | none => clGo env r acc) else clGo env r acc
theorem clGo_eq (env : Env) (f : Str × NameKind → List (Str × Addr) → Sem (ForInStep (List (Str × Addr))))
    (hf : ∀ n k cs, f (n, k) cs = if k == .free then (do let c ← cellOf env n; pure (.yield ((n, c) :: cs))) else pure (.yield cs)) :
    ∀ (names : List (Str × NameKind)) (acc : List (Str × Addr)), (∀ n, (n, NameKind.free) ∈ names → ∃ c, env.cells.lookup n = some c) → (forIn names acc f : Sem _) = pure (clGo env names acc)
  | [], acc, _ => by rw [List.forIn_nil]; rfl
  | (n, k) :: r, acc, h => by
    rw [List.forIn_cons, hf]
    unfold clGo
    have hr := fun a => clGo_eq env f hf r a fun m hm => h m (.tail _ hm)
    split
    · rename_i hk
      have hk' : k = .free := by simpa using hk
      subst hk'
      obtain ⟨c, hc⟩ := h n (.head _)
      unfold cellOf
      rw [hc]
      exact hr _
    · exact hr _
theorem closure_eq {scope : Scope} {env : Env} (h : ∀ n, (n, NameKind.free) ∈ scope.names → ∃ c, env.cells.lookup n = some c) : closureFor scope env = pure (clGo env scope.names []) := by
  unfold closureFor
  show (forIn scope.names [] _ >>= fun r => pure r) = _
  rw [clGo_eq env _ (fun n k cs => by cases k <;> rfl) scope.names [] h]
  rfl
theorem clGo_some {env : Env} : ∀ (names : List (Str × NameKind)) (acc : List (Str × Addr)), (∀ n c, acc.lookup n = some c → env.cells.lookup n = some c) → ∀ n c, (clGo env names acc).lookup n = some c → env.cells.lookup n = some c
  | [], acc, ha, n, c, h => ha n c h
  | (m, k) :: r, acc, ha, n, c, h => by
    unfold clGo at h
    split at h
    · split at h
      · rename_i c' hc'
        refine clGo_some r _ (fun n' c'' h' => ?_) n c h
        rw [List.lookup_cons] at h'
        cases e : n' == m with
        | true => rw [e] at h'; rw [beq_iff_eq.mp e, hc']; exact h'
        | false => rw [e] at h'; exact ha n' c'' h'
      · exact clGo_some r acc ha n c h
    · exact clGo_some r acc ha n c h
theorem clGo_has {env : Env} : ∀ (names : List (Str × NameKind)) (acc : List (Str × Addr)) (n : Str), ((n, NameKind.free) ∈ names ∧ (∃ c, env.cells.lookup n = some c)) ∨ (∃ c, acc.lookup n = some c) → ∃ c, (clGo env names acc).lookup n = some c
  | [], acc, n, h => h.elim (fun h => nomatch h.1) id
  | (m, k) :: r, acc, n, h => by
    unfold clGo
    have keep : ∀ c', (∃ c, acc.lookup n = some c) → ∃ c, List.lookup n ((m, c') :: acc) = some c := fun c' ⟨c, hc⟩ => by
      rw [List.lookup_cons]
      cases e : n == m with
      | true => exact ⟨c', rfl⟩
      | false => exact ⟨c, hc⟩
    split
    · rename_i hk
      have hk' : k = .free := by simpa using hk
      split
      · rename_i c' hc'
        refine clGo_has r _ n ?_
        rcases h with ⟨h, h2⟩ | h
        · rcases List.mem_cons.mp h with e | h
          · cases e; exact .inr ⟨c', by rw [List.lookup_cons]; simp⟩
          · exact .inl ⟨h, h2⟩
        · exact .inr (keep c' h)
      · rename_i hc'
        refine clGo_has r _ n ?_
        rcases h with ⟨h, h2⟩ | h
        · rcases List.mem_cons.mp h with e | h
          · cases e; obtain ⟨c, hc⟩ := h2; rw [hc'] at hc; cases hc
          · exact .inl ⟨h, h2⟩
        · exact .inr h
    · rename_i hk
      refine clGo_has r _ n ?_
      rcases h with ⟨h, h2⟩ | h
      · rcases List.mem_cons.mp h with e | h
        · cases e; exact absurd rfl hk
        · exact .inl ⟨h, h2⟩
      · exact .inr h
theorem lookup_relabel {env : Env} : ∀ (names : List (Str × NameKind)) (x : Str),
    (names.map fun (n, k) => if (k == NameKind.free && env.scope.kind == .function && env.kindOf n == some .cell) then (n, NameKind.cell) else (n, k)).lookup x =
      (names.lookup x).map fun k => if (k == NameKind.free && env.scope.kind == .function && env.kindOf x == some .cell) then NameKind.cell else k
  | [], x => rfl
  | (n, k) :: r, x => by
    have ih := @lookup_relabel env r x
    show List.lookup x ((if (k == NameKind.free && env.scope.kind == .function && env.kindOf n == some .cell) = true then (n, NameKind.cell) else (n, k)) :: _) = _
    by_cases hx : x = n
    · subst hx
      by_cases hc : (k == NameKind.free && env.scope.kind == .function && env.kindOf x == some .cell) = true
      · rw [if_pos hc]; simp only [List.lookup_cons, beq_self_eq_true, Option.map_some, if_pos hc]
      · rw [if_neg hc]; simp only [List.lookup_cons, beq_self_eq_true, Option.map_some, if_neg hc]
    · have hb : (x == n) = false := by simpa using hx
      by_cases hc : (k == NameKind.free && env.scope.kind == .function && env.kindOf n == some .cell) = true
      · rw [if_pos hc]; simp only [List.lookup_cons, hb]; exact ih
      · rw [if_neg hc]; simp only [List.lookup_cons, hb]; exact ih
/-- new objects are held apart -/
theorem Hp.fresh {hb : Heap} {S : List Addr} {U V : Led} {N : Facts} {h h' : Heap} (H : Hp hb S U N h) (k : ∀ b o, h.get? b = some o → h'.get? b = some o) (h1 : ∀ p ∈ V, h'.get? p.1 = some p.2) (h2 : ∀ p ∈ V, h.objs.size ≤ p.1) (h3 : (V.map (·.1)).Nodup) :
    Hp hb S (V ++ U) N h' := by
  have H' := H.keeps k
  have hn : ∀ p ∈ V, h.get? p.1 = none := fun p hp => by
    cases e : h.get? p.1 with
    | none => rfl
    | some o => exact absurd (Nat.lt_of_lt_of_le (Heap.lt_size e) (h2 p hp)) (Nat.lt_irrefl _)
  refine ⟨H.base, H'.led, fun p hp => (List.mem_append.mp hp).elim (h1 p) (H'.ledU p), ?_, fun a o x hm => ?_, fun a ha => ⟨(H'.src a ha).1, fun hm => ?_, (H.src a ha).2.2⟩⟩
  · rw [List.map_append, List.nodup_append]
    refine ⟨h3, H.nodup, fun x hx y hy e => ?_⟩
    obtain ⟨p, hp, rfl⟩ := List.mem_map.mp hx
    exact H.freshU (hn p hp) (e ▸ hy)
  · rw [List.map_append] at hm
    rcases List.mem_append.mp hm with hm | hm
    · obtain ⟨p, hp, rfl⟩ := List.mem_map.mp hm
      have := H.led _ _ x
      rw [hn p hp] at this; cases this
    · exact H.off a o x hm
  · rw [List.map_append] at hm
    rcases List.mem_append.mp hm with hm | hm
    · obtain ⟨p, hp, rfl⟩ := List.mem_map.mp hm
      exact H.freshS (hn p hp) ha
    · exact (H.src a ha).2.1 hm
theorem Hp.drop1 {hb : Heap} {S : List Addr} {U : Led} {N : Facts} {h h' : Heap} {C : Addr} {o : Obj} (H : Hp hb S ((C, o) :: U) N h) (hs : Heap.SameBut C h h') : Hp hb S U N h' := by
  have nd := H.nodup
  simp only [List.map_cons, List.nodup_cons] at nd
  refine ⟨H.base, fun b x hx => (hs.2 b fun e => H.off b x hx (by rw [e]; simp)).trans (H.led b x hx), fun p hp => (hs.2 _ fun e => nd.1 (e ▸ List.mem_map_of_mem hp)).trans (H.ledU p (.tail _ hp)), nd.2,
    fun b x hx hm => H.off b x hx (.tail _ hm), fun b hb' => ?_⟩
  obtain ⟨⟨x, e, i⟩, h2, h3⟩ := H.src b hb'
  exact ⟨⟨x, (hs.2 b fun q => h2 (by rw [q]; simp)).trans e, i⟩, fun hm => h2 (.tail _ hm), h3⟩
/-- the cells that a block lays: as entries -/
theorem cells_led : ∀ (cs : List (Str × Addr)) (h : Heap) (lo : Nat), CellsOk h lo cs → ∃ V : Led, (∀ p ∈ V, h.get? p.1 = some p.2) ∧ (∀ p ∈ V, lo ≤ p.1) ∧ (V.map (·.1)).Nodup ∧ (∀ n c, (n, c) ∈ cs → ∃ o, (c, o) ∈ V ∧ o.data = .cell none) ∧ ∀ p ∈ V, ∃ n, (n, p.1) ∈ cs
  | [], h, lo, _ => ⟨[], fun _ hp => (nomatch hp), fun _ hp => (nomatch hp), List.nodup_nil, fun _ _ hm => (nomatch hm), fun _ hp => (nomatch hp)⟩
  | (n, c) :: r, h, lo, x => by
    obtain ⟨V, v1, v2, v3, v4, v5⟩ := cells_led r h lo ⟨fun m d hm => x.empty m d (.tail _ hm), (List.pairwise_cons.mp x.apart).2⟩
    obtain ⟨⟨o, ho, hd⟩, hlo⟩ := x.empty n c (.head _)
    refine ⟨(c, o) :: V, fun p hp => ?_, fun p hp => ?_, ?_, fun m d hm => ?_, fun p hp => ?_⟩
    · rcases List.mem_cons.mp hp with rfl | hp
      · exact ho
      · exact v1 p hp
    · rcases List.mem_cons.mp hp with rfl | hp
      · exact hlo
      · exact v2 p hp
    · rw [List.map_cons, List.nodup_cons]
      refine ⟨fun hm => ?_, v3⟩
      obtain ⟨p, hp, e⟩ := List.mem_map.mp hm
      obtain ⟨m, hm'⟩ := v5 p hp
      exact (List.pairwise_cons.mp x.apart).1 _ hm' e.symm
    · rcases List.mem_cons.mp hm with e | hm
      · cases e; exact ⟨o, .head _, hd⟩
      · obtain ⟨o', a, b⟩ := v4 m d hm; exact ⟨o', .tail _ a, b⟩
    · rcases List.mem_cons.mp hp with rfl | hp
      · exact ⟨n, .head _⟩
      · obtain ⟨m, hm⟩ := v5 p hp; exact ⟨m, .tail _ hm⟩
theorem cellsFrom_app : ∀ (names : List (Str × NameKind)) (n : Nat) (acc acc' : List (Str × Addr)), cellsFrom n names (acc ++ acc') = cellsFrom n names acc ++ acc'
  | [], _, _, _ => rfl
  | (x, k) :: r, n, acc, acc' => by
    unfold cellsFrom
    split
    · exact cellsFrom_app r (n + 1) ((x, n) :: acc) acc'
    · exact cellsFrom_app r n acc acc'
theorem cellsFrom_mem : ∀ (names : List (Str × NameKind)) (n : Nat) (acc : List (Str × Addr)) (x : Str) (c : Addr), (x, c) ∈ cellsFrom n names acc → (x, c) ∈ acc ∨ (x, NameKind.cell) ∈ names
  | [], _, _, _, _, h => .inl h
  | (y, k) :: r, n, acc, x, c, h => by
    unfold cellsFrom at h
    split at h
    · rename_i hk
      have hk' : k = .cell := by simpa using hk
      subst hk'
      rcases cellsFrom_mem r _ _ x c h with h | h
      · rcases List.mem_cons.mp h with e | h
        · cases e; exact .inr (.head _)
        · exact .inl h
      · exact .inr (.tail _ h)
    · rcases cellsFrom_mem r _ _ x c h with h | h
      · exact .inl h
      · exact .inr (.tail _ h)
theorem lookup_mem {α : Type} : ∀ {l : List (Str × α)} {n : Str} {c : α}, l.lookup n = some c → (n, c) ∈ l := fun h => mem_of_lookup h
theorem lookup_of_nodup {α : Type} : ∀ {l : List (Str × α)} {n : Str} {c : α}, (l.map (·.1)).Nodup → (n, c) ∈ l → l.lookup n = some c
  | (m, d) :: r, n, c, hn, h => by
    rw [List.map_cons, List.nodup_cons] at hn
    rw [List.lookup_cons]
    rcases List.mem_cons.mp h with e | h
    · cases e; simp
    · have : (n == m) = false := by
        cases e : n == m with
        | false => rfl
        | true => exact absurd (List.mem_map_of_mem h) (by rw [beq_iff_eq.mp e]; exact hn.1)
      rw [this]; exact lookup_of_nodup hn.2 h
theorem lookup_append {α : Type} {l l' : List (Str × α)} {n : Str} : (l ++ l').lookup n = (l.lookup n).or (l'.lookup n) := by
  induction l with
  | nil => rfl
  | cons p r ih =>
    obtain ⟨m, d⟩ := p
    rw [List.cons_append, List.lookup_cons, List.lookup_cons]
    cases n == m with
    | true => rfl
    | false => exact ih
section
variable {M : Model} {A : Around} {E : Value → Shared → Prop} {s : Shared}
theorem new_comp_env {scope : Scope} {globals : Addr} {cl : List (Str × Addr)} {qual : Str} {env : Env} {Q : Env → Shared → Prop}
    (h : Q { scope, locals := s.heap.objs.size, globals, cells := cellsFrom (s.heap.objs.size + 1) scope.names [] ++ cl, qual, func := none, code := env.code, frame := env.frame, builtins := env.builtins }
      { s with heap := pushCells (s.heap.push { cls := .type "dict", data := .dict #[] }) scope.names }) : wpAny M A (newFunctionEnv scope globals cl [] qual none .none (some env)) Q E s := by
  simp only [newFunctionEnv, Option.isSome_some, if_true]
  refine wpAny_bind (wpAny_alloc ?_)
  refine wpAny_bind (wpAny_layCells _ (fun name kind cells => by cases hkc : kind == NameKind.cell <;> simp [hkc]) _ _ _ _ ?_)
  rw [List.forIn_nil]
  have e : cellsFrom (s.heap.objs.size + 1) scope.names [] ++ cl = cellsFrom (s.heap.objs.size + 1) scope.names cl := by rw [← cellsFrom_app]; rfl
  rw [e] at h
  have e2 : ({ s with heap := s.heap.push { cls := .type "dict", data := .dict #[] } } : Shared).heap.objs.size = s.heap.objs.size + 1 := Heap.size_push ..
  rw [e2]
  exact wpAny_bind (wpAny_pure (wpAny_pure h))
end
noncomputable def ownOf (scope : Scope) : List Str := (scope.names.filter fun p => p.2 == NameKind.cell).map (·.1)
noncomputable abbrev Cx.inner (cx : Cx) (scope : Scope) (L : Addr) (cs : List (Str × Addr)) (U : Led) : Cx := { cx with env := compEnvC scope cs L cx.env, own := ownOf scope, U := U }
noncomputable def isOwn (scope : Scope) (x : Str) : Bool := match scope.names.lookup x with
  | some .local => true
  | some .cell => true
  | _ => false
noncomputable def cut (scope : Scope) (ρ : Rho) : Rho := ρ.filter fun p => !isOwn scope p.1
theorem cut_lookup {scope : Scope} : ∀ {ρ : Rho} {x : Str} {d : D}, (cut scope ρ).lookup x = some d → ρ.lookup x = some d ∧ isOwn scope x = false
  | (y, e) :: r, x, d, h => by
    unfold cut at h
    rw [List.filter_cons] at h
    by_cases hy : (!isOwn scope y) = true
    · rw [if_pos hy, List.lookup_cons] at h
      rw [List.lookup_cons]
      cases q : x == y with
      | true =>
        rw [q] at h
        have := beq_iff_eq.mp q
        subst this
        exact ⟨h, by simpa using hy⟩
      | false => rw [q] at h; exact cut_lookup (ρ := r) h
    · rw [if_neg hy] at h
      have ih := cut_lookup (ρ := r) h
      refine ⟨?_, ih.2⟩
      rw [List.lookup_cons]
      cases q : x == y with
      | true =>
        have e := beq_iff_eq.mp q
        rw [e] at ih
        exact absurd (by simp [ih.2] : (!isOwn scope y) = true) hy
      | false => exact ih.1
theorem clGo_free {env : Env} : ∀ (names : List (Str × NameKind)) (acc : List (Str × Addr)) (n : Str) (c : Addr), (clGo env names acc).lookup n = some c → (n, NameKind.free) ∈ names ∨ acc.lookup n = some c
  | [], acc, n, c, h => .inr h
  | (m, k) :: r, acc, n, c, h => by
    unfold clGo at h
    split at h
    · rename_i hk
      have hk' : k = .free := by simpa using hk
      subst hk'
      split at h
      · rename_i c' hc'
        rcases clGo_free r _ n c h with h | h
        · exact .inl (.tail _ h)
        · rw [List.lookup_cons] at h
          cases e : n == m with
          | true => rw [beq_iff_eq.mp e]; exact .inl (.head _)
          | false => rw [e] at h; exact .inr h
      · exact (clGo_free r _ n c h).imp (.tail _) id
    · exact (clGo_free r _ n c h).imp (.tail _) id
/-- what a block's scope must say -/
structure ScopeOk (scope : Scope) (env : Env) : Prop where
  hk : scope.kind = .function
  nd : (scope.names.map (·.1)).Nodup
  fr : ∀ n, (n, NameKind.free) ∈ scope.names → env.kindOf n = some .cell ∨ env.kindOf n = some .free
theorem inner_frame {env : Env} {own : List Str} {m : Str → Option Value} {F U R : Led} {scope : Scope} {hb : Heap} {S : List Addr} {N : Facts} {h : Heap} (Fm : Frame env own m F U) (so : ScopeOk scope env) (hFR : ∀ p ∈ F ++ U, p ∈ R) (H : Hp hb S R N h) :
    ∃ m' F', Hp hb S (F' ++ R) N (pushCells (h.push { cls := .type "dict", data := .dict #[] }) scope.names) ∧
      Frame (compEnvC scope (cellsFrom (h.objs.size + 1) scope.names [] ++ clGo env scope.names []) h.objs.size env) (ownOf scope) m' F' R ∧ ∀ x, isOwn scope x = false → m' x = m x := by
  have k0 : ∀ b o, h.get? b = some o → (pushCells (h.push { cls := .type "dict", data := .dict #[] }) scope.names).get? b = some o := fun b o e => pushCells_keeps _ _ b o (Heap.get?_push_of_some _ e)
  have ok := cellsFrom_ok scope.names (h.push { cls := .type "dict", data := .dict #[] }) (h.objs.size + 1) [] ⟨fun _ _ hm => (nomatch hm), List.Pairwise.nil⟩ (by rw [Heap.size_push]; exact Nat.le_refl _)
  rw [Heap.size_push] at ok
  obtain ⟨V, v1, v2, v3, v4, v5⟩ := cells_led _ _ _ ok
  have hcn : ∀ n, (n, NameKind.free) ∈ scope.names → ∃ c o, env.cells.lookup n = some c ∧ (c, o) ∈ F ++ U ∧ o.data = .cell (m n) := fun n hn => Fm.cel n (so.fr n hn)
  have kindL : ∀ x, (compEnvC scope (cellsFrom (h.objs.size + 1) scope.names [] ++ clGo env scope.names []) h.objs.size env).kindOf x = (scope.names.lookup x).map fun k => if (k == NameKind.free && env.scope.kind == .function && env.kindOf x == some .cell) then NameKind.cell else k := fun x => lookup_relabel _ x
  have ownS : ∀ x, scope.names.lookup x = some .cell → ∃ c, (cellsFrom (h.objs.size + 1) scope.names []).lookup x = some c := fun x hx => Option.isSome_iff_exists.mp (cellsFrom_some _ _ _ (.inl hx))
  have ownN : ∀ x c, (cellsFrom (h.objs.size + 1) scope.names []).lookup x = some c → scope.names.lookup x = some .cell := fun x c hx => by
    rcases cellsFrom_mem _ _ _ _ _ (lookup_mem hx) with q | q
    · cases q
    · exact lookup_of_nodup so.nd q
  have freeN : ∀ x, scope.names.lookup x = some .free → (cellsFrom (h.objs.size + 1) scope.names []).lookup x = none := fun x hx => by
    cases e : (cellsFrom (h.objs.size + 1) scope.names []).lookup x with
    | none => rfl
    | some c => have := ownN x c e; rw [hx] at this; cases this
  have lk : ∀ x c, (cellsFrom (h.objs.size + 1) scope.names [] ++ clGo env scope.names []).lookup x = some c → (cellsFrom (h.objs.size + 1) scope.names []).lookup x = some c ∨ (clGo env scope.names []).lookup x = some c := fun x c hx => by
    rw [lookup_append] at hx
    cases e : (cellsFrom (h.objs.size + 1) scope.names []).lookup x with
    | none => rw [e] at hx; exact .inr hx
    | some d => rw [e] at hx; exact .inl hx
  have clS : ∀ x c, (clGo env scope.names []).lookup x = some c → env.cells.lookup x = some c ∧ c < h.objs.size := fun x c hx => by
    have e := clGo_some scope.names [] (fun _ _ q => by cases q) x c hx
    refine ⟨e, ?_⟩
    rcases clGo_free scope.names [] x c hx with q | q
    · obtain ⟨c', o, g1, g2, g3⟩ := hcn x q
      rw [e] at g1
      cases g1
      exact Heap.lt_size (H.ledU _ (hFR _ g2))
    · cases q
  refine ⟨fun x => if isOwn scope x = true then none else m x, (h.objs.size, { cls := .type "dict", data := .dict #[] }) :: V, ?_, ?_, fun x hx => by simp [hx]⟩
  · refine Hp.fresh H k0 (fun p hp => ?_) (fun p hp => ?_) ?_
    · rcases List.mem_cons.mp hp with rfl | hp
      · exact pushCells_keeps _ _ _ _ (Heap.get?_push_size _ rfl)
      · exact v1 p hp
    · rcases List.mem_cons.mp hp with rfl | hp
      · exact Nat.le_refl _
      · exact Nat.le_of_succ_le (v2 p hp)
    · rw [List.map_cons, List.nodup_cons]
      refine ⟨fun hm => ?_, v3⟩
      obtain ⟨p, hp, e⟩ := List.mem_map.mp hm
      have h1 := v2 p hp
      have e' : p.1 = h.objs.size := e
      rw [e'] at h1
      exact absurd h1 (Nat.not_succ_le_self _)
  · refine ⟨?_, Fm.hg, Fm.hb, ⟨_, fun _ => none, .head _, ⟨#[], 0, rfl, fun _ hx => by simp at hx, fun _ => rfl⟩, fun x hx => ?_⟩, fun x hx => ?_, fun x hx => ?_, fun x y c hx hy => ?_⟩
    · show (relabel scope env).kind = _
      exact so.hk
    · rw [kindL] at hx
      have : isOwn scope x = true := by
        unfold isOwn
        cases e : scope.names.lookup x with
        | none => rw [e] at hx; cases hx
        | some k =>
          rw [e] at hx
          cases k <;> first | rfl | (simp at hx; done) | (simp at hx; split at hx <;> cases hx)
      simp [this]
    · rw [kindL] at hx
      cases e : scope.names.lookup x with
      | none => rw [e] at hx; rcases hx with hx | hx <;> cases hx
      | some k =>
        rw [e] at hx
        have hk : k = .cell ∨ k = .free := by
          cases k <;> first | exact .inl rfl | exact .inr rfl | (simp at hx)
        rcases hk with rfl | rfl
        · obtain ⟨c, hc⟩ := ownS x e
          obtain ⟨o, ho, hd⟩ := v4 x c (lookup_mem hc)
          refine ⟨c, o, ?_, List.mem_append_left _ (.tail _ ho), ?_⟩
          · show (cellsFrom (h.objs.size + 1) scope.names [] ++ clGo env scope.names []).lookup x = some c
            rw [lookup_append, hc]; rfl
          · have : isOwn scope x = true := by unfold isOwn; rw [e]
            simp [this, hd]
        · obtain ⟨c, o, g1, g2, g3⟩ := hcn x (lookup_mem e)
          obtain ⟨c', hc'⟩ := clGo_has scope.names [] x (.inl ⟨lookup_mem e, c, g1⟩)
          have e2 := (clS x c' hc').1
          rw [g1] at e2
          cases e2
          refine ⟨c, o, ?_, List.mem_append_right _ (hFR _ g2), ?_⟩
          · show (cellsFrom (h.objs.size + 1) scope.names [] ++ clGo env scope.names []).lookup x = some c
            rw [lookup_append, freeN x e]; exact hc'
          · have : isOwn scope x = false := by unfold isOwn; rw [e]
            simp [this, g3]
    · have hxc : (x, NameKind.cell) ∈ scope.names := by
        obtain ⟨p, hp, rfl⟩ := List.mem_map.mp hx
        obtain ⟨hp1, hp2⟩ := List.mem_filter.mp hp
        have : p.2 = .cell := by simpa using hp2
        rw [← this]; exact hp1
      have e := lookup_of_nodup so.nd hxc
      refine ⟨by rw [kindL, e]; rfl, ?_⟩
      obtain ⟨c, hc⟩ := ownS x e
      obtain ⟨o, ho, hd⟩ := v4 x c (lookup_mem hc)
      refine ⟨c, o, ?_, .tail _ ho, ?_⟩
      · show (cellsFrom (h.objs.size + 1) scope.names [] ++ clGo env scope.names []).lookup x = some c
        rw [lookup_append, hc]; rfl
      · have : isOwn scope x = true := by unfold isOwn; rw [e]
        simp [this, hd]
    · rcases lk x c hx with hx | hx <;> rcases lk y c hy with hy | hy
      · exact name_of_addr ok.apart (lookup_mem hx) (lookup_mem hy)
      · have a := (ok.empty x c (lookup_mem hx)).2
        have b := (clS y c hy).2
        exact absurd (Nat.lt_of_lt_of_le b (Nat.le_of_succ_le a)) (Nat.lt_irrefl _)
      · have a := (ok.empty y c (lookup_mem hy)).2
        have b := (clS x c hx).2
        exact absurd (Nat.lt_of_lt_of_le b (Nat.le_of_succ_le a)) (Nat.lt_irrefl _)
      · exact Fm.inj x y c (clS x c hx).1 (clS y c hy).1
inductive All2 (R : D → D → Prop) : List D → List D → Prop
  | nil : All2 R [] []
  | cons {a b : D} {l k : List D} : R a b → All2 R l k → All2 R (a :: l) (b :: k)
theorem All2.snoc {R : D → D → Prop} {a b : D} : ∀ {l k : List D}, All2 R l k → R a b → All2 R (l ++ [a]) (k ++ [b])
  | _, _, .nil, h => .cons h .nil
  | _, _, .cons x r, h => .cons x (r.snoc h)
theorem All2.length {R : D → D → Prop} : ∀ {l k : List D}, All2 R l k → l.length = k.length
  | _, _, .nil => rfl
  | _, _, .cons _ r => by rw [List.length_cons, List.length_cons, r.length]
theorem All2.map {f : D → D} : ∀ {l k : List D}, All2 (fun a b => b = f a) l k → k = l.map f
  | _, _, .nil => rfl
  | _, _, .cons h r => by rw [List.map_cons, ← r.map, h]
noncomputable def ListOb (o : Obj) (vs : List Value) : Prop := ∃ n, o = listOf vs.toArray n
section
variable {prog : Program} {w : World} {cx : Cx} {mu : List MD} {ρ : Rho}
/-- the tests behind an item -/
noncomputable def Tests (prog : Program) (w : World) (cx : Cx) (ρ : Rho) : List Expr → (Bool → Prop) → Prop
  | [], K => K true
  | [c], K => TsP prog w cx [] ρ c K
  | _, _ => False
/-- what must be shown of a block's item -/
noncomputable def Elt (prog : Program) (w : World) (cx : Cx) (ρ : Rho) (scope : Scope) (target elt : Expr) (ifs : List Expr) (p : D → Bool) (R : D → D → Prop) (d : D) : Prop :=
  ∃ τ, Tgt target d τ ∧ (∀ q ∈ τ, isOwn scope q.1 = true) ∧ ∀ L cs U, let cx' := cx.inner scope L cs U
    (∀ q ∈ τ, Storable cx' q.1) ∧ Tests prog w cx' (τ ++ cut scope ρ) ifs (fun b => b = p d) ∧ (p d = true → EvP prog w cx' [] (τ ++ cut scope ρ) elt (R d))
theorem lookup_tau {scope : Scope} {τ ρ : Rho} (h : ∀ q ∈ τ, isOwn scope q.1 = true) {x : Str} {d : D} (hx : (cut scope ρ).lookup x = some d) : (τ ++ cut scope ρ).lookup x = some d := by
  rw [lookup_append]
  cases e : τ.lookup x with
  | none => exact hx
  | some d' =>
    have := h (x, d') (lookup_mem e)
    rw [(cut_lookup hx).2] at this; cases this
theorem tests_ok {cx : Cx} {ρ : Rho} {ifs : List Expr} {K : Bool → Prop} {N : Facts} {s : Shared} {E : Value → Shared → Prop} {Q : Bool → Shared → Prop} (h : Tests prog w cx ρ ifs K) (H : St prog w cx [] ρ N s.heap)
    (hq : ∀ b h' tk N', K b → Sub N N' → St prog w cx [] ρ N' h' → Q b { s with heap := h', toks := tk }) :
    wpAny (model prog w) cx.A (forIn ifs true fun c r => if r = true then do let ok ← isTrue c cx.env (eval c cx.env); pure (ForInStep.yield ok) else pure (ForInStep.yield r)) Q E s := by
  match ifs, h with
  | [], h => rw [List.forIn_nil]; exact wpAny_pure (hq true s.heap s.toks N h (Sub.refl N) H)
  | [c], h =>
    rw [List.forIn_cons]
    simp only [if_true]
    refine wpAny_bind (wpAny_bind (use2 (h N s E H) fun b h' tk N' sb H' k => ?_))
    refine wpAny_pure ?_
    dsimp only
    rw [List.forIn_nil]
    exact wpAny_pure (hq b h' tk N' k sb H')
set_option maxHeartbeats 1600000 in
theorem comp_core {elt target iter : Expr} {ifs : List Expr} {scope : Scope} {pos : Pos} {K : List D → Prop} {N : Facts} {s : Shared} {E : Value → Shared → Prop} {use : Option (Value → Sem Unit)} {Q : Value → Shared → Prop}
    (hh : cx.A.handled = none) (so : ScopeOk scope cx.env) (hpl : Plain target) (hfold : ∀ x, foldedSetIterable iter cx.env x = pure x)
    (hI : EvIt prog w cx mu ρ target iter fun items => items.length ≤ 1000 ∧ ∃ (p : D → Bool) (R : D → D → Prop), (∀ d ∈ items, Elt prog w cx ρ scope target elt ifs p R d) ∧ ∀ ds, All2 R (items.filter p) ds → K ds)
    (H : St prog w cx mu ρ N s.heap)
    (hR : ∀ L oL ml a N' h tk ds, NsOb oL ml → Sub N N' → St prog w (cx.plus [(L, oL)]) mu ρ N' h → DIn prog w cx.S N' (.ref a) (.lst ds) → K ds →
      compPost (model prog w) cx.A E use Q (.ref a) L (.ok .next) { s with heap := h, toks := tk }) :
    wpAny (model prog w) cx.A (comprehension (.ListComp elt [⟨target, iter, ifs, 0⟩] scope pos) scope cx.env (firstIterPos [⟨target, iter, ifs, 0⟩] pos) (newList []) false (eval iter cx.env) use) Q E s := by
  have hcells : ∀ n, (n, NameKind.free) ∈ scope.names → ∃ c, cx.env.cells.lookup n = some c := fun n hn => by
    obtain ⟨m, F, L, Fm, _⟩ := H
    obtain ⟨c, o, e, _⟩ := Fm.cel n (so.fr n hn)
    exact ⟨c, e⟩
  refine wpAny_comprehension_free (g := ⟨target, iter, ifs, 0⟩) (gs := []) rfl hfold (closure_eq hcells) so.hk (fun x hx hl => lookup_of_nodup so.nd (by obtain ⟨a, b⟩ := x; subst hl; exact hx)) ?_
  refine wpAny_mono (hI N s E hpl H) (fun x s₁ hx => wpAny_mono hx (fun it s₂ hit => ?_) fun _ _ e => e) fun _ _ e => e
  obtain ⟨h₁, tk₁, N₁, I, W₀, J, items, rfl, rfl, sb₁, H₁, j₀, dd, hlen, p, R, hE, hK⟩ := hit
  obtain ⟨m, F, Lm, Fm, Mi, Hh, Rr⟩ := H₁
  have Fm₀ : Frame cx.env cx.own m F cx.U := Fm.less (dd.nocell 0 W₀ j₀)
  -- the new list, then the block's names
  refine wpAny_newObj_type ?_
  refine new_comp_env ?_
  have Hp₁ : Hp cx.hb cx.S ((h₁.objs.size, listOf #[] 0) :: (W₀ ++ (F ++ (Lm ++ cx.U)))) N₁ (h₁.push (listOf #[] 0)) := (Hh.perm (perm3 F Lm W₀ cx.U)).pushU _
  obtain ⟨m', F', Hp₂, Fm', hm'⟩ := inner_frame (R := (h₁.objs.size, listOf #[] 0) :: (W₀ ++ (F ++ (Lm ++ cx.U)))) Fm₀ so (fun q hq => by
    refine .tail _ (List.mem_append_right _ ?_)
    rcases List.mem_append.mp hq with hq | hq
    · exact List.mem_append_left _ hq
    · exact List.mem_append_right _ (List.mem_append_right _ hq)) Hp₁
  generalize hcs : (cellsFrom ((h₁.push (listOf #[] 0)).objs.size + 1) scope.names [] ++ clGo cx.env scope.names []) = cs at Fm'
  generalize hG : (F ++ (Lm ++ cx.U)) = G at Hp₂ Fm' Hp₁
  have hcxi : ∀ V, (cx.inner scope (h₁.push (listOf #[] 0)).objs.size cs G).plus V = cx.inner scope (h₁.push (listOf #[] 0)).objs.size cs (V ++ G) := fun V => rfl
  have nc : ∀ (o : Obj) (vs : List Value) (W : Led), ListOb o vs → NoCell W → NoCell ((h₁.objs.size, o) :: W) := fun o vs W ho hW => NoCell.cons (fun z q => by
    obtain ⟨n, e⟩ := ho
    subst e
    cases q) hW
  have St₀ : St prog w ((cx.inner scope (h₁.push (listOf #[] 0)).objs.size cs G).plus ((h₁.objs.size, listOf #[] 0) :: W₀)) [] (cut scope ρ) N₁ (pushCells ((h₁.push (listOf #[] 0)).push { cls := .type "dict", data := .dict #[] }) scope.names) :=
    ⟨m', F', [], Fm', rfl, Hp₂, fun x d hx => by
      obtain ⟨hl, ho⟩ := cut_lookup hx
      obtain ⟨v, a, b⟩ := Rr x d hl
      exact ⟨v, (hm' x ho).trans a, b⟩⟩
  have loop : ∀ s₃ : Shared, s₃ = { s with heap := pushCells ((h₁.push (listOf #[] 0)).push { cls := .type "dict", data := .dict #[] }) scope.names, toks := tk₁ } →
      codeAny (model prog w) cx.A (.compLoop (.ListComp elt [⟨target, iter, ifs, 0⟩] scope pos) 0 (.ref I) (.ref h₁.objs.size) (compEnvC scope cs (h₁.push (listOf #[] 0)).objs.size cx.env))
        (compPost (model prog w) cx.A E use Q (.ref h₁.objs.size) (h₁.push (listOf #[] 0)).objs.size) s₃ := by
    rintro s₃ rfl
    refine codeAny_loop rfl (fun n s' => ∃ i W o ys ds N' h' tk', s' = { s with heap := h', toks := tk' } ∧ i ≤ items.length ∧ n = items.length + 1 - i ∧ J i W ∧ Sub N₁ N' ∧ ListOb o ys ∧ DAll prog w cx.S N' ys ds ∧ All2 R ((items.take i).filter p) ds ∧
      St prog w ((cx.inner scope (h₁.push (listOf #[] 0)).objs.size cs G).plus ((h₁.objs.size, o) :: W)) [] (cut scope ρ) N' h') ?_ (items.length + 1)
      ⟨0, W₀, listOf #[] 0, [], [], N₁, _, tk₁, rfl, Nat.zero_le _, rfl, j₀, Sub.refl _, ⟨0, rfl⟩, .nil, .nil, St₀⟩
    rintro n s' ⟨i, W, o, ys, ds, N₂, h₂, tk₂, rfl, hi, rfl, jW, sb₂, lo, dys, a2, H₂⟩
    show wpAny _ _ ((compTurn (.ListComp elt [⟨target, iter, ifs, 0⟩] scope pos) 0 (.ref I) (.ref h₁.objs.size) (compEnvC scope cs (h₁.push (listOf #[] 0)).objs.size cx.env)).onRaise (fun x => do noteFrame x (compEnvC scope cs (h₁.push (listOf #[] 0)).objs.size cx.env); theTreesLotGoes x)) _ _ _
    refine wpAny_noted ?_
    rw [compTurn_list]
    refine wpAny_bind (wpAny_standAt ?_)
    have ncW := nc o ys W lo (dd.nocell i W jW)
    obtain ⟨R', HR, hUR, back⟩ := H₂.swap ncW
    have HW : Hp cx.hb cx.S (W ++ ((h₁.objs.size, o) :: R')) N₂ h₂ := HR.perm (List.perm_middle.symm)
    by_cases hlt : i < items.length
    · have hget : items[i]? = some items[i] := List.getElem?_eq_getElem hlt
      obtain ⟨τ, tg, hτ, hel⟩ := hE items[i] (List.getElem_mem hlt)
      refine wpAny_bind (wpAny_mono (dd.turn i W _ N₂ { s with heap := h₂, toks := tk₂ } (fun v s₅ => ∃ h₅ tk₅ N₅ W₅, s₅ = { s with heap := h₅, toks := tk₅ } ∧ J (i + 1) W₅ ∧ Sub N₂ N₅ ∧ DIn prog w cx.S N₅ v items[i] ∧ Hp cx.hb cx.S (W₅ ++ ((h₁.objs.size, o) :: R')) N₅ h₅) _ _ hget jW sb₂ HW
        (fun v h₅ tk₅ N₅ W₅ a b c e => ⟨h₅, tk₅, N₅, W₅, rfl, a, b, c, e⟩)) (fun r s₅ hr => ?_) fun _ _ e => e)
      cases r with
      | none => exact hr.elim
      | some v =>
        dsimp only at hr ⊢
        refine wpAny_bind (wpAny_mono hr (fun _ s₆ y => ?_) fun _ _ e => e)
        obtain ⟨h₅, tk₅, N₅, W₅, rfl, j₅, sb₅, iv, H₅⟩ := y
        have St₅ := back ((h₁.objs.size, o) :: W₅) N₅ h₅ sb₅ (H₅.perm List.perm_middle)
        obtain ⟨hst, hts, hev⟩ := hel (h₁.push (listOf #[] 0)).objs.size cs (((h₁.objs.size, o) :: W₅) ++ G)
        refine wpAny_bind (assign_tgt (cx := cx.inner scope (h₁.push (listOf #[] 0)).objs.size cs (((h₁.objs.size, o) :: W₅) ++ G)) hh St₅ tg hst iv fun h₆ tk₆ St₆ => ?_)
        refine wpAny_bind (tests_ok (cx := cx.inner scope (h₁.push (listOf #[] 0)).objs.size cs (((h₁.objs.size, o) :: W₅) ++ G)) hts St₆ fun b h₇ tk₇ N₇ hb sb₇ St₇ => ?_)
        have tk1 : (items.take (i + 1)) = items.take i ++ [items[i]] := by rw [List.take_add_one, hget]; rfl
        have unTau : ∀ {V : Led} {N' : Facts} {h' : Heap}, St prog w (cx.inner scope (h₁.push (listOf #[] 0)).objs.size cs (V ++ G)) [] (τ ++ cut scope ρ) N' h' → St prog w ((cx.inner scope (h₁.push (listOf #[] 0)).objs.size cs G).plus V) [] (cut scope ρ) N' h' := by
          rintro V N' h' ⟨m₈, F₈, L₈, a, b, c, e⟩
          exact ⟨m₈, F₈, L₈, a, b, c, fun x d hx => e x d (lookup_tau hτ hx)⟩
        subst hb
        cases hpd : p items[i] with
        | false =>
          simp only [Bool.false_eq_true, if_false]
          refine wpAny_pure ⟨rfl, _, ?_, i + 1, W₅, o, ys, ds, N₇, h₇, tk₇, rfl, hlt, rfl, j₅, (sb₂.trans sb₅).trans sb₇, lo, dys.mono (sb₅.trans sb₇), ?_, unTau St₇⟩
          · omega
          · rw [tk1, List.filter_append, List.filter_cons, hpd]; simpa using a2
        | true =>
          simp only [if_true]
          refine wpAny_bind (wpAny_bind (post_use (hev hpd N₇ _ _ St₇) fun y h₈ tk₈ N₈ sb₈ hy => ?_))
          obtain ⟨St₈, d₈, i₈, r₈⟩ := hy
          have St₈' := unTau (V := (h₁.objs.size, o) :: W₅) St₈
          obtain ⟨R₈, HR₈, hUR₈, back₈⟩ := St₈'.swap (nc o ys W₅ lo (dd.nocell _ _ j₅))
          obtain ⟨ln, rfl⟩ := lo
          have hyl : ys.length ≤ 1000 := by
            have e1 := dys.length
            have e2 := a2.length
            have e3 : ((items.take i).filter p).length ≤ items.length := Nat.le_trans (List.length_filter_le _ _) (by rw [List.length_take]; exact Nat.min_le_right _ _)
            omega
          refine wpAny_bind (wpAny_list_append_plain (items := ys.toArray) ⟨ln, HR₈.ledU _ (.head _)⟩ (fun h₉ ⟨n₉, e₉⟩ hs₉ => ?_) (by rw [List.size_toArray, sizeLine_eq]; omega))
          have Hp₉ : Hp cx.hb cx.S (((h₁.objs.size, listOf (ys.toArray.push y) n₉) :: W₅) ++ R₈) N₈ h₉ := Hp.setU (V := []) HR₈ hs₉ e₉
          refine wpAny_pure (wpAny_pure ⟨rfl, _, ?_, i + 1, W₅, _, ys ++ [y], ds ++ [d₈], N₈, h₉, tk₈, rfl, hlt, rfl, j₅, ((sb₂.trans sb₅).trans sb₇).trans sb₈, ⟨n₉, by simp⟩, (dys.mono ((sb₅.trans sb₇).trans sb₈)).append (.one i₈), ?_, back₈ _ N₈ h₉ (Sub.refl _) Hp₉⟩)
          · omega
          · rw [tk1, List.filter_append, List.filter_cons, hpd]; simpa using a2.snoc r₈
    · have hie : i = items.length := Nat.le_antisymm hi (Nat.not_lt.mp hlt)
      subst hie
      refine wpAny_bind (wpAny_mono (dd.done W _ N₂ { s with heap := h₂, toks := tk₂ } (fun s₅ => ∃ h₅ tk₅ W₅, s₅ = { s with heap := h₅, toks := tk₅ } ∧ NoCell W₅ ∧ Hp cx.hb cx.S (W₅ ++ ((h₁.objs.size, o) :: R')) N₂ h₅) _ jW sb₂ HW fun h₅ tk₅ W₅ a b => ⟨h₅, tk₅, W₅, rfl, a, b⟩) (fun r s₅ hr => ?_) fun _ _ e => e)
      obtain ⟨rfl, h₅, tk₅, W₅, rfl, nW₅, H₅⟩ := hr
      dsimp only
      refine wpAny_pure ?_
      have St₅ := back ((h₁.objs.size, o) :: W₅) N₂ h₅ (Sub.refl _) (H₅.perm List.perm_middle)
      obtain ⟨m₆, F₆, L₆, Fm₆, e₆, Hp₆, _⟩ := St₅
      have e₆' : L₆ = [] := e₆
      subst e₆'
      obtain ⟨oL, ml, hL, nsL, _⟩ := Fm₆.loc
      obtain ⟨Fa, Fb, rfl⟩ := List.append_of_mem hL
      have Hp₇ : Hp cx.hb cx.S (((h₁.objs.size, o) :: W₅) ++ (((h₁.push (listOf #[] 0)).objs.size, oL) :: ((Fa ++ Fb) ++ G))) N₂ h₅ := Hp₆.perm (by
        show ((Fa ++ ((h₁.push (listOf #[] 0)).objs.size, oL) :: Fb) ++ (((h₁.objs.size, o) :: W₅) ++ G)).Perm _
        refine (List.perm_append_comm_assoc _ _ _).trans ?_
        refine List.Perm.append_left _ ?_
        rw [List.append_assoc, List.cons_append, List.append_assoc]
        exact List.perm_middle)
      have Hp₈ : Hp cx.hb cx.S (W₅ ++ (((h₁.push (listOf #[] 0)).objs.size, oL) :: ((Fa ++ Fb) ++ G))) (addF N₂ h₁.objs.size o) h₅ := Hp.freeze (V := []) Hp₇
      have Hp₉ : Hp cx.hb cx.S (((h₁.push (listOf #[] 0)).objs.size, oL) :: ((Fa ++ Fb) ++ G)) (addF N₂ h₁.objs.size o) h₅ := Hp.drop (V := []) (W := W₅) Hp₈
      have Hp₁₀ : Hp cx.hb cx.S ([((h₁.push (listOf #[] 0)).objs.size, oL)] ++ G) (addF N₂ h₁.objs.size o) h₅ := Hp.drop (V := [((h₁.push (listOf #[] 0)).objs.size, oL)]) (W := Fa ++ Fb) Hp₉
      have sbF : Sub N₁ (addF N₂ h₁.objs.size o) := sb₂.trans sub_addF
      obtain ⟨ln, rfl⟩ := lo
      refine hR _ oL ml _ _ h₅ tk₅ ds nsL (sb₁.trans sbF) ⟨m, F, Lm, Fm₀.more fun q hq => .tail _ hq, Mi.mono sbF, ?_, Rr.mono sbF⟩ (.lst (N := addF N₂ h₁.objs.size _) addF_new rfl rfl rfl (dys.mono sub_addF)) (hK ds (by rw [List.take_length] at a2; exact a2))
      subst hG
      exact Hp₁₀.perm (perm3 F Lm [((h₁.push (listOf #[] 0)).objs.size, oL)] cx.U).symm
  subst hcs
  refine codeAny_compStart_list (loop _ rfl) ?_
  refine dd.self W₀ (F' ++ ((h₁.objs.size, listOf #[] 0) :: G)) N₁ _ _ _ j₀ (Sub.refl _) (Hp₂.perm ?_) (loop _ rfl)
  refine (List.Perm.append_left F' (List.perm_middle.symm)).trans ?_
  exact List.perm_append_comm_assoc F' W₀ _
end
section
variable {prog : Program} {w : World} {cx : Cx} {mu : List MD} {ρ : Rho}
/-- a comprehension as an expression -/
theorem EvP.comp {elt target iter : Expr} {ifs : List Expr} {scope : Scope} {pos : Pos} {K : D → Prop}
    (hh : cx.A.handled = none) (so : ScopeOk scope cx.env) (hpl : Plain target) (hfold : ∀ x, foldedSetIterable iter cx.env x = pure x)
    (hI : EvIt prog w cx mu ρ target iter fun items => items.length ≤ 1000 ∧ ∃ (p : D → Bool) (R : D → D → Prop), (∀ d ∈ items, Elt prog w cx ρ scope target elt ifs p R d) ∧ ∀ ds, All2 R (items.filter p) ds → K (.lst ds)) :
    EvP prog w cx mu ρ (.ListComp elt [⟨target, iter, ifs, 0⟩] scope pos) K := by
  intro N s E H
  rw [eval_ListComp]
  refine comp_core (K := fun ds => K (.lst ds)) hh so hpl hfold hI H fun L oL ml a N' h tk ds nsL sb St' i k => ?_
  obtain ⟨m, F, Lm, Fm, Mi, Hh, R⟩ := St'
  have nc : NoCell [(L, oL)] := NoCell.cons (fun z q => by
    obtain ⟨es, ep, e, _⟩ := nsL
    rw [show ((L, oL) : Addr × Obj).2.data = oL.data from rfl, e] at q; cases q) NoCell.nil
  have Hh' := Hh.perm (perm3 F Lm [(L, oL)] cx.U)
  refine ⟨ml, nsL.ns (Hh'.ledU _ (.head _)), fun h' hs => ⟨h', tk, N', rfl, sb, ⟨m, F, Lm, Fm.less nc, Mi, ?_, R⟩, .lst ds, i, k⟩⟩
  exact Hp.drop1 Hh' hs
/-- how a body ends -/
inductive Oc where
  | next (mu : List MD) (ρ : Rho) | ret (d : D) | brk (mu : List MD) (ρ : Rho) | cont (mu : List MD) (ρ : Rho)
noncomputable def FlP (prog : Program) (w : World) (cx : Cx) (N : Facts) (h : Heap) (K : Oc → Prop) : Flow → Prop
  | .next => ∃ mu ρ, St prog w cx mu ρ N h ∧ K (.next mu ρ)
  | .brk => ∃ mu ρ, St prog w cx mu ρ N h ∧ K (.brk mu ρ)
  | .cont => ∃ mu ρ, St prog w cx mu ρ N h ∧ K (.cont mu ρ)
  | .ret v => ∃ d, DIn prog w cx.S N v d ∧ Hp cx.hb cx.S cx.U N h ∧ K (.ret d)
noncomputable def ExR (prog : Program) (w : World) (cx : Cx) (N : Facts) (s : Shared) (K : Oc → Prop) (f : Flow) (s' : Shared) : Prop := ∃ h tk N', s' = { s with heap := h, toks := tk } ∧ Sub N N' ∧ FlP prog w cx N' h K f
noncomputable def ExP (prog : Program) (w : World) (cx : Cx) (mu : List MD) (ρ : Rho) (ss : List Stmt) (K : Oc → Prop) : Prop :=
  ∀ N s E, St prog w cx mu ρ N s.heap → wpAny (model prog w) cx.A (execs ss cx.env) (ExR prog w cx N s K) E s
noncomputable def S1 (prog : Program) (w : World) (cx : Cx) (mu : List MD) (ρ : Rho) (st : Stmt) (K : Oc → Prop) : Prop :=
  ∀ N s E, St prog w cx mu ρ N s.heap → wpAny (model prog w) cx.A (exec st cx.env) (ExR prog w cx N s K) E s
theorem St.hpU {N : Facts} {h : Heap} (H : St prog w cx mu ρ N h) : Hp cx.hb cx.S cx.U N h := by
  obtain ⟨m, F, L, _, _, H, _⟩ := H
  have h1 : Hp cx.hb cx.S (L ++ cx.U) N h := Hp.drop (V := []) H
  exact Hp.drop (V := []) h1
theorem FlP.mono {N : Facts} {h : Heap} {K K' : Oc → Prop} {f : Flow} (x : FlP prog w cx N h K f) (hk : ∀ o, K o → K' o) : FlP prog w cx N h K' f := by
  cases f with
  | ret v => obtain ⟨d, a, b, c⟩ := x; exact ⟨d, a, b, hk _ c⟩
  | _ => obtain ⟨mu, ρ, a, b⟩ := x; exact ⟨mu, ρ, a, hk _ b⟩
theorem ExP.mono {ss : List Stmt} {K K' : Oc → Prop} (x : ExP prog w cx mu ρ ss K) (hk : ∀ o, K o → K' o) : ExP prog w cx mu ρ ss K' :=
  fun N s E H => wpAny_mono (x N s E H) (fun _ _ ⟨h, tk, N', e, sb, f⟩ => ⟨h, tk, N', e, sb, f.mono hk⟩) fun _ _ e => e
theorem ExP.nil {K : Oc → Prop} (k : K (.next mu ρ)) : ExP prog w cx mu ρ [] K := fun N s E H => wpAny_execs_nil ⟨s.heap, s.toks, N, rfl, Sub.refl N, mu, ρ, H, k⟩
noncomputable def Then (prog : Program) (w : World) (cx : Cx) (rest : List Stmt) (K : Oc → Prop) : Oc → Prop
  | .next mu ρ => ExP prog w cx mu ρ rest K
  | o => K o
theorem ExP.cons {st : Stmt} {rest : List Stmt} {K : Oc → Prop} (h : S1 prog w cx mu ρ st (Then prog w cx rest K)) : ExP prog w cx mu ρ (st :: rest) K := by
  intro N s E H
  refine wpAny_execs_cons (post_use (h N s E H) fun f h' tk N' sb fl => ?_)
  cases f with
  | next =>
    obtain ⟨mu', ρ', H', k⟩ := fl
    refine post_use (k N' _ E H') fun f h'' tk' N'' sb' fl' => ?_
    exact post_mk (sb.trans sb') fl'
  | brk => obtain ⟨mu', ρ', H', k⟩ := fl; exact post_mk sb ⟨mu', ρ', H', k⟩
  | cont => obtain ⟨mu', ρ', H', k⟩ := fl; exact post_mk sb ⟨mu', ρ', H', k⟩
  | ret v => obtain ⟨d, a, b, k⟩ := fl; exact post_mk sb ⟨d, a, b, k⟩
theorem S1.ret {e : Expr} {pos : Pos} {K : Oc → Prop} (h : EvP prog w cx mu ρ e fun d => K (.ret d)) : S1 prog w cx mu ρ (.Return (some e) pos) K := by
  intro N s E H
  refine wpAny_Return_some (ev_use (h N s E H) fun v h' tk N' d sb H' i k => ?_)
  exact post_mk sb ⟨d, i, H'.hpU, k⟩
theorem S1.ite {test : Expr} {body orelse : List Stmt} {pos : Pos} {K : Oc → Prop} (h : TsP prog w cx mu ρ test fun b => ExP prog w cx mu ρ (if b = true then body else orelse) K) : S1 prog w cx mu ρ (.If test body orelse pos) K := by
  intro N s E H
  refine wpAny_If (use2 (h N s E H) fun b h' tk N' sb H' k => ?_)
  have k' := wpAny_mono (k N' { s with heap := h', toks := tk } E H') (Q' := ExR prog w cx N s K) (fun f s'' y => by
    obtain ⟨h'', tk', N'', rfl, sb', fl'⟩ := y
    exact post_mk (sb.trans sb') fl') fun _ _ e => e
  cases b with
  | true => simpa using k'
  | false => simpa using k'
theorem S1.assign {x : Str} {p pos : Pos} {e : Expr} {K : Oc → Prop} (hx : Storable cx x) (hs : swapsWith e (some (.Name x p)) pos.line cx.env = pure false) (h : EvP prog w cx mu ρ e fun d => K (.next mu ((x, d) :: ρ))) : S1 prog w cx mu ρ (.Assign [.Name x p] e pos) K := by
  intro N s E H
  refine wpAny_Assign_Name (ev_use (h N s E H) fun v h' tk N' d sb H' i k => ?_) hs
  exact store_name H' hx i fun h'' tk' H'' => ⟨h'', tk', N', rfl, sb, mu, _, H'', k⟩
theorem S1.assignT {tgt : List Expr} {kk : Nat} {p pos : Pos} {e : Expr} {K : Oc → Prop} (hh : cx.A.handled = none) (hs : swapsWithSole [.Tuple tgt kk p] e pos.line cx.env = pure false) (hw : swappedStores [.Tuple tgt kk p] e cx.env = pure none)
    (h : EvP prog w cx mu ρ e fun d => ∃ τ, Tgt (.Tuple tgt kk p) d τ ∧ (∀ q ∈ τ, Storable cx q.1) ∧ K (.next mu (τ ++ ρ))) : S1 prog w cx mu ρ (.Assign [.Tuple tgt kk p] e pos) K := by
  intro N s E H
  refine Assign_Tuple (ev_use (h N s E H) fun v h' tk N' d sb H' i y => ?_) hs hw
  obtain ⟨τ, tg, hst, k⟩ := y
  exact assign_tgt hh H' tg hst i fun h'' tk' H'' => ⟨h'', tk', N', rfl, sb, mu, _, H'', k⟩
/-- two names stored behind one another, the last first -/
theorem S1.assignSw {x y : Str} {p q p' pos : Pos} {kk : Nat} {e : Expr} {K : Oc → Prop} (hh : cx.A.handled = none) (hs : swapsWithSole [.Tuple [.Name x p, .Name y q] kk p'] e pos.line cx.env = pure false) (hw : swappedStores [.Tuple [.Name x p, .Name y q] kk p'] e cx.env = pure (some [x, y]))
    (hx : Storable cx x) (hy : Storable cx y)
    (h : EvP prog w cx mu ρ e fun d => ∃ a b, d = .tup [a, b] ∧ K (.next mu ((x, a) :: (y, b) :: ρ))) : S1 prog w cx mu ρ (.Assign [.Tuple [.Name x p, .Name y q] kk p'] e pos) K := by
  intro N s E H
  refine Assign_Tuple_swapped (ev_use (h N s E H) fun v h' tk N' d sb H' i z => ?_) hs hw
  obtain ⟨a, b, rfl, k⟩ := z
  cases i using DIn.tup_cases with
  | mk t o vs n ho hc hd r =>
    cases r with
    | @cons u _ _ _ iu r =>
      cases r with
      | @cons v' _ _ _ iv r =>
        cases r
        obtain ⟨m, F, L, Fm, Mi, Hh, R⟩ := H'
        have un := unpackItems_tuple (prog := prog) (w := w) (A := cx.A) (E := E) (s := { s with heap := h', toks := tk }) (t := t) (items := #[u, v']) (Q := fun items s₂ => wpAny (model prog w) cx.A (assignInOrder ([x, y].reverse.map fun n => bindName cx.env n) items.reverse) (fun _ => ExR prog w cx N s K Flow.next) E s₂) hh ⟨o, Hh.led _ _ ho, hc, n, hd⟩ fun h₁ ek => by
          have H₁ : St prog w cx mu ρ N' h₁ := ⟨m, F, L, Fm, Mi, Hh.keeps fun b o e => ek b o (Nat.ne_of_lt (Heap.lt_size e)) e, R⟩
          refine assignInOrder_cons (wpAny_bindName (store_name (cx := cx) (s := { s with heap := h₁, toks := tk }) H₁ hy iv fun h₂ tk₂ H₂ => ?_))
          refine assignInOrder_cons (wpAny_bindName (store_name (cx := cx) (s := { s with heap := h₂, toks := tk₂ }) H₂ hx iu fun h₃ tk₃ H₃ => ?_))
          exact assignInOrder_nil ⟨h₃, tk₃, N', rfl, sb, mu, _, H₃, k⟩
        exact un
/-- a comprehension stored while its names still stand -/
theorem S1.assignComp {x : Str} {p pos pos' : Pos} {elt target iter : Expr} {ifs : List Expr} {scope : Scope} {K : Oc → Prop}
    (hh : cx.A.handled = none) (so : ScopeOk scope cx.env) (hpl : Plain target) (hfold : ∀ x, foldedSetIterable iter cx.env x = pure x) (hx : Storable cx x)
    (hs : swapsWithSole [.Name x p] (.ListComp elt [⟨target, iter, ifs, 0⟩] scope pos) pos'.line cx.env = pure true)
    (hI : EvIt prog w cx mu ρ target iter fun items => items.length ≤ 1000 ∧ ∃ (p : D → Bool) (R : D → D → Prop), (∀ d ∈ items, Elt prog w cx ρ scope target elt ifs p R d) ∧ ∀ ds, All2 R (items.filter p) ds → K (.next mu ((x, .lst ds) :: ρ))) :
    S1 prog w cx mu ρ (.Assign [.Name x p] (.ListComp elt [⟨target, iter, ifs, 0⟩] scope pos) pos') K := by
  intro N s E H
  rw [exec_Assign]
  refine wpAny_bind (wpAny_standAt ?_)
  rw [hs]
  refine wpAny_bind (wpAny_pure ?_)
  simp only [if_true]
  refine wpAny_bind ?_
  rw [arm_evalThenUse_ListComp]
  refine wpAny_bind ?_
  refine comp_core (K := fun ds => K (.next mu ((x, .lst ds) :: ρ))) (Q := fun _ s' => wpAny (model prog w) cx.A (pure ()) (fun _ s'' => wpAny (model prog w) cx.A (pure Flow.next) (ExR prog w cx N s K) E s'') E s') hh so hpl hfold hI H fun L oL ml a N' h tk ds nsL sb St' i k => ?_
  have nc : NoCell [(L, oL)] := NoCell.cons (fun z q => by
    obtain ⟨es, ep, e, _⟩ := nsL
    rw [show ((L, oL) : Addr × Obj).2.data = oL.data from rfl, e] at q; cases q) NoCell.nil
  show wpAny (model prog w) cx.A (assignAll (.ref a) ((assignEach [.Name x p] cx.env).map (·.2))) _ E _
  show wpAny (model prog w) cx.A (PySem.assign (.Name x p) cx.env (.ref a)) _ E _
  refine wpAny_assign_Name (store_name (cx := cx.plus [(L, oL)]) St' hx i fun h₂ tk₂ H₂ => ?_)
  obtain ⟨m, F, Lm, Fm, Mi, Hh, R⟩ := H₂
  have Hh' := Hh.perm (perm3 F Lm [(L, oL)] cx.U)
  refine ⟨ml, nsL.ns (Hh'.ledU _ (.head _)), fun h' hs => wpAny_pure (wpAny_pure ⟨h', tk₂, N', rfl, sb, mu, _, ⟨m, F, Lm, Fm.less nc, Mi, ?_, R⟩, k⟩)⟩
  exact Hp.drop1 Hh' hs
/-- a for -/
theorem S1.for {target iter : Expr} {body orelse : List Stmt} {pos : Pos} {K : Oc → Prop} (hh : cx.A.handled = none) (hpl : Plain target) (hfold : ∀ x, foldedSetIterable iter cx.env x = pure x) (ho : orelse = [])
    (h : EvIt prog w cx mu ρ target iter fun items => ∃ Inv : Nat → List MD → Rho → Prop, Inv 0 mu ρ ∧
      (∀ i d mu' ρ', items[i]? = some d → Inv i mu' ρ' → ∃ τ, Tgt target d τ ∧ (∀ q ∈ τ, Storable cx q.1) ∧ ∀ W, ExP prog w (cx.plus W) mu' (τ ++ ρ') body fun o => match o with
        | .next m r => Inv (i + 1) m r
        | .cont m r => Inv (i + 1) m r
        | .brk m r => K (.next m r)
        | .ret d => K (.ret d)) ∧
      ∀ m r, Inv items.length m r → K (.next m r)) : S1 prog w cx mu ρ (.For target iter body orelse pos) K := by
  subst ho
  intro N s E H
  refine wpAny_For ?_ hfold
  refine wpAny_mono (h N s E hpl H) (fun x s₁ hx => wpAny_mono hx (fun it s₂ hit => ?_) fun _ _ e => e) fun _ _ e => e
  obtain ⟨h₁, tk₁, N₁, I, W₀, J, items, rfl, rfl, sb₁, H₁, j₀, dd, Inv, inv₀, turn, fin⟩ := hit
  refine codeAny_forLoop_any (fun n s' => ∃ i W m r N' h' tk', s' = { s with heap := h', toks := tk' } ∧ i ≤ items.length ∧ n = items.length + 1 - i ∧ J i W ∧ Sub N₁ N' ∧ Inv i m r ∧ St prog w (cx.plus W) m r N' h') ?_ (items.length + 1)
    ⟨0, W₀, mu, ρ, N₁, h₁, tk₁, rfl, Nat.zero_le _, rfl, j₀, Sub.refl _, inv₀, H₁⟩
  rintro n s' ⟨i, W, m, r, N₂, h₂, tk₂, rfl, hi, rfl, jW, sb₂, inv, H₂⟩
  obtain ⟨R', HR, hUR, back⟩ := H₂.swap (dd.nocell i W jW)
  by_cases hlt : i < items.length
  · have hget : items[i]? = some items[i] := List.getElem?_eq_getElem hlt
    obtain ⟨τ, tg, hst, hb⟩ := turn i items[i] m r hget inv
    refine wpAny_mono (dd.turn i W _ N₂ { s with heap := h₂, toks := tk₂ } (fun v s₅ => ∃ h₅ tk₅ N₅ W₅, s₅ = { s with heap := h₅, toks := tk₅ } ∧ J (i + 1) W₅ ∧ Sub N₂ N₅ ∧ DIn prog w cx.S N₅ v items[i] ∧ Hp cx.hb cx.S (W₅ ++ R') N₅ h₅) _ _ hget jW sb₂ HR
        (fun v h₅ tk₅ N₅ W₅ a b c e => ⟨h₅, tk₅, N₅, W₅, rfl, a, b, c, e⟩)) (fun r' s₅ hr => ?_) fun _ _ e => e
    cases r' with
    | none => exact hr.elim
    | some v =>
      dsimp only at hr ⊢
      refine wpAny_mono hr (fun _ s₆ y => ?_) fun _ _ e => e
      obtain ⟨h₅, tk₅, N₅, W₅, rfl, j₅, sb₅, iv, H₅⟩ := y
      have St₅ := back W₅ N₅ h₅ sb₅ H₅
      refine assign_tgt (cx := cx.plus W₅) hh St₅ tg hst iv fun h₆ tk₆ St₆ => ?_
      refine post_use (hb W₅ N₅ _ _ St₆) fun f h₇ tk₇ N₇ sb₇ fl => ?_
      have nW := dd.nocell _ _ j₅
      have down : ∀ {m' r'}, St prog w (cx.plus W₅) m' r' N₇ h₇ → St prog w cx m' r' N₇ h₇ := fun {m' r'} H₇ => by
        obtain ⟨R₈, HR₈, _, back₈⟩ := H₇.swap nW
        exact back₈ [] N₇ h₇ (Sub.refl _) (Hp.drop (V := []) HR₈)
      cases f with
      | next =>
        obtain ⟨m', r', H₇, k⟩ := fl
        exact ⟨_, by omega, i + 1, W₅, m', r', N₇, h₇, tk₇, rfl, hlt, rfl, j₅, (sb₂.trans sb₅).trans sb₇, k, H₇⟩
      | cont =>
        obtain ⟨m', r', H₇, k⟩ := fl
        exact ⟨_, by omega, i + 1, W₅, m', r', N₇, h₇, tk₇, rfl, hlt, rfl, j₅, (sb₂.trans sb₅).trans sb₇, k, H₇⟩
      | brk =>
        obtain ⟨m', r', H₇, k⟩ := fl
        exact post_mk (((sb₁.trans sb₂).trans sb₅).trans sb₇) ⟨m', r', down H₇, k⟩
      | ret v =>
        obtain ⟨d, i', Hu, k⟩ := fl
        exact post_mk (((sb₁.trans sb₂).trans sb₅).trans sb₇) ⟨d, i', Hp.drop (V := []) Hu, k⟩
  · have hie : i = items.length := Nat.le_antisymm hi (Nat.not_lt.mp hlt)
    subst hie
    refine wpAny_mono (dd.done W _ N₂ { s with heap := h₂, toks := tk₂ } (fun s₅ => ∃ h₅ tk₅ W₅, s₅ = { s with heap := h₅, toks := tk₅ } ∧ NoCell W₅ ∧ Hp cx.hb cx.S (W₅ ++ R') N₂ h₅) _ jW sb₂ HR fun h₅ tk₅ W₅ a b => ⟨h₅, tk₅, W₅, rfl, a, b⟩) (fun r' s₅ hr => ?_) fun _ _ e => e
    obtain ⟨rfl, h₅, tk₅, W₅, rfl, nW₅, H₅⟩ := hr
    dsimp only
    exact wpAny_execs_nil ⟨h₅, tk₅, N₂, rfl, sb₁.trans sb₂, m, r, back [] N₂ h₅ (Sub.refl _) (Hp.drop (V := []) H₅), fin m r inv⟩
/-- a while -/
theorem S1.while {test : Expr} {body orelse : List Stmt} {pos : Pos} {K : Oc → Prop} (ho : orelse = []) (Inv : Nat → List MD → Rho → Prop) (n : Nat) (inv₀ : Inv n mu ρ)
    (turn : ∀ n m r, Inv n m r → TsP prog w cx m r test fun b => if b = true then ExP prog w cx m r body fun o => match o with
        | .next m r => ∃ k, k < n ∧ Inv k m r
        | .cont m r => ∃ k, k < n ∧ Inv k m r
        | .brk m r => K (.next m r)
        | .ret d => K (.ret d) else K (.next m r)) : S1 prog w cx mu ρ (.While test body orelse pos) K := by
  subst ho
  intro N s E H
  refine wpAny_While (codeAny_whileLoop (fun n s' => ∃ m r N' h' tk', s' = { s with heap := h', toks := tk' } ∧ Sub N N' ∧ Inv n m r ∧ St prog w cx m r N' h') ?_ n ⟨mu, ρ, N, s.heap, s.toks, rfl, Sub.refl N, inv₀, H⟩)
  rintro n s' ⟨m, r, N₂, h₂, tk₂, rfl, sb₂, inv, H₂⟩
  refine use2 (turn n m r inv N₂ _ _ H₂) fun b h₃ tk₃ N₃ sb₃ H₃ k => ?_
  cases b with
  | true =>
    simp only [if_true] at k ⊢
    refine post_use (k N₃ _ _ H₃) fun f h₇ tk₇ N₇ sb₇ fl => ?_
    cases f with
    | next => obtain ⟨m', r', H₇, k', lt, iv⟩ := fl; exact ⟨k', lt, m', r', N₇, h₇, tk₇, rfl, (sb₂.trans sb₃).trans sb₇, iv, H₇⟩
    | cont => obtain ⟨m', r', H₇, k', lt, iv⟩ := fl; exact ⟨k', lt, m', r', N₇, h₇, tk₇, rfl, (sb₂.trans sb₃).trans sb₇, iv, H₇⟩
    | brk => obtain ⟨m', r', H₇, k'⟩ := fl; exact post_mk ((sb₂.trans sb₃).trans sb₇) ⟨m', r', H₇, k'⟩
    | ret v => obtain ⟨d, i', Hu, k'⟩ := fl; exact post_mk ((sb₂.trans sb₃).trans sb₇) ⟨d, i', Hu, k'⟩
  | false =>
    simp only [Bool.false_eq_true, if_false] at k ⊢
    exact wpAny_execs_nil ⟨h₃, tk₃, N₃, rfl, sb₂.trans sb₃, m, r, H₃, k⟩
/-- weaken what is said of the names -/
theorem St.weak {ρ' : Rho} {N : Facts} {h : Heap} (H : St prog w cx mu ρ N h) (hw : ∀ x d, ρ'.lookup x = some d → ρ.lookup x = some d) : St prog w cx mu ρ' N h := by
  obtain ⟨m, F, L, a, b, c, R⟩ := H
  exact ⟨m, F, L, a, b, c, fun x d hx => R x d (hw x d hx)⟩
noncomputable def Wk (ρ ρ' : Rho) : Prop := ∀ x d, ρ'.lookup x = some d → ρ.lookup x = some d
theorem Wk.nil {ρ : Rho} : Wk ρ [] := fun _ _ h => by cases h
theorem Wk.cons {ρ ρ' : Rho} {x : Str} {d : D} (h : ρ.lookup x = some d) (r : Wk ρ ρ') : Wk ρ ((x, d) :: ρ') := fun y e hy => by
  rw [List.lookup_cons] at hy
  cases q : y == x with
  | true => rw [q] at hy; cases hy; rw [beq_iff_eq.mp q]; exact h
  | false => rw [q] at hy; exact r y e hy
theorem ExP.weak {ρ' : Rho} {ss : List Stmt} {K : Oc → Prop} (hw : Wk ρ ρ') (h : ExP prog w cx mu ρ' ss K) : ExP prog w cx mu ρ ss K := fun N s E H => h N s E (H.weak hw)
end
theorem bindL_out {k : Str → Option NameKind} : ∀ {l : List (Str × Value)} {m : Str → Option Value} {x : Str}, x ∉ l.map (·.1) → bindL k l m x = m x
  | [], _, _, _ => rfl
  | (n, v) :: r, m, x, h => by
    rw [List.map_cons, List.mem_cons, not_or] at h
    unfold bindL
    rw [bindL_out h.2]
    split
    · exact if_neg h.1
    · rfl
theorem bindL_in {k : Str → Option NameKind} : ∀ {l : List (Str × Value)} {m : Str → Option Value} {x : Str} {v : Value}, (l.map (·.1)).Nodup → (x, v) ∈ l → k x = some .local → bindL k l m x = some v
  | (n, u) :: r, m, x, v, hn, h, hk => by
    rw [List.map_cons, List.nodup_cons] at hn
    unfold bindL
    rcases List.mem_cons.mp h with e | h
    · cases e
      rw [bindL_out hn.1, if_pos hk, if_pos rfl]
    · exact bindL_in hn.2 h hk
theorem bindC_out {k : Str → Option NameKind} : ∀ {l : List (Str × Value)} {m : Str → Option Value} {x : Str}, x ∉ l.map (·.1) → bindC k l m x = m x
  | [], _, _, _ => rfl
  | (n, v) :: r, m, x, h => by
    rw [List.map_cons, List.mem_cons, not_or] at h
    unfold bindC
    rw [bindC_out h.2]
    split
    · rfl
    · exact if_neg h.1
theorem bindC_in {k : Str → Option NameKind} : ∀ {l : List (Str × Value)} {m : Str → Option Value} {x : Str} {v : Value}, (l.map (·.1)).Nodup → (x, v) ∈ l → k x ≠ some .local → bindC k l m x = some v
  | (n, u) :: r, m, x, v, hn, h, hk => by
    rw [List.map_cons, List.nodup_cons] at hn
    unfold bindC
    rcases List.mem_cons.mp h with e | h
    · cases e
      rw [bindC_out hn.1, if_neg hk, if_pos rfl]
    · exact bindC_in hn.2 h hk
section
variable {prog : Program} {w : World}
theorem zip_in {S : List Addr} {N : Facts} : ∀ {ps : List Str} {vs : List Value} {ds : List D} {x : Str} {d : D}, DAll prog w S N vs ds → (x, d) ∈ ps.zip ds → ∃ v, (x, v) ∈ ps.zip vs ∧ DIn prog w S N v d
  | [], _, _, _, _, _, h => by simp at h
  | p :: ps, _, _, x, d, .nil, h => by simp at h
  | p :: ps, v :: vs, e :: ds, x, d, .cons a r, h => by
    rw [List.zip_cons_cons] at h
    rcases List.mem_cons.mp h with q | h
    · cases q; exact ⟨v, .head _, a⟩
    · obtain ⟨u, b, c⟩ := zip_in r h; exact ⟨u, .tail _ b, c⟩
theorem zip_fst {α : Type} : ∀ {ps : List Str} {vs : List α}, vs.length = ps.length → (ps.zip vs).map (·.1) = ps
  | [], _, _ => by simp
  | p :: ps, [], h => by simp at h
  | p :: ps, v :: vs, h => by rw [List.zip_cons_cons, List.map_cons, zip_fst (by simpa using h)]
/-- what a def's object must say -/
structure FnOk (hb : Heap) (fa : Addr) (fd : FuncData) (body : List Stmt) (params : List Str) : Prop where
  at_ : ∃ o, hb.get? fa = some o ∧ o.data = .func fd
  code : hb.CodeRec fd.code fd.qualname
  body_ : fd.body = .stmts body
  clo : fd.closure = []
  glob : fd.globals = mainGlobals
  blt : fd.builtins = builtinsNs
  bind : ∀ vs : List Value, vs.length = params.length → bindArgs fd ⟨vs, []⟩ = pure (params.zip vs)
  kind : fd.scope.kind = .function
  co : fd.scope.isCoroutine = false
  gen : fd.scope.isGenerator = false
  nd : (fd.scope.names.map (·.1)).Nodup
  nofree : ∀ p ∈ fd.scope.names, p.2 ≠ .free
  pars : ∀ x ∈ params, fd.scope.names.lookup x = some .local ∨ fd.scope.names.lookup x = some .cell
  pnd : params.Nodup
noncomputable def Cx.fn (hb : Heap) (S : List Addr) (A : Around) (fd : FuncData) (L fa : Addr) (U : Led) : Cx := { hb, S, A := A.deeper (callEnvC fd L fa), env := callEnvC fd L fa, own := ownOf fd.scope, U }
theorem fn_raw {hb : Heap} {S : List Addr} {A : Around} {fa : Addr} {fd : FuncData} {body : List Stmt} {params : List Str} {ds : List D} {mu : List MD} {Lm : Led} {N : Facts} {vs : List Value} {U : Led} {s : Shared} {R : Result → Shared → Prop}
    (ok : FnOk hb fa fd body params) (hroom : A.depth < recursionLimit) (hlim : hb.NoLimit) (hlen : ds.length = params.length)
    (hv : DAll prog w S N vs ds) (hmi : MIn prog w S N mu Lm) (H : Hp hb S (Lm ++ U) N s.heap)
    (h : ∀ L h₁ tk₁ E, St prog w (Cx.fn hb S A fd L fa U) mu (params.zip ds) N h₁ →
      wpAny (model prog w) (A.deeper (callEnvC fd L fa)) (execs body (callEnvC fd L fa)) (fun f s' => R (.ok (.ret (match f with | .ret v => v | _ => .none))) s') E { s with heap := h₁, toks := tk₁ }) :
    codeAny (model prog w) A (.call (.ref fa) ⟨vs, []⟩) R s := by
  obtain ⟨o, ho, hd⟩ := ok.at_
  have hl : vs.length = params.length := hv.length.trans hlen
  have fst := zip_fst hl
  have kindP : ∀ x ∈ params.zip vs, fd.scope.names.lookup x.1 = some .local ∨ fd.scope.names.lookup x.1 = some .cell := fun x hx => ok.pars x.1 (by rw [← fst]; exact List.mem_map_of_mem hx)
  refine codeAny_call_cells hroom (H.keep _ _ ho) hd (hlim.keeps H.keep) (ok.code.keeps H.keep) ok.body_ (ok.bind vs hl) ok.clo (fun x hx => (kindP x hx).imp id fun e => ⟨e, cellsFrom_some _ _ _ (.inl e)⟩) (fun s₁ ic => ?_) ok.co ok.gen ok.kind
  obtain ⟨⟨⟨h₁, tk₁, rfl⟩, ns₁, keep₁, fr₁⟩, cell₁, apart₁, above₁⟩ := ic
  have cok : ∀ n c, (n, c) ∈ cellsFrom (s.heap.objs.size + 1) fd.scope.names [] → fd.scope.names.lookup n = some .cell := fun n c hm => by
    rcases cellsFrom_mem _ _ _ _ _ hm with q | q
    · cases q
    · exact lookup_of_nodup ok.nd q
  -- the frame's own objects
  obtain ⟨oL, heL, nsL⟩ := LCg.ns_obj ns₁
  have cellsL : ∀ (cs : List (Str × Addr)), (∀ n c, (n, c) ∈ cs → ∃ v, h₁.IsCell c v) → (cs.Pairwise fun x y => x.2 ≠ y.2) →
      ∃ V : Led, (∀ p ∈ V, h₁.get? p.1 = some p.2) ∧ (∀ p ∈ V, ∃ n, (n, p.1) ∈ cs) ∧ (V.map (·.1)).Nodup ∧ ∀ n c, (n, c) ∈ cs → ∃ o, (c, o) ∈ V := by
    intro cs
    induction cs with
    | nil => intro _ _; exact ⟨[], fun _ h => (nomatch h), fun _ h => (nomatch h), List.nodup_nil, fun _ _ h => (nomatch h)⟩
    | cons p r ih =>
      intro hc hp
      obtain ⟨n, c⟩ := p
      obtain ⟨p1, p2⟩ := List.pairwise_cons.mp hp
      obtain ⟨V, v1, v2, v3, v4⟩ := ih (fun n c hm => hc n c (.tail _ hm)) p2
      obtain ⟨v, o, ho, hd⟩ := hc n c (.head _)
      refine ⟨(c, o) :: V, fun q hq => ?_, fun q hq => ?_, ?_, fun m d hm => ?_⟩
      · rcases List.mem_cons.mp hq with rfl | hq
        · exact ho
        · exact v1 q hq
      · rcases List.mem_cons.mp hq with rfl | hq
        · exact ⟨n, .head _⟩
        · obtain ⟨m, hm⟩ := v2 q hq; exact ⟨m, .tail _ hm⟩
      · rw [List.map_cons, List.nodup_cons]
        refine ⟨fun hm => ?_, v3⟩
        obtain ⟨q, hq, e⟩ := List.mem_map.mp hm
        obtain ⟨m, hm'⟩ := v2 q hq
        exact p1 _ hm' e.symm
      · rcases List.mem_cons.mp hm with e | hm
        · cases e; exact ⟨o, .head _⟩
        · obtain ⟨o', a⟩ := v4 m d hm; exact ⟨o', .tail _ a⟩
  have nameInj : ∀ n c, (n, c) ∈ cellsFrom (s.heap.objs.size + 1) fd.scope.names [] → (cellsFrom (s.heap.objs.size + 1) fd.scope.names []).lookup n = some c := fun n c hm => by
    have hs := cellsFrom_some fd.scope.names (s.heap.objs.size + 1) [] (x := n) (.inl (cok n c hm))
    obtain ⟨c', hc'⟩ := Option.isSome_iff_exists.mp hs
    have ok' := cellsFrom_ok fd.scope.names (s.heap.push { cls := .type "frame", data := .dict #[] }) (s.heap.objs.size + 1) [] ⟨fun _ _ hm => (nomatch hm), List.Pairwise.nil⟩ (by rw [Heap.size_push]; exact Nat.le_refl _)
    rw [hc']
    -- names are apart too
    have nn : ∀ (names : List (Str × NameKind)) (k : Nat) (acc : List (Str × Addr)), (names.map (·.1)).Nodup → (∀ x ∈ acc.map (·.1), x ∉ names.map (·.1)) → (acc.map (·.1)).Nodup → ((cellsFrom k names acc).map (·.1)).Nodup := by
      intro names
      induction names with
      | nil => intro k acc _ _ h3; exact h3
      | cons p r ih =>
        intro k acc h1 h2 h3
        obtain ⟨y, kd⟩ := p
        rw [List.map_cons, List.nodup_cons] at h1
        unfold cellsFrom
        split
        · refine ih _ _ h1.2 (fun x hx => ?_) ?_
          · rcases List.mem_cons.mp (by simpa using hx : x ∈ y :: acc.map (·.1)) with e | hx
            · rw [e]; exact h1.1
            · exact fun q => h2 x hx (by rw [List.map_cons]; exact .tail _ q)
          · rw [List.map_cons, List.nodup_cons]
            exact ⟨fun q => h2 y q (by rw [List.map_cons]; exact .head _), h3⟩
        · exact ih _ _ h1.2 (fun x hx q => h2 x hx (by rw [List.map_cons]; exact .tail _ q)) h3
    have := lookup_of_nodup (nn fd.scope.names (s.heap.objs.size + 1) [] ok.nd (fun _ h => by simp at h) (by simp)) hm
    rw [← this, hc']
  obtain ⟨V, v1, v2, v3, v4⟩ := cellsL (cellsFrom (s.heap.objs.size + 1) fd.scope.names []) (fun n c hm => ⟨_, cell₁ n c (nameInj n c hm)⟩) apart₁
  have vL : ∀ p ∈ V, s.heap.objs.size < p.1 := fun p hp => by
    obtain ⟨n, hm⟩ := v2 p hp
    exact above₁ n p.1 hm
  have Hp₁ : Hp hb S (((s.heap.objs.size, oL) :: V) ++ (Lm ++ U)) N h₁ := Hp.fresh H keep₁ (fun p hp => by
      rcases List.mem_cons.mp hp with rfl | hp
      · exact heL
      · exact v1 p hp) (fun p hp => by
      rcases List.mem_cons.mp hp with rfl | hp
      · exact Nat.le_refl _
      · exact Nat.le_of_lt (vL p hp)) (by
      rw [List.map_cons, List.nodup_cons]
      refine ⟨fun hm => ?_, v3⟩
      obtain ⟨p, hp, e⟩ := List.mem_map.mp hm
      have e' : p.1 = s.heap.objs.size := e
      have := vL p hp
      rw [e'] at this
      exact absurd this (Nat.lt_irrefl _))
  have kO : ∀ x, (callEnvC fd s.heap.objs.size fa).kindOf x = fd.scope.names.lookup x := fun _ => rfl
  let m : Str → Option Value := fun x => if fd.scope.names.lookup x = some .local then bindL (callEnvC fd s.heap.objs.size fa).kindOf (params.zip vs) (fun _ => none) x else bindC (callEnvC fd s.heap.objs.size fa).kindOf (params.zip vs) (fun _ => none) x
  have cellAt : ∀ x, fd.scope.names.lookup x = some .cell → ∃ c o, (callEnvC fd s.heap.objs.size fa).cells.lookup x = some c ∧ (c, o) ∈ (s.heap.objs.size, oL) :: V ∧ o.data = .cell (m x) := fun x hx => by
    obtain ⟨c, hc⟩ := Option.isSome_iff_exists.mp (cellsFrom_some fd.scope.names (s.heap.objs.size + 1) [] (x := x) (.inl hx))
    obtain ⟨o, ho⟩ := v4 x c (lookup_mem hc)
    obtain ⟨o', ho', hd'⟩ := cell₁ x c hc
    have e1 := v1 _ ho
    have e2 : h₁.get? c = some o := e1
    have ho'' : h₁.get? c = some o' := ho'
    rw [e2] at ho''
    cases ho''
    refine ⟨c, o, hc, .tail _ ho, ?_⟩
    rw [hd']
    show Data.cell _ = Data.cell (m x)
    simp only [m, hx]
    rfl
  have Fm : Frame (callEnvC fd s.heap.objs.size fa) (ownOf fd.scope) m ((s.heap.objs.size, oL) :: V) U := by
    refine ⟨ok.kind, ok.glob, ok.blt, ⟨oL, _, .head _, nsL, fun x hx => ?_⟩, fun x hx => ?_, fun x hx => ?_, fun x y c hx hy => ?_⟩
    · have hx' : fd.scope.names.lookup x = some .local := hx
      simp only [m, hx', if_true]
    · rcases hx with hx | hx
      · obtain ⟨c, o, a, b, e⟩ := cellAt x hx
        exact ⟨c, o, a, List.mem_append_left _ b, e⟩
      · exact absurd rfl (ok.nofree _ (lookup_mem (show fd.scope.names.lookup x = some .free from hx)))
    · have hxc : (x, NameKind.cell) ∈ fd.scope.names := by
        obtain ⟨p, hp, rfl⟩ := List.mem_map.mp hx
        obtain ⟨hp1, hp2⟩ := List.mem_filter.mp hp
        have : p.2 = .cell := by simpa using hp2
        rw [← this]; exact hp1
      have e := lookup_of_nodup ok.nd hxc
      exact ⟨e, cellAt x e⟩
    · exact name_of_addr apart₁ (lookup_mem hx) (lookup_mem hy)
  have Rr : RhoIs prog w S N (params.zip ds) m := fun x d hx => by
    obtain ⟨v, hv1, hv2⟩ := zip_in hv (lookup_mem hx)
    refine ⟨v, ?_, hv2⟩
    have hnd : ((params.zip vs).map (·.1)).Nodup := by rw [fst]; exact ok.pnd
    show (if fd.scope.names.lookup x = some .local then _ else _) = _
    by_cases hk : fd.scope.names.lookup x = some .local
    · rw [if_pos hk]; exact bindL_in hnd hv1 hk
    · rw [if_neg hk]; exact bindC_in hnd hv1 hk
  exact h s.heap.objs.size h₁ tk₁ _ ⟨m, _, Lm, Fm, hmi, Hp₁, Rr⟩
theorem fn_code {hb : Heap} {S : List Addr} {A : Around} {fa : Addr} {fd : FuncData} {body : List Stmt} {params : List Str} {ds : List D} {K : D → Prop} {N : Facts} {vs : List Value} {U : Led} {s : Shared}
    (ok : FnOk hb fa fd body params) (hroom : A.depth < recursionLimit) (hlim : hb.NoLimit) (hlen : ds.length = params.length)
    (h : ∀ L U, ExP prog w (Cx.fn hb S A fd L fa U) [] (params.zip ds) body fun o => match o with
      | .ret d => K d
      | .next _ _ => K .none
      | _ => False)
    (hv : DAll prog w S N vs ds) (H : Hp hb S U N s.heap) :
    codeAny (model prog w) A (.call (.ref fa) ⟨vs, []⟩) (fun r s' => ∃ v h tk N', r = .ok (.ret v) ∧ s' = { s with heap := h, toks := tk } ∧ Sub N N' ∧ Hp hb S U N' h ∧ Is prog w S K v N') s := by
  refine fn_raw (mu := []) (Lm := []) (U := U) ok hroom hlim hlen hv rfl H fun L h₁ tk₁ E st => ?_
  refine wpAny_mono (h L U N { s with heap := h₁, toks := tk₁ } _ st) (fun f s' x => ?_) fun _ _ e => e
  obtain ⟨h₂, tk₂, N₂, rfl, sb, fl⟩ := x
  cases f with
  | ret v =>
    obtain ⟨d, i, Hu, k⟩ := fl
    exact ⟨v, h₂, tk₂, N₂, rfl, rfl, sb, Hu, d, i, k⟩
  | next =>
    obtain ⟨mu', ρ', H', k⟩ := fl
    exact ⟨.none, h₂, tk₂, N₂, rfl, rfl, sb, H'.hpU, .none, .none, k⟩
  | brk => obtain ⟨mu', ρ', H', k⟩ := fl; exact k.elim
  | cont => obtain ⟨mu', ρ', H', k⟩ := fl; exact k.elim
theorem fn_call {hb : Heap} {S : List Addr} {A : Around} {fa : Addr} {fd : FuncData} {body : List Stmt} {params : List Str} {ds : List D} {K : D → Prop}
    (ok : FnOk hb fa fd body params) (hroom : A.depth < recursionLimit) (hlim : hb.NoLimit) (hlen : ds.length = params.length)
    (h : ∀ L U, ExP prog w (Cx.fn hb S A fd L fa U) [] (params.zip ds) body fun o => match o with
      | .ret d => K d
      | .next _ _ => K .none
      | _ => False) : OpN prog w hb S A (fun vs => call (.ref fa) vs) ds K := by
  intro N vs hv U s E H
  refine wpAny_call (codeAny_mono (fn_code ok hroom hlim hlen h hv H) fun r s' x => ?_)
  obtain ⟨v, h', tk, N', rfl, rfl, sb, H', i⟩ := x
  exact ⟨h', tk, N', rfl, sb, H', i⟩
end
/-- the ground of the whole call -/
structure Gd (Kf : Frag) (hb : Heap) : Prop where
  X : Kf.In hb
  g : ∃ mg, hb.Ns mainGlobals mg
  b : ∃ mb, hb.Ns builtinsNs mb ∧ ∀ x : Str, x ≠ "__name__" → mb x = bootBuiltins x
  nolimit : hb.NoLimit
  big : ∃ b o, hb.get? b = some o ∧ sysModules < b
section
variable {prog : Program} {w : World} {cx : Cx} {mu : List MD} {ρ : Rho} {Kf : Frag}
theorem St.frame {N : Facts} {h : Heap} (H : St prog w cx mu ρ N h) : cx.env.scope.kind = .function ∧ cx.env.globals = mainGlobals ∧ cx.env.builtins = builtinsNs := by
  obtain ⟨m, F, L, Fm, _⟩ := H
  exact ⟨Fm.hk, Fm.hg, Fm.hb⟩
theorem St.keep {N : Facts} {h : Heap} (H : St prog w cx mu ρ N h) : ∀ b o, cx.hb.get? b = some o → h.get? b = some o := by
  obtain ⟨m, F, L, Fm, Mi, Hh, R⟩ := H
  exact Hh.keep
theorem name_glob {x : Str} {pos : Pos} {v : Value} {N : Facts} {s : Shared} {E : Value → Shared → Prop} {Q : Value → Shared → Prop} (G : Gd Kf cx.hb) (H : St prog w cx mu ρ N s.heap) (hx : cx.env.kindOf x = some .globalImplicit) (e : nsIn Kf mainGlobals x = some (some v))
    (hd : (x == ("__debug__" : Str)) = false) (h : Q v s) : wpAny (model prog w) cx.A (eval (.Name x pos) cx.env) Q E s := by
  obtain ⟨mg, hmg⟩ := G.g
  obtain ⟨hk, hg, _⟩ := H.frame
  exact Name_function_global hk hx (loadGlobal_global (by rw [hg]; exact hmg.keeps H.keep) (mg_of G.X hmg e) h) hd
theorem name_blt {x : Str} {pos : Pos} {v : Value} {N : Facts} {s : Shared} {E : Value → Shared → Prop} {Q : Value → Shared → Prop} (G : Gd Kf cx.hb) (H : St prog w cx mu ρ N s.heap) (hx : cx.env.kindOf x = some .globalImplicit) (e : nsIn Kf mainGlobals x = some none)
    (hv : bootBuiltins x = some v) (hn : x ≠ "__name__") (hd : (x == ("__debug__" : Str)) = false) (h : Q v s) : wpAny (model prog w) cx.A (eval (.Name x pos) cx.env) Q E s := by
  obtain ⟨mg, hmg⟩ := G.g
  obtain ⟨mb, hmb, hbb⟩ := G.b
  obtain ⟨hk, hg, hb⟩ := H.frame
  exact Name_function_global hk hx (loadGlobal_builtin (by rw [hg]; exact hmg.keeps H.keep) (mg_none_of G.X hmg e) (by rw [hb]; exact hmb.keeps H.keep) ((hbb x hn).trans hv) h) hd
/-- a global's value that is a datum -/
theorem EvP.glob {x : Str} {pos : Pos} {a : Addr} {d : D} {K : D → Prop} (G : Gd Kf cx.hb) (hx : cx.env.kindOf x = some .globalImplicit) (e : nsIn Kf mainGlobals x = some (some (.ref a))) (hd : (x == ("__debug__" : Str)) = false)
    (hi : ∀ N, (∀ b o, cx.hb.get? b = some o → N b o) → DIn prog w cx.S N (.ref a) d) (h : K d) : EvP prog w cx mu ρ (.Name x pos) K := by
  intro N s E H
  refine name_glob G H hx e hd ⟨s.heap, s.toks, N, rfl, Sub.refl N, H, d, hi N ?_, h⟩
  obtain ⟨m, F, L, Fm, Mi, Hh, R⟩ := H
  exact Hh.base
noncomputable def ArgsP (prog : Program) (w : World) (cx : Cx) (mu : List MD) (ρ : Rho) (args : List Expr) (K : List D → Prop) : Prop :=
  ∀ N pos, Tr prog w cx mu ρ N (spliced (backTo pos (starEach args cx.env))) (fun vs N' => ∃ ds, DAll prog w cx.S N' vs ds ∧ K ds)
theorem ArgsP.nil {K : List D → Prop} (k : K []) : ArgsP prog w cx mu ρ [] K := fun N pos s E H => wpAny_items_nil ⟨s.heap, s.toks, N, rfl, Sub.refl N, H, [], .nil, k⟩
theorem ArgsP.cons {e : Expr} {rest : List Expr} {K : List D → Prop} (he : starEach (e :: rest) cx.env = (false, eval e cx.env) :: starEach rest cx.env) (h : EvP prog w cx mu ρ e fun d => ArgsP prog w cx mu ρ rest fun ds => K (d :: ds)) : ArgsP prog w cx mu ρ (e :: rest) K := by
  intro N pos s E H
  refine wpAny_items_cons (ev_use (h N s E H) fun v h₁ tk₁ N₁ d sb₁ H₁ i k => ?_) he
  refine ev_use (k N₁ pos _ E H₁) fun vs h₂ tk₂ N₂ ds sb₂ H₂ is k' => ?_
  exact post_mk (sb₁.trans sb₂) ⟨H₂, d :: ds, .cons (i.mono sb₂) is, k'⟩
noncomputable def OpT (prog : Program) (w : World) (cx : Cx) (mu : List MD) (ρ : Rho) (f : List Value → Sem Value) (ds : List D) (K : D → Prop) : Prop := ∀ N vs, DAll prog w cx.S N vs ds → Tr prog w cx mu ρ N (f vs) (Is prog w cx.S K)
theorem OpN.toT {f : List Value → Sem Value} {ds : List D} {K : D → Prop} (h : OpN prog w cx.hb cx.S cx.A f ds K) : OpT prog w cx mu ρ f ds K := fun N vs hv => (h N vs hv).tr
theorem Op1.toN {hb : Heap} {S : List Addr} {A : Around} {f : List Value → Sem Value} {d : D} {K : D → Prop} (h : Op1 prog w hb S A (fun v => f [v]) d K) : OpN prog w hb S A f [d] K := fun N vs hv => by
  cases hv with
  | cons i r => cases r; exact h N _ i
theorem Op2.toN {hb : Heap} {S : List Addr} {A : Around} {f : List Value → Sem Value} {a b : D} {K : D → Prop} (h : Op2 prog w hb S A (fun u v => f [u, v]) a b K) : OpN prog w hb S A f [a, b] K := fun N vs hv => by
  cases hv with
  | cons i r => cases r with | cons j r => cases r; exact h N _ _ i j
noncomputable def plainArgs (args : List Expr) (env : Env) (pos : Pos) : Prop := (backTo pos (starEach args env)).any (·.1) = false
theorem EvP.callK {f : Str} {p pos : Pos} {a : Addr} {e : Expr} {rest : List Expr} {K : D → Prop} (G : Gd Kf cx.hb) (hx : cx.env.kindOf f = some .globalImplicit) (hn : nsIn Kf mainGlobals f = some (some (.ref a))) (hd : (f == ("__debug__" : Str)) = false)
    (hk : keepIn Kf (.ref a) = true) (he : starEach (e :: rest) cx.env = (false, eval e cx.env) :: starEach rest cx.env) (hp : plainArgs rest cx.env pos) (h : ArgsP prog w cx mu ρ (e :: rest) fun ds => OpT prog w cx mu ρ (fun vs => call (.ref a) vs) ds K) :
    EvP prog w cx mu ρ (.Call (.Name f p) (e :: rest) [] pos) K := by
  intro N s E H
  refine Call_ (name_glob G H hx hn hd ?_)
  refine callWith_K G.X hk (ev_use (h N pos s E H) fun vs h₁ tk₁ N₁ ds sb₁ H₁ is k => ?_) he hp
  refine ⟨G.X.keeps H₁.keep, use2 (k N₁ vs is _ E H₁) fun v h₂ tk₂ N₂ sb₂ H₂ k₂ => ?_⟩
  exact post_mk (sb₁.trans sb₂) ⟨H₂, k₂⟩
theorem EvP.callB {f : Str} {p pos : Pos} {id : String} {e : Expr} {rest : List Expr} {K : D → Prop} (G : Gd Kf cx.hb) (hx : cx.env.kindOf f = some .globalImplicit) (hn : nsIn Kf mainGlobals f = some none) (hv : bootBuiltins f = some (.builtin id)) (hne : f ≠ "__name__") (hd : (f == ("__debug__" : Str)) = false)
    (he : starEach (e :: rest) cx.env = (false, eval e cx.env) :: starEach rest cx.env) (hp : plainArgs rest cx.env pos) (h : ArgsP prog w cx mu ρ (e :: rest) fun ds => OpT prog w cx mu ρ (fun vs => call (.builtin id) vs) ds K) :
    EvP prog w cx mu ρ (.Call (.Name f p) (e :: rest) [] pos) K := by
  intro N s E H
  refine Call_ (name_blt G H hx hn hv hne hd ?_)
  have hh := h N pos s E H
  rw [he] at hh ⊢
  refine callWith_builtin (by show (false || (backTo pos (starEach rest cx.env)).any (·.1)) = false; rw [show (backTo pos (starEach rest cx.env)).any (·.1) = false from hp]; rfl) (evalArgs_plain (wpAny_mono hh (fun vs s₁ x => ?_) fun _ _ e => e))
  obtain ⟨h₁, tk₁, N₁, rfl, sb₁, H₁, ds, is, k⟩ := x
  refine use2 (k N₁ vs is _ E H₁) fun v h₂ tk₂ N₂ sb₂ H₂ k₂ => ?_
  exact post_mk (sb₁.trans sb₂) ⟨H₂, k₂⟩
theorem EvP.callTy {f : Str} {p pos : Pos} {T : String} {e : Expr} {rest : List Expr} {K : D → Prop} (G : Gd Kf cx.hb) (hx : cx.env.kindOf f = some .globalImplicit) (hn : nsIn Kf mainGlobals f = some none) (hv : bootBuiltins f = some (.type T)) (hne : f ≠ "__name__") (hd : (f == ("__debug__" : Str)) = false)
    (he : starEach (e :: rest) cx.env = (false, eval e cx.env) :: starEach rest cx.env) (hp : plainArgs rest cx.env pos) (h : ArgsP prog w cx mu ρ (e :: rest) fun ds => OpT prog w cx mu ρ (fun vs => call (.type T) vs) ds K) :
    EvP prog w cx mu ρ (.Call (.Name f p) (e :: rest) [] pos) K := by
  intro N s E H
  refine Call_ (name_blt G H hx hn hv hne hd ?_)
  have hh := h N pos s E H
  rw [he] at hh ⊢
  refine PySem.callWith_type (by show (false || (backTo pos (starEach rest cx.env)).any (·.1)) = false; rw [show (backTo pos (starEach rest cx.env)).any (·.1) = false from hp]; rfl) (evalArgs_plain (wpAny_mono hh (fun vs s₁ x => ?_) fun _ _ e => e))
  obtain ⟨h₁, tk₁, N₁, rfl, sb₁, H₁, ds, is, k⟩ := x
  refine use2 (k N₁ vs is _ E H₁) fun v h₂ tk₂ N₂ sb₂ H₂ k₂ => ?_
  exact post_mk (sb₁.trans sb₂) ⟨H₂, k₂⟩
-- displays
theorem EvP.tup {es : List Expr} {kk : Nat} {pos : Pos} {K : D → Prop} (h : ArgsP prog w cx mu ρ es fun ds => ds.length ≤ 1000 ∧ K (.tup ds)) : EvP prog w cx mu ρ (.Tuple es kk pos) K := by
  intro N s E H
  refine wpAny_Tuple (ev_use (h N pos s E H) fun vs h₁ tk₁ N₁ ds sb₁ H₁ is x => ?_)
  obtain ⟨hl, k⟩ := x
  refine ⟨by rw [is.length, sizeLine_eq]; omega, ?_⟩
  obtain ⟨m, F, L, Fm, Mi, Hh, R⟩ := H₁
  exact post_mk (sb₁.trans sub_addF) ⟨⟨m, F, L, Fm, Mi.mono sub_addF, Hh.push _, R.mono sub_addF⟩, .tup ds, .tup addF_new rfl rfl (is.mono sub_addF), k⟩
theorem EvP.list {es : List Expr} {pos : Pos} {K : D → Prop} (h : ArgsP prog w cx mu ρ es fun ds => ds.length ≤ 1000 ∧ K (.lst ds)) : EvP prog w cx mu ρ (.List es pos) K := by
  intro N s E H
  refine wpAny_List (ev_use (h N pos s E H) fun vs h₁ tk₁ N₁ ds sb₁ H₁ is x => ?_)
  obtain ⟨hl, k⟩ := x
  refine ⟨by rw [is.length, sizeLine_eq]; omega, ?_⟩
  obtain ⟨m, F, L, Fm, Mi, Hh, R⟩ := H₁
  exact post_mk (sb₁.trans sub_addF) ⟨⟨m, F, L, Fm, Mi.mono sub_addF, Hh.push _, R.mono sub_addF⟩, .lst ds, .lst addF_new rfl rfl rfl (is.mono sub_addF), k⟩
-- attributes of made objects
theorem notCls_inst {C dx : Addr} : notCls (instObj C dx) = true := rfl
theorem EvP.attr {o : Expr} {name : Str} {pos : Pos} {K : D → Prop} (G : Gd Kf cx.hb)
    (heq : eval (.Attribute o name pos) cx.env = (do
      let v ← eval o cx.env
      standAt pos.atName
      let r ← holding [v] (getAttr v name true)
      letTemporaryGo o v r
      pure r))
    (h : EvP prog w cx mu ρ o fun d => ∃ C ns ds att, d = .obj C ns ds ∧ plainGet Kf C name = true ∧ hasDictIn Kf C = true ∧ findIn Kf (.ref C) name = some att ∧ noGet Kf att = true ∧ ∃ d', (ns.zip ds).lookup name = some d' ∧ K d') :
    EvP prog w cx mu ρ (.Attribute o name pos) K := by
  intro N s E H
  refine Attribute_any_ (ev_use (h N s E H) fun v h₁ tk₁ N₁ d sb₁ H₁ i x => ?_) heq
  obtain ⟨C, ns, ds, att, rfl, hg, hdd, ha, hnn, d', hl, k⟩ := x
  cases i using DIn.obj_cases with
  | mk x dx es n vs hx hdx hf hv =>
    have H₁' := H₁
    obtain ⟨m, F, L, Fm, Mi, Hh, R⟩ := H₁'
    have I : InstAt h₁ x (instObj C dx) C (some (dictOf es n)) := ⟨Hh.led _ _ hx, rfl, rfl, Hh.led _ _ hdx⟩
    have hlz : ∀ (ns : List Str) (vs : List Value) (ds : List D), DAll prog w cx.S N₁ vs ds → (ns.zip ds).lookup name = some d' → ∃ v, (ns.zip vs).lookup name = some v ∧ DIn prog w cx.S N₁ v d' := by
      intro ns
      induction ns with
      | nil => intro vs ds _ hl; simp at hl
      | cons a ns ih =>
        intro vs ds hv hl
        cases hv with
        | nil => simp at hl
        | cons i r =>
          rw [List.zip_cons_cons, List.lookup_cons] at hl
          rw [List.zip_cons_cons, List.lookup_cons]
          cases q : name == a with
          | true => rw [q] at hl; cases hl; exact ⟨_, rfl, i⟩
          | false => rw [q] at hl; exact ih _ _ r hl
    obtain ⟨v, hlv, iv⟩ := hlz ns vs ds hv hl
    have hget : getL name es = some (some v) := by rw [hf name, hlv]
    have hh : handedIn v = true := by cases iv <;> rfl
    exact get_value (s := { s with heap := h₁, toks := tk₁ }) (G.X.keeps H₁.keep) I (plainGet_of hg).1 (findObj_own hdd ha hnn hget) hh ⟨h₁, tk₁ + 1, N₁, rfl, sb₁, H₁, d', iv, k⟩
/-- a method of a made object -/
theorem EvP.meth0 {o : Expr} {name : Str} {p pos : Pos} {pl : Sem Bool} {K : D → Prop} (G : Gd Kf cx.hb)
    (heq : eval (.Call (.Attribute o name p) [] [] pos) cx.env = (do
      let ov ← eval o cx.env
      standAt p.atName
      let (f, first) ← holding [ov] (getMethod ov name pl)
      callWith pos f first (backTo pos (starEach [] cx.env)) []))
    (h : EvP prog w cx mu ρ o fun d => ∃ C ns ds f, d = .obj C ns ds ∧ plainGet Kf C name = true ∧ findIn Kf (.ref C) name = some (some (.ref f)) ∧ isFn Kf (.ref f) = true ∧ keepIn Kf (.ref f) = true ∧ ns.length = ds.length ∧ name ∉ ns ∧ OpT prog w cx mu ρ (fun vs => call (.ref f) vs) [.obj C ns ds] K) :
    EvP prog w cx mu ρ (.Call (.Attribute o name p) [] [] pos) K := by
  intro N s E H
  refine MethodCall_ (ev_use (h N s E H) fun v h₁ tk₁ N₁ d sb₁ H₁ i x => ?_) heq
  obtain ⟨C, ns, ds, f, rfl, hg, hf, ht, hk, hlen, hnm, op⟩ := x
  have i' := i
  cases i' using DIn.obj_cases with
  | mk x dx es n vs hx hdx hfl hv =>
    obtain ⟨m, F, L, Fm, Mi, Hh, R⟩ := H₁
    have H₁ : St prog w cx mu ρ N₁ h₁ := ⟨m, F, L, Fm, Mi, Hh, R⟩
    have I : InstAt h₁ x (instObj C dx) C (some (dictOf es n)) := ⟨Hh.led _ _ hx, rfl, rfl, Hh.led _ _ hdx⟩
    have hget : getL name es = some none := by
      rw [hfl name]
      cases q : (ns.zip vs).lookup name with
      | none => rfl
      | some v => exact absurd (List.of_mem_zip (lookup_mem q)).1 hnm
    refine method_fn (s := { s with heap := h₁, toks := tk₁ }) (G.X.keeps H₁.keep) I (plainGet_of hg).1 (plainGet_of hg).2 hf (beq_iff_eq.mp ht) (by show (lookIn name (dictOf es n)).map _ = _; rw [lookIn_dict, hget]; rfl) ?_
    refine callWith_K0 (G.X.keeps H₁.keep) hk ?_
    refine use2 (op N₁ [.ref x] (.one i) { s with heap := h₁, toks := tk₁ } E H₁) fun v h₂ tk₂ N₂ sb₂ H₂ k₂ => ?_
    exact post_mk (sb₁.trans sb₂) ⟨H₂, k₂⟩
/-- a subscript -/
noncomputable def SubP (prog : Program) (w : World) (cx : Cx) (a b : D) (K : D → Prop) : Prop := ∃ T id, (∀ {N : Facts} {u : Value} {U : Led} {s : Shared}, DIn prog w cx.S N u a → Hp cx.hb cx.S U N s.heap → s.TypeIs u T) ∧ typeLookup (.type T) "__getitem__" = pure (some (.builtin id)) ∧
  Op2 prog w cx.hb cx.S cx.A (fun u v => getItem u v) a b K
theorem EvP.sub {o i : Expr} {pos : Pos} {K : D → Prop} (hs : ∀ u v, ∃ ops, subscripted i false u v = operate ops (getItem u v)) (h : EvP prog w cx mu ρ o fun a => EvP prog w cx mu ρ i fun b => SubP prog w cx a b K) : EvP prog w cx mu ρ (.Subscript o i pos) K := by
  intro N s E H
  refine Subscript_ (ev_use (h N s E H) fun a h₁ tk₁ N₁ d₁ sb₁ H₁ i₁ k₁ => ?_)
  refine ev_use (k₁ N₁ _ E H₁) fun b h₂ tk₂ N₂ d₂ sb₂ H₂ i₂ y => ?_
  obtain ⟨T, id, hT, hl, op⟩ := y
  obtain ⟨ops, hsu⟩ := hs a b
  have H₂' := H₂
  obtain ⟨m, F, L, Fm, Mi, Hh, R⟩ := H₂'
  refine tail_any (s := { s with heap := h₂, toks := tk₂ }) (hT (s := { s with heap := h₂, toks := tk₂ }) (i₁.mono sb₂) Hh) hl (use2 ((op N₂ a b (i₁.mono sb₂) i₂).tr _ E H₂) fun c h₃ tk₃ N₃ sb₃ H₃ k₃ => ?_) hsu
  exact post_mk ((sb₁.trans sb₂).trans sb₃) ⟨H₃, k₃⟩
theorem SubP.lst {ds : List D} {k : Int} {d : D} {K : D → Prop} (h0 : 0 ≤ k) (hk : k < 2 ^ 63) (hd : ds[k.toNat]? = some d) (h : K d) : SubP prog w cx (.lst ds) (.int k) K := by
  refine ⟨"list", _, fun i H => ?_, slot_list_getitem.lookup, fun N u v i j U s E H => ?_⟩
  · cases i using DIn.lst_cases with
    | mk l o vs n ho hc _ hd r => exact ⟨o, H.led _ _ ho, hc⟩
  · cases i using DIn.lst_cases with
    | mk l o vs n ho hc _ hd' r =>
      cases j using DIn.int_cases with
      | mk t =>
        obtain ⟨v, hv, iv⟩ := r.get hd
        exact wpAny_getItem_list ⟨o, H.led _ _ ho, hc, n, hd'⟩ h0 hk (by simpa using hv) (TrH.now' (K := Is prog w cx.S K) H ⟨d, iv, h⟩)
theorem SubP.tup {ds : List D} {k : Int} {d : D} {K : D → Prop} (h0 : 0 ≤ k) (hk : k < 2 ^ 63) (hd : ds[k.toNat]? = some d) (h : K d) : SubP prog w cx (.tup ds) (.int k) K := by
  refine ⟨"tuple", _, fun i H => ?_, slot_tuple_getitem.lookup, fun N u v i j U s E H => ?_⟩
  · cases i using DIn.tup_cases with
    | mk l o vs n ho hc hd r => exact ⟨o, H.led _ _ ho, hc⟩
  · cases i using DIn.tup_cases with
    | mk l o vs n ho hc hd' r =>
      cases j using DIn.int_cases with
      | mk t =>
        obtain ⟨v, hv, iv⟩ := r.get hd
        have hlt : k.toNat < vs.length := (List.getElem?_eq_some_iff.mp hv).1
        refine getItem_tuple (j := k.toNat) ⟨o, H.led _ _ ho, hc, n, hd'⟩ (by omega) hk ?_ (by simpa using hv) (TrH.now' (K := Is prog w cx.S K) H ⟨d, iv, h⟩)
        unfold seqIndex?
        have : ¬ k < 0 := by omega
        simp only [List.size_toArray]
        simp [this]; omega
end
section
variable {prog : Program} {w : World} {hb : Heap} {S : List Addr} {A : Around} {K : D → Prop}
-- ints
theorem op_add {a b : Int} (h : K (.int (a + b))) : Op2 prog w hb S A (binaryOp .Add) (.int a) (.int b) K := fun N u v i j U s E H => by
  cases i using DIn.int_cases; cases j using DIn.int_cases; exact PyProof.Rows.add_int (now_is H (.int _ _) h)
theorem op_sub {a b : Int} (h : K (.int (a - b))) : Op2 prog w hb S A (binaryOp .Sub) (.int a) (.int b) K := fun N u v i j U s E H => by
  cases i using DIn.int_cases; cases j using DIn.int_cases; exact PyProof.Rows.sub_int (now_is H (.int _ _) h)
theorem op_mul {a b : Int} (hm : IntMulOk a b) (h : K (.int (a * b))) : Op2 prog w hb S A (binaryOp .Mult) (.int a) (.int b) K := fun N u v i j U s E H => by
  cases i using DIn.int_cases; cases j using DIn.int_cases; exact PySem.P.mul_int (now_is H (.int _ _) h) hm
theorem mulOk_left {a b : Int} (h : a.natAbs < 2 ^ 60) : IntMulOk a b := by
  refine IntMulOk.of_left ?_
  unfold Builtin.Int.intBits
  by_cases h0 : a.natAbs = 0
  · rw [h0]; split <;> decide
  · have := (Nat.log2_lt h0).mpr h
    split <;> omega
theorem mulOk_right {a b : Int} (h : b.natAbs < 2 ^ 60) : IntMulOk a b := by
  refine IntMulOk.of_right ?_
  unfold Builtin.Int.intBits
  by_cases h0 : b.natAbs = 0
  · rw [h0]; split <;> decide
  · have := (Nat.log2_lt h0).mpr h
    split <;> omega
theorem op_fdiv {a b : Int} (hn : b ≠ 0) (hs : b.natAbs < 1073741824) (h : K (.int (a.fdiv b))) : Op2 prog w hb S A (binaryOp .FloorDiv) (.int a) (.int b) K := fun N u v i j U s E H => by
  cases i using DIn.int_cases; cases j using DIn.int_cases; exact PyProof.Rows.floordiv_int hn (now_is H (.int _ _) h) (.inl (PyProof.noPylong_small hs))
theorem op_mod {a b : Int} (hn : b ≠ 0) (h : K (.int (a.fmod b))) : Op2 prog w hb S A (binaryOp .Mod) (.int a) (.int b) K := fun N u v i j U s E H => by
  cases i using DIn.int_cases; cases j using DIn.int_cases; exact PyProof.Rows.mod_int hn (now_is H (.int _ _) h)
theorem op_pow {a n : Int} (hn : 0 ≤ n) (hn2 : n ≤ 1000000) (ha : a.natAbs < 2 ^ 64) (h : K (.int (a ^ n.toNat))) : Op2 prog w hb S A (binaryOp .Pow) (.int a) (.int n) K := fun N u v i j U s E H => by
  cases i using DIn.int_cases; cases j using DIn.int_cases; exact pow_int_small hn hn2 ha (now_is H (.int _ _) h)
theorem op_lt {a b : Int} (h : K (.bool (decide (a < b)))) : Op2 prog w hb S A (compareOp .Lt) (.int a) (.int b) K := fun N u v i j U s E H => by
  cases i using DIn.int_cases; cases j using DIn.int_cases; exact PySem.P.lt_int (now_is0 H (.bool _) h)
theorem op_le {a b : Int} (h : K (.bool (decide (a ≤ b)))) : Op2 prog w hb S A (compareOp .LtE) (.int a) (.int b) K := fun N u v i j U s E H => by
  cases i using DIn.int_cases; cases j using DIn.int_cases; exact PySem.P.le_int (now_is0 H (.bool _) h)
theorem op_gt {a b : Int} (h : K (.bool (decide (a > b)))) : Op2 prog w hb S A (compareOp .Gt) (.int a) (.int b) K := fun N u v i j U s E H => by
  cases i using DIn.int_cases; cases j using DIn.int_cases; exact PySem.P.gt_int (now_is0 H (.bool _) h)
theorem op_ge {a b : Int} (h : K (.bool (decide (a ≥ b)))) : Op2 prog w hb S A (compareOp .GtE) (.int a) (.int b) K := fun N u v i j U s E H => by
  cases i using DIn.int_cases; cases j using DIn.int_cases; exact PySem.P.ge_int (now_is0 H (.bool _) h)
theorem op_eq {a b : Int} (h : K (.bool (a == b))) : Op2 prog w hb S A (compareOp .Eq) (.int a) (.int b) K := fun N u v i j U s E H => by
  cases i using DIn.int_cases; cases j using DIn.int_cases; exact PySem.P.eq_int (now_is0 H (.bool _) h)
theorem op_ne {a b : Int} (h : K (.bool (a != b))) : Op2 prog w hb S A (compareOp .NotEq) (.int a) (.int b) K := fun N u v i j U s E H => by
  cases i using DIn.int_cases; cases j using DIn.int_cases; exact PySem.P.ne_int (now_is0 H (.bool _) h)
noncomputable def D.isNone : D → Bool
  | .none => true
  | _ => false
theorem op_isNone {d : D} (h : K (.bool d.isNone)) : Op2 prog w hb S A (compareOp .Is) d .none K := fun N u v i j U s E H => by
  cases j
  refine PySem.is_none ⟨s.heap, s.toks, N, rfl, Sub.refl N, H, _, .bool _, ?_⟩
  have : (u == Value.none) = d.isNone := by cases i <;> first | rfl | (simp [D.isNone]; done) | decide
  rw [this]; exact h
-- lists
theorem isList_of {N : Facts} {l : Addr} {o : Obj} {vs : List Value} {n : Nat} {U : Led} {h : Heap} (H : Hp hb S U N h) (ho : N l o) (hc : o.cls = .type "list") (hd : o.data = .seq vs.toArray n) : h.IsList l vs.toArray := ⟨o, H.led _ _ ho, hc, n, hd⟩
theorem op_cat {xs ys : List D} (hl : xs.length + ys.length ≤ 1000) (h : K (.lst (xs ++ ys))) : Op2 prog w hb S A (binaryOp .Add) (.lst xs) (.lst ys) K := fun N u v i j U s E H => by
  cases i using DIn.lst_cases with
  | mk l o vs n ho hc _ hd r =>
    cases j using DIn.lst_cases with
    | mk l2 o2 ws n2 ho2 hc2 _ hd2 r2 =>
      obtain ⟨cls, dd, data, sl⟩ := o
      obtain ⟨cls2, dd2, data2, sl2⟩ := o2
      simp only at hc hd hc2 hd2
      subst hc hd hc2 hd2
      have e : vs.toArray ++ ws.toArray = (vs ++ ws).toArray := by simp
      refine concat_meets ⟨_, H.led _ _ ho, rfl⟩ ⟨_, H.led _ _ ho2, rfl⟩ noFill_list_add seq_list_add PySem.F.slot_list_add PySem.F.entry_list_add (PySem.F.args_list_add_2 _ _) (PyProof.Rows.list_addW l l2 vs.toArray ws.toArray n n2 dd dd2 sl sl2 (by
        have a := r.length
        have b := r2.length
        rw [sizeLine_eq]; simp only [List.size_toArray]; omega)) ⟨H.led _ _ ho, H.led _ _ ho2, ?_⟩
      rw [e]
      exact ⟨_, s.toks, _, rfl, sub_addF, H.push _, _, .lst addF_new rfl rfl rfl ((r.mono sub_addF).append (r2.mono sub_addF)), h⟩
theorem call_len {ds : List D} (hl : ds.length ≤ 1000) (h : K (.int ds.length)) : Op1 prog w hb S A (fun v => call (.builtin "len") [v]) (.lst ds) K := fun N u i U s E H => by
  cases i using DIn.lst_cases with
  | mk l o vs n ho hc _ hd r =>
    have e := r.length
    refine len_list (isList_of H ho hc hd) (by simp only [List.size_toArray]; omega) ?_
    simp only [List.size_toArray]
    rw [e]
    exact (now_is H (.int _ _) h)
theorem intsAre_of {N : Facts} : ∀ {ns : List Int} {vs : List Value}, DAll prog w S N vs (ns.map D.int) → IntsAre vs ns
  | [], _, .nil => .nil
  | n :: ns, _, .cons i r => by
    cases i using DIn.int_cases with
    | mk t => exact .cons n t (intsAre_of r)
theorem call_sum {ns : List Int} (hh : A.handled = none) (h : K (.int ns.sum)) : Op1 prog w hb S A (fun v => call (.builtin "sum") [v]) (.lst (ns.map D.int)) K := fun N u i U s E H => by
  cases i using DIn.lst_cases with
  | mk l o vs n ho hc _ hd r =>
    have hi := intsAre_of r
    have hl := isList_of H ho hc hd
    obtain ⟨xs, hx⟩ := hi.allInts.items
    have hn : numsOf vs.toArray.toList = ns := by rw [show vs.toArray.toList = vs from rfl, hi.numsOf]
    rw [hx] at hl hn
    rw [nums_intItems] at hn
    refine sum_intListG hh hl fun h' tk t' hk => ?_
    rw [preSum_eq, List.take_of_length_le (by simp), hn]
    exact ⟨h', tk, N, rfl, Sub.refl N, H.keeps hk, _, .int _ _, h⟩
theorem call_min {ns : List Int} (hh : A.handled = none) (hne : 0 < ns.length) (h : ∀ m, m ∈ ns → (∀ a ∈ ns, m ≤ a) → K (.int m)) : Op1 prog w hb S A (fun v => call (.builtin "min") [v]) (.lst (ns.map D.int)) K := fun N u i U s E H => by
  cases i using DIn.lst_cases with
  | mk l o vs n ho hc _ hd r =>
    have hi := intsAre_of r
    have hl := isList_of H ho hc hd
    obtain ⟨xs, e⟩ := hi.allInts.items
    have hns : ns = xs.toList.map (·.1) := by rw [← hi.numsOf, ← nums_intItems, ← e]
    have hsz : 0 < xs.size := by
      have h3 := hne; rw [hns, List.length_map, Array.length_toList] at h3; exact h3
    rw [e] at hl
    refine min_intList hh hl hsz fun v h' tk hv hk => ?_
    obtain ⟨t, rfl⟩ := intItems_at hv
    obtain ⟨h1, h2⟩ := argBest_lt (numAt xs) (xs.size - 1)
    refine ⟨h', tk, N, rfl, Sub.refl N, H.keeps hk, _, .int _ t, h _ ?_ fun a ha => ?_⟩
    · rw [hns, numAt_eq]; exact getD_mem (by rw [List.length_map, Array.length_toList]; omega)
    · rw [hns] at ha
      obtain ⟨j, hj, rfl⟩ := mem_getD ha
      rw [List.length_map, Array.length_toList] at hj
      rw [← numAt_eq]; exact h2 j (by omega)
theorem call_max {ns : List Int} (hh : A.handled = none) (hne : 0 < ns.length) (h : ∀ m, m ∈ ns → (∀ a ∈ ns, a ≤ m) → K (.int m)) : Op1 prog w hb S A (fun v => call (.builtin "max") [v]) (.lst (ns.map D.int)) K := fun N u i U s E H => by
  cases i using DIn.lst_cases with
  | mk l o vs n ho hc _ hd r =>
    have hi := intsAre_of r
    have hl := isList_of H ho hc hd
    obtain ⟨xs, e⟩ := hi.allInts.items
    have hns : ns = xs.toList.map (·.1) := by rw [← hi.numsOf, ← nums_intItems, ← e]
    have hsz : 0 < xs.size := by
      have h3 := hne; rw [hns, List.length_map, Array.length_toList] at h3; exact h3
    rw [e] at hl
    refine max_intList hh hl hsz fun v h' tk hv hk => ?_
    obtain ⟨t, rfl⟩ := intItems_at hv
    obtain ⟨h1, h2⟩ := argBest_gt (numAt xs) (xs.size - 1)
    refine ⟨h', tk, N, rfl, Sub.refl N, H.keeps hk, _, .int _ t, h _ ?_ fun a ha => ?_⟩
    · rw [hns, numAt_eq]; exact getD_mem (by rw [List.length_map, Array.length_toList]; omega)
    · rw [hns] at ha
      obtain ⟨j, hj, rfl⟩ := mem_getD ha
      rw [List.length_map, Array.length_toList] at hj
      rw [← numAt_eq]; exact h2 j (by omega)
theorem call_max2 {a b : Int} (hh : A.handled = none) (h : K (.int (max a b))) : Op2 prog w hb S A (fun u v => call (.builtin "max") [u, v]) (.int a) (.int b) K := fun N u v i j U s E H => by
  cases i using DIn.int_cases; cases j using DIn.int_cases
  refine max_two_ints hh fun h' tk hk => ?_
  split
  · exact ⟨h', tk, N, rfl, Sub.refl N, H.keeps hk, _, .int _ _, by have : max a b = b := by omega
                                                                   rw [← this]; exact h⟩
  · exact ⟨h', tk, N, rfl, Sub.refl N, H.keeps hk, _, .int _ _, by have : max a b = a := by omega
                                                                   rw [← this]; exact h⟩
theorem call_min2 {a b : Int} (hh : A.handled = none) (h : K (.int (min a b))) : Op2 prog w hb S A (fun u v => call (.builtin "min") [u, v]) (.int a) (.int b) K := fun N u v i j U s E H => by
  cases i using DIn.int_cases; cases j using DIn.int_cases
  refine min_two_ints hh fun h' tk hk => ?_
  split
  · exact ⟨h', tk, N, rfl, Sub.refl N, H.keeps hk, _, .int _ _, by have : min a b = b := by omega
                                                                   rw [← this]; exact h⟩
  · exact ⟨h', tk, N, rfl, Sub.refl N, H.keeps hk, _, .int _ _, by have : min a b = a := by omega
                                                                   rw [← this]; exact h⟩
theorem call_abs {a : Int} (h : K (.int (if a < 0 then -a else a))) : Op1 prog w hb S A (fun v => call (.builtin "abs") [v]) (.int a) K := fun N u i U s E H => by
  cases i
  exact call_abs_int fun t tk => ⟨s.heap, tk, N, rfl, Sub.refl N, H, _, .int _ t, h⟩
theorem call_int {a : Int} (h : K (.int a)) : Op1 prog w hb S A (fun v => call (.type "int") [v]) (.int a) K := fun N u i U s E H => by
  cases i
  exact PySem.call_int_int (now_is0 H (.int _ _) h)
theorem call_intb {b : Bool} (h : K (.int (if b then 1 else 0))) : Op1 prog w hb S A (fun v => call (.type "int") [v]) (.bool b) K := fun N u i U s E H => by
  cases i
  exact PySem.call_int_bool (now_is H (.int _ _) h)
theorem call_tuple {ds : List D} (hl : ds.length ≤ 1000) (h : K (.tup ds)) : Op1 prog w hb S A (fun v => call (.type "tuple") [v]) (.lst ds) K := fun N u i U s E H => by
  cases i using DIn.lst_cases with
  | mk l o vs n ho hc _ hd r =>
    have e := r.length
    refine call_tuple_list (isList_of H ho hc hd) (fun h' hk => ?_) (by rw [sizeLine_eq]; simp only [List.size_toArray]; omega)
    exact ⟨_, s.toks, _, rfl, sub_addF, (H.keeps hk).push _, _, .tup addF_new rfl rfl (r.mono sub_addF), h⟩
theorem call_range1 {n : Int} (h : K (.rng 0 n)) : Op1 prog w hb S A (fun v => call (.type "range") [v]) (.int n) K := fun N u i U s E H => by
  cases i
  exact call_range_1 ⟨_, _, _, rfl, sub_addF, H.push _, _, .rng _ _ _ addF_new, h⟩
theorem call_range2 {a b : Int} (h : K (.rng a b)) : Op2 prog w hb S A (fun u v => call (.type "range") [u, v]) (.int a) (.int b) K := fun N u v i j U s E H => by
  cases i using DIn.int_cases; cases j using DIn.int_cases
  exact call_range_2 ⟨_, _, _, rfl, sub_addF, H.push _, _, .rng _ _ _ addF_new, h⟩
-- data as the claims' data
mutual
noncomputable def D.py : D → PyData
  | .bool b => .bool b
  | .int i => .int i
  | .tup ds => .tuple (D.pys ds)
  | .lst ds => .list (D.pys ds)
  | _ => .none
noncomputable def D.pys : List D → List PyData
  | [] => []
  | d :: ds => d.py :: D.pys ds
end
mutual
noncomputable def D.ok : Nat → D → Bool
  | _, .none => true
  | _, .int _ => true
  | n + 1, .tup ds => D.oks n ds
  | n + 1, .lst ds => D.oks n ds
  | _, _ => false
noncomputable def D.oks : Nat → List D → Bool
  | _, [] => true
  | n, d :: ds => D.ok n d && D.oks n ds
end
mutual
theorem py_reads {N : Facts} {U : Led} {h : Heap} (H : Hp hb S U N h) : ∀ {v : Value} {d : D} (n : Nat), DIn prog w S N v d → D.ok n d = true → ∃ as, Reads h v d.py as
  | _, _, _, .none, _ => ⟨_, Reads.none⟩
  | _, _, _, .int i t, _ => ⟨_, Reads.int i t⟩
  | _, _, n, .bool b, hk => by cases n <;> simp [D.ok] at hk
  | _, _, 0, .tup .., hk => by simp [D.ok] at hk
  | _, _, 0, .lst .., hk => by simp [D.ok] at hk
  | _, _, n + 1, .tup ho hc hd r, hk => by
    obtain ⟨as, q⟩ := pys_reads H n r (by simpa [D.ok] using hk)
    rw [D.py]
    exact ⟨as, reads_tuple_at (H.led _ _ ho) hc hd (by simpa using q)⟩
  | _, _, n + 1, .lst ho hc _ hd r, hk => by
    obtain ⟨as, q⟩ := pys_reads H n r (by simpa [D.ok] using hk)
    rw [D.py]
    exact ⟨_, reads_list_at (H.led _ _ ho) hc hd (by simpa using q)⟩
  | _, _, n, .obj .., hk => by cases n <;> simp [D.ok] at hk
  | _, _, n, .dct .., hk => by cases n <;> simp [D.ok] at hk
  | _, _, n, .src .., hk => by cases n <;> simp [D.ok] at hk
  | _, _, n, .adr .., hk => by cases n <;> simp [D.ok] at hk
  | _, _, n, .rng .., hk => by cases n <;> simp [D.ok] at hk
theorem pys_reads {N : Facts} {U : Led} {h : Heap} (H : Hp hb S U N h) : ∀ {vs : List Value} {ds : List D} (n : Nat), DAll prog w S N vs ds → D.oks n ds = true → ∃ as, ReadsAll h vs (D.pys ds) as
  | _, _, _, .nil, _ => ⟨_, ReadsAll.nil⟩
  | _, _, n, .cons i r, hk => by
    simp only [D.oks, Bool.and_eq_true] at hk
    obtain ⟨as, q⟩ := py_reads H n i hk.1
    obtain ⟨bs, p⟩ := pys_reads H n r hk.2
    rw [D.pys]
    exact ⟨_, ReadsAll.cons q p⟩
end
mutual
theorem py_lay : ∀ (n : Nat) (d : D), D.ok n d = true → d.py.canLay0 = true ∧ d.py.depth ≤ n
  | n, .none, _ => by simp [D.py, PyData.canLay0, PyData.depth]
  | n, .int i, _ => by simp [D.py, PyData.canLay0, PyData.depth]
  | 0, .tup _, h => by simp [D.ok] at h
  | 0, .lst _, h => by simp [D.ok] at h
  | n + 1, .tup ds, h => by
    have q := pys_lay n ds (by simpa [D.ok] using h)
    have q2 := q.2
    simp only [D.py, PyData.canLay0, PyData.depth, q.1, true_and]
    omega
  | n + 1, .lst ds, h => by
    have q := pys_lay n ds (by simpa [D.ok] using h)
    have q2 := q.2
    simp only [D.py, PyData.canLay0, PyData.depth, q.1, true_and]
    omega
  | n, .bool _, h => by cases n <;> simp [D.ok] at h
  | n, .obj .., h => by cases n <;> simp [D.ok] at h
  | n, .dct .., h => by cases n <;> simp [D.ok] at h
  | n, .src, h => by cases n <;> simp [D.ok] at h
  | n, .adr .., h => by cases n <;> simp [D.ok] at h
  | n, .rng .., h => by cases n <;> simp [D.ok] at h
theorem pys_lay : ∀ (n : Nat) (ds : List D), D.oks n ds = true → PyData.canLayAll0 (D.pys ds) = true ∧ PyData.depthAll (D.pys ds) ≤ n
  | n, [], _ => by simp [D.pys, PyData.canLayAll0, PyData.depthAll]
  | n, d :: ds, h => by
    simp only [D.oks, Bool.and_eq_true] at h
    have a := py_lay n d h.1
    have b := pys_lay n ds h.2
    have a2 := a.2
    have b2 := b.2
    simp only [D.pys, PyData.canLayAll0, PyData.depthAll, a.1, b.1, Bool.and_self, true_and]
    omega
end
noncomputable def Roomy (A : Around) : Prop := A.units + 100 < cLine
theorem shaped_of {d : D} (h : D.ok 6 d = true) : SeqAt.shaped d.py = true := by
  have l := py_lay 6 d h
  unfold SeqAt.shaped
  rw [l.1, Bool.true_and]
  exact decide_eq_true (Nat.le_trans l.2 (by decide))
theorem op_eqD {d e : D} {b : Bool} (hA : Roomy A) (hd : D.ok 6 d = true) (he : D.ok 6 e = true) (hq : PyData.eqv d.py e.py = b) (h : K (.bool b)) : Op2 prog w hb S A (compareOp .Eq) d e K := fun N u v i j U s E H => by
  obtain ⟨as, ra⟩ := py_reads H 6 i hd
  obtain ⟨bs, rb⟩ := py_reads H 6 j he
  unfold Roomy at hA
  refine eq_dataH ra rb (shaped_of hd) (shaped_of he) (by omega) ⟨s.heap, s.toks, N, rfl, Sub.refl N, H, _, .bool _, ?_⟩
  rw [hq]; exact h
theorem op_neD {d e : D} {b : Bool} (hA : Roomy A) (hd : D.ok 6 d = true) (he : D.ok 6 e = true) (hq : (!PyData.eqv d.py e.py) = b) (h : K (.bool b)) : Op2 prog w hb S A (compareOp .NotEq) d e K := fun N u v i j U s E H => by
  obtain ⟨as, ra⟩ := py_reads H 6 i hd
  obtain ⟨bs, rb⟩ := py_reads H 6 j he
  unfold Roomy at hA
  refine ne_dataH ra rb (shaped_of hd) (shaped_of he) (by omega) ⟨s.heap, s.toks, N, rfl, Sub.refl N, H, _, .bool _, ?_⟩
  rw [hq]; exact h
theorem op_in {d : D} {ds : List D} {b : Bool} (hA : Roomy A) (hd : D.ok 5 d = true) (he : D.oks 5 ds = true) (hq : ((D.pys ds).any fun y => PyData.eqv y d.py) = b) (h : K (.bool b)) : Op2 prog w hb S A (compareOp .In) d (.lst ds) K := fun N u v i j U s E H => by
  obtain ⟨as, ra⟩ := py_reads H 5 i hd
  obtain ⟨bs, rb⟩ := py_reads H 6 j (by simpa [D.ok] using he)
  rw [D.py] at rb
  unfold Roomy at hA
  have l1 := py_lay 5 d hd
  have l2 := pys_lay 5 ds he
  have l3 := l1.2
  refine SeqAt.in_list_reads rb ra l2.1 l1.1 ?_ ⟨s.heap, s.toks, N, rfl, Sub.refl N, H, _, .bool _, ?_⟩
  · have := Nat.min_le_right (PyData.depthAll (D.pys ds)) d.py.depth
    omega
  · rw [hq]; exact h
theorem countP_read {h : Heap} {p : PyData → Bool} : ∀ {vs : List Value} {xs : List PyData} {as : List Addr}, ReadsAll h vs xs as → PyData.canLayAll0 xs = true → (vs.countP fun y => p (SeqAt.readOf h y)) = xs.countP p := by
  intro vs xs as r hx
  rw [← SeqAt.readsAll_map xs _ _ hx r, List.countP_map]
  rfl
theorem call_count {d : D} {ds : List D} (hA : Roomy A) (hd : D.ok 5 d = true) (he : D.oks 5 ds = true) (h : K (.int ((D.pys ds).countP fun y => PyData.eqv y d.py))) :
    Op2 prog w hb S A (fun u v => call (.builtin "list.count") [u, v]) (.lst ds) d K := fun N u v j i U s E H => by
  obtain ⟨as, ra⟩ := py_reads H 5 i hd
  have l1 := py_lay 5 d hd
  have l2 := pys_lay 5 ds he
  have l3 := l1.2
  unfold Roomy at hA
  cases j using DIn.lst_cases with
  | mk l o vs n ho hc _ hd' r =>
    obtain ⟨bs, rb⟩ := pys_reads H 5 r he
    obtain ⟨cls, dd, data, sl⟩ := o
    simp only at hc hd'
    subst hc hd'
    refine call_meets PySem.F.slot_list_count ⟨_, H.led _ _ ho, rfl⟩ PySem.F.entry_list_count (PySem.F.args_list_count_2 _ _)
      (SeqAt.list_countAt l vs.toArray n dd sl v (fun y => PyData.eqv (SeqAt.readOf s.heap y) d.py)) ⟨H.led _ _ ho, SeqAt.items_eqAt (A := A) (by simpa using rb) ra l2.1 l1.1 ?_, ?_⟩
    · have := Nat.min_le_right (PyData.depthAll (D.pys ds)) d.py.depth
      omega
    · refine ⟨s.heap, s.toks + 1, N, rfl, Sub.refl N, H, _, .int _ _, ?_⟩
      rw [show vs.toArray.toList = vs from rfl, countP_read (p := fun y => PyData.eqv y d.py) rb l2.1]
      exact h
end
section
variable {prog : Program} {w : World} {cx : Cx} {mu : List MD} {ρ : Rho}
/-- a new list under a name, to be grown -/
theorem S1.newList {x : Str} {p p' pos : Pos} {K : Oc → Prop} (hx : Storable cx x) (hs : swapsWith (.List [] p') (some (.Name x p)) pos.line cx.env = pure false)
    (h : ∀ a, K (.next [.lst a []] ((x, .adr a) :: ρ))) : S1 prog w cx [] ρ (.Assign [.Name x p] (.List [] p') pos) K := by
  rintro N s E ⟨m, F, L, Fm, hL, Hh, R⟩
  have hL' : L = [] := hL
  subst hL'
  refine wpAny_Assign_Name (wpAny_List (wpAny_items_nil ⟨by simp, ?_⟩)) hs
  have H1 := Hh.pushU (listOf #[] 0)
  have st : St prog w cx [.lst s.heap.objs.size []] ρ N (s.heap.push (listOf #[] 0)) := ⟨m, F, [(s.heap.objs.size, listOf #[] 0)], Fm, ⟨_, [], by simp, ⟨[], 0, rfl, .nil⟩, rfl⟩, H1.perm (by simpa using List.perm_middle.symm), R⟩
  exact store_name (s := { s with heap := s.heap.push (listOf #[] 0) }) st hx (.adr _) fun h' tk H' => ⟨h', tk, N, rfl, Sub.refl N, _, _, H', h _⟩
theorem md_lst {a : Addr} {ds : List D} {N : Facts} {h : Heap} (H : St prog w cx [.lst a ds] ρ N h) :
    ∃ vs n R, DAll prog w cx.S N vs ds ∧ Hp cx.hb cx.S ((a, listOf vs.toArray n) :: R) N h ∧
      ∀ vs' ds' n' N' h', Sub N N' → DAll prog w cx.S N' vs' ds' → Hp cx.hb cx.S ((a, listOf vs'.toArray n') :: R) N' h' → St prog w cx [.lst a ds'] ρ N' h' := by
  obtain ⟨m, F, L, Fm, ⟨L₁, L₂, rfl, ⟨vs, n, rfl, dv⟩, hL2⟩, Hh, R⟩ := H
  have hL2' : L₂ = [] := hL2
  subst hL2'
  refine ⟨vs, n, F ++ cx.U, dv, Hh.perm ?_, fun vs' ds' n' N' h' sb dv' H' => ⟨m, F, [(a, listOf vs'.toArray n')], Fm, ⟨_, [], by simp, ⟨vs', n', rfl, dv'⟩, rfl⟩, H'.perm ?_, R.mono sb⟩⟩
  · simpa using List.perm_middle
  · simpa using List.perm_middle.symm
/-- found.append(e) -/
theorem S1.append {x : Str} {p ap pos pos' : Pos} {e : Expr} {a : Addr} {ds : List D} {K : Oc → Prop} (hl : ρ.lookup x = some (.adr a)) (hx : cx.env.kindOf x = some .local ∨ cx.env.kindOf x = some .cell ∨ cx.env.kindOf x = some .free)
    (hd : (x == ("__debug__" : Str)) = false) (hn : (x == ("__classdict__" : Str)) = false)
    (hbase : attributeBase (.Name x p) "append" cx.env (eval (.Name x p) cx.env) = eval (.Name x p) cx.env) (hs : starEach [e] cx.env = [(false, eval e cx.env)]) (hline : (ap.endLine == pos.line) = true)
    (hi : interactive cx.env = false) (hsw : swapsWith (.Call (.Attribute (.Name x p) "append" ap) [e] [] pos) none pos'.line cx.env = pure false) (hlen : ds.length ≤ 1000)
    (h : EvP prog w cx [.lst a ds] ρ e fun d => K (.next [.lst a (ds ++ [d])] ρ)) : S1 prog w cx [.lst a ds] ρ (.Expr (.Call (.Attribute (.Name x p) "append" ap) [e] [] pos) pos') K := by
  intro N s E H
  refine wpAny_Expr_any (Call_method1 hbase hs hline ?_) hi hsw
  have nm : EvP prog w cx [.lst a ds] ρ (.Name x p) (fun d => d = .adr a) := EvP.name hl hx hd hn rfl
  refine ev_use (nm N s E H) fun v h₁ tk₁ N₁ d sb₁ H₁ i z => ?_
  obtain rfl := z
  cases i using DIn.adr_cases with
  | mk =>
    obtain ⟨vs, n, R, dv, Hh, back⟩ := md_lst H₁
    refine ⟨"list", "list.append", PySem.F.plainAttrs_list, PySem.F.slot_list_append, PySem.F.type_list_append, ⟨_, Hh.ledU _ (.head _), rfl⟩, fun b hb => by cases hb; exact ⟨_, Hh.ledU _ (.head _), rfl⟩, ?_⟩
    refine callWith_builtin rfl (evalArgs_plain (PySem.Calls.spliced_cons (ev_use (h N₁ _ E H₁) fun u h₂ tk₂ N₂ d₂ sb₂ H₂ i₂ k₂ => PySem.Calls.spliced_nil ?_)))
    obtain ⟨vs₂, n₂, R₂, dv₂, Hh₂, back₂⟩ := md_lst H₂
    have hsz : vs₂.length ≤ 1000 := by rw [dv₂.length]; exact hlen
    refine wpAny_list_append_plain (s := { s with heap := h₂, toks := tk₂ }) (items := vs₂.toArray) ⟨n₂, Hh₂.ledU _ (.head _)⟩ (fun h₉ ⟨n₉, e₉⟩ hs₉ => ?_) (by rw [List.size_toArray, sizeLine_eq]; omega)
    have Hh₉ := Hp.setU (V := []) Hh₂ hs₉ e₉
    exact post_mk (sb₁.trans sb₂) ⟨_, _, back₂ (vs₂ ++ [u]) (ds ++ [d₂]) n₉ N₂ h₉ (Sub.refl _) (dv₂.append (.one i₂)) (by simpa using Hh₉), k₂⟩
/-- what was made stands fast from here -/
theorem St.freezeL {x : Str} {a : Addr} {ds : List D} {N : Facts} {h : Heap} (hl : ρ.lookup x = some (.adr a)) (H : St prog w cx [.lst a ds] ρ N h) : ∃ N', Sub N N' ∧ St prog w cx [] ((x, .lst ds) :: ρ) N' h := by
  obtain ⟨m, F, L, Fm, ⟨L₁, L₂, rfl, ⟨vs, n, rfl, dv⟩, hL2⟩, Hh, R⟩ := H
  have hL2' : L₂ = [] := hL2
  subst hL2'
  refine ⟨addF N a (listOf vs.toArray n), sub_addF, m, F, [], Fm, rfl, ?_, ?_⟩
  · have := Hp.freeze (V := F) (U := cx.U) (a := a) (o := listOf vs.toArray n) (by simpa using Hh)
    simpa using this
  · intro y d hy
    rw [List.lookup_cons] at hy
    cases q : y == x with
    | true =>
      rw [q] at hy
      cases hy
      obtain ⟨v, hv, hi⟩ := R x _ hl
      cases hi using DIn.adr_cases with
      | mk => exact ⟨_, by rw [beq_iff_eq.mp q]; exact hv, .lst addF_new rfl rfl rfl (dv.mono sub_addF)⟩
    | false =>
      rw [q] at hy
      obtain ⟨v, hv, hi⟩ := R y d hy
      exact ⟨v, hv, hi.mono sub_addF⟩
theorem ExP.freezeL {x : Str} {a : Addr} {ds : List D} {ss : List Stmt} {K : Oc → Prop} (hl : ρ.lookup x = some (.adr a)) (h : ExP prog w cx [] ((x, .lst ds) :: ρ) ss K) : ExP prog w cx [.lst a ds] ρ ss K := by
  intro N s E H
  obtain ⟨N', sb, H'⟩ := H.freezeL hl
  refine wpAny_mono (h N' s E H') (fun f s' x => ?_) fun _ _ e => e
  obtain ⟨h', tk, N'', e, sb', fl⟩ := x
  exact ⟨h', tk, N'', e, sb.trans sb', fl⟩
/-- a list's own method with one argument -/
theorem EvP.methL {o e : Expr} {name : Str} {id : String} {ap pos : Pos} {K : D → Prop} (slot : Slot "list" name id) (hty : typeOf (.builtin id) = pure (.type "method_descriptor"))
    (hbase : attributeBase o name cx.env (eval o cx.env) = eval o cx.env) (hs : starEach [e] cx.env = [(false, eval e cx.env)]) (hline : (ap.endLine == pos.line) = true)
    (h : EvP prog w cx mu ρ o fun d => ∃ ds, d = .lst ds ∧ EvP prog w cx mu ρ e fun d' => Op2 prog w cx.hb cx.S cx.A (fun u v => call (.builtin id) [u, v]) (.lst ds) d' K) : EvP prog w cx mu ρ (.Call (.Attribute o name ap) [e] [] pos) K := by
  intro N s E H
  refine Call_method1 hbase hs hline ?_
  refine ev_use (h N s E H) fun v h₁ tk₁ N₁ d sb₁ H₁ i z => ?_
  obtain ⟨ds, rfl, k₁⟩ := z
  have i' := i
  cases i' using DIn.lst_cases with
  | mk l o vs n ho hc hnd hd r =>
    have H₁' := H₁
    obtain ⟨m, F, L, Fm, Mi, Hh, R⟩ := H₁'
    refine ⟨"list", id, PySem.F.plainAttrs_list, slot, hty, ⟨_, Hh.led _ _ ho, hc⟩, fun b hb => by cases hb; exact ⟨_, Hh.led _ _ ho, hnd⟩, ?_⟩
    refine callWith_builtin rfl (evalArgs_plain (PySem.Calls.spliced_cons (ev_use (k₁ N₁ _ E H₁) fun u h₂ tk₂ N₂ d₂ sb₂ H₂ i₂ k₂ => PySem.Calls.spliced_nil ?_)))
    refine use2 ((k₂ N₂ _ u (i.mono sb₂) i₂).tr _ E H₂) fun c h₃ tk₃ N₃ sb₃ H₃ k₃ => ?_
    exact post_mk ((sb₁.trans sb₂).trans sb₃) ⟨H₃, k₃⟩
-- slices
theorem DAll.pick_to {S : List Addr} {N : Facts} {vs : List Value} {ds : List D} {y : Int} (hi' : DAll prog w S N vs ds) (h : 0 ≤ y) : DAll prog w S N (slicePick vs.toArray none (some y) none).toList (ds.take y.toNat) := by
  have e : sliceBounds none (some y) none vs.toArray.size = (((0 : Nat) : Int), ((min y.toNat vs.toArray.size : Nat) : Int), 1) := by
    simp only [sliceBounds, Option.getD_none, show (1 : Int) > 0 by decide, if_true, if_neg (show ¬ (y < 0) by omega)]
    congr 1
    congr 1
    omega
  rw [kmk_pick_nat _ e]
  show DAll prog w S N ((vs.drop 0).take (min y.toNat vs.toArray.size - 0)) _
  rw [List.drop_zero, Nat.sub_zero, List.size_toArray, kmk_take_min]
  exact hi'.take _
theorem DAll.pick_from {S : List Addr} {N : Facts} {vs : List Value} {ds : List D} {x : Int} (hi' : DAll prog w S N vs ds) (h : 0 ≤ x) : DAll prog w S N (slicePick vs.toArray (some x) none none).toList (ds.drop x.toNat) := by
  have e : sliceBounds (some x) none none vs.toArray.size = (((min x.toNat vs.toArray.size : Nat) : Int), ((vs.toArray.size : Nat) : Int), 1) := by
    simp only [sliceBounds, Option.getD_none, show (1 : Int) > 0 by decide, if_true, if_neg (show ¬ (x < 0) by omega)]
    congr 1
    omega
  rw [kmk_pick_nat _ e]
  show DAll prog w S N ((vs.drop (min x.toNat vs.toArray.size)).take (vs.toArray.size - min x.toNat vs.toArray.size)) _
  rw [List.size_toArray, kmk_drop_min, List.take_of_length_le (by rw [List.length_drop]; omega)]
  exact hi'.drop _
theorem EvP.sliceTo {o e : Expr} {p pos : Pos} {K : D → Prop} (ht : ∀ a r, letTemporaryGo o a r = pure ())
    (h : EvP prog w cx mu ρ o fun d => EvP prog w cx mu ρ e fun d' => ∃ ds y, d = .lst ds ∧ d' = .int y ∧ 0 ≤ y ∧ ds.length ≤ 1000 ∧ K (.lst (ds.take y.toNat))) : EvP prog w cx mu ρ (.Subscript o (.Slice none (some e) none p) pos) K := by
  intro N s E H
  refine wpAny_Subscript_list_slice (ev_use (h N s E H) fun v h₁ tk₁ N₁ d sb₁ H₁ i k₁ => ?_) ht
  rw [evalPart_none]
  refine wpAny_pure ?_
  rw [evalPart_some]
  refine ev_use (k₁ N₁ _ E H₁) fun u h₂ tk₂ N₂ d₂ sb₂ H₂ i₂ y => ?_
  obtain ⟨ds, y, rfl, rfl, hy, hlen, k₂⟩ := y
  cases i₂ using DIn.int_cases with
  | mk t =>
    cases i using DIn.lst_cases with
    | mk l o vs n ho hc hnd hd r =>
      obtain ⟨m, F, L, Fm, Mi, Hh, R⟩ := H₂
      have rl := r.length
      refine ⟨l, vs.toArray, _, _, rfl, ⟨o, Hh.led _ _ (sb₂ _ _ ho), hc, n, hd⟩, by rw [List.size_toArray, sizeLine_eq]; omega, .none, .int y t, ?_⟩
      have H3 := (Hh.push { cls := .type "slice", data := .fields #[.none, .int y t, .none] }).push (listOf (slicePick vs.toArray none (some y) none) 0)
      rw [Heap.size_push] at H3
      have sb : Sub N₂ _ := (sub_addF (a := h₂.objs.size) (o := { cls := .type "slice", data := .fields #[.none, .int y t, .none] })).trans (sub_addF (a := h₂.objs.size + 1) (o := listOf (slicePick vs.toArray none (some y) none) 0))
      refine ⟨_, tk₂, _, rfl, (sb₁.trans sb₂).trans sb, ⟨m, F, L, Fm, Mi.mono sb, H3, R.mono sb⟩, _, .lst (vs := (slicePick vs.toArray none (some y) none).toList) addF_new rfl rfl (by rw [Array.toArray_toList]) ((DAll.pick_to r hy).mono (sb₂.trans sb)), k₂⟩
theorem EvP.sliceFrom {o e : Expr} {p pos : Pos} {K : D → Prop} (ht : ∀ a r, letTemporaryGo o a r = pure ())
    (h : EvP prog w cx mu ρ o fun d => EvP prog w cx mu ρ e fun d' => ∃ ds y, d = .lst ds ∧ d' = .int y ∧ 0 ≤ y ∧ ds.length ≤ 1000 ∧ K (.lst (ds.drop y.toNat))) : EvP prog w cx mu ρ (.Subscript o (.Slice (some e) none none p) pos) K := by
  intro N s E H
  refine wpAny_Subscript_list_slice (ev_use (h N s E H) fun v h₁ tk₁ N₁ d sb₁ H₁ i k₁ => ?_) ht
  rw [evalPart_some]
  refine ev_use (k₁ N₁ _ E H₁) fun u h₂ tk₂ N₂ d₂ sb₂ H₂ i₂ y => ?_
  obtain ⟨ds, y, rfl, rfl, hy, hlen, k₂⟩ := y
  rw [evalPart_none]
  refine wpAny_pure ?_
  cases i₂ using DIn.int_cases with
  | mk t =>
    cases i using DIn.lst_cases with
    | mk l o vs n ho hc hnd hd r =>
      obtain ⟨m, F, L, Fm, Mi, Hh, R⟩ := H₂
      have rl := r.length
      refine ⟨l, vs.toArray, _, _, rfl, ⟨o, Hh.led _ _ (sb₂ _ _ ho), hc, n, hd⟩, by rw [List.size_toArray, sizeLine_eq]; omega, .int y t, .none, ?_⟩
      have H3 := (Hh.push { cls := .type "slice", data := .fields #[.int y t, .none, .none] }).push (listOf (slicePick vs.toArray (some y) none none) 0)
      rw [Heap.size_push] at H3
      have sb : Sub N₂ _ := (sub_addF (a := h₂.objs.size) (o := { cls := .type "slice", data := .fields #[.int y t, .none, .none] })).trans (sub_addF (a := h₂.objs.size + 1) (o := listOf (slicePick vs.toArray (some y) none none) 0))
      refine ⟨_, tk₂, _, rfl, (sb₁.trans sb₂).trans sb, ⟨m, F, L, Fm, Mi.mono sb, H3, R.mono sb⟩, _, .lst (vs := (slicePick vs.toArray (some y) none none).toList) addF_new rfl rfl (by rw [Array.toArray_toList]) ((DAll.pick_from r hy).mono (sb₂.trans sb)), k₂⟩
-- tests
theorem TsP.value {e : Expr} {K : Bool → Prop} (he : ∀ whole, isTrue e cx.env whole = (do let v ← whole; standAt e.pos; holding [v] (truthy v))) (h : EvP prog w cx mu ρ e fun d => Truth prog w cx.hb cx.S cx.A d K) : TsP prog w cx mu ρ e K := by
  intro N s E H
  refine wpAny_isTrue_value (ev_use (h N s E H) fun a h₁ tk₁ N₁ d₁ sb₁ H₁ i₁ k₁ => ?_) (he _)
  refine use2 ((k₁ N₁ a i₁).tr _ E H₁) fun c h₃ tk₃ N₃ sb₃ H₃ k₃ => ?_
  exact post_mk (sb₁.trans sb₃) ⟨H₃, k₃⟩
theorem TsP.not {e : Expr} {pos : Pos} {K : Bool → Prop} (h : TsP prog w cx mu ρ e fun b => K (!b)) : TsP prog w cx mu ρ (.UnaryOp .Not e pos) K := by
  intro N s E H
  exact wpAny_isTrue_Not (h N s E H)
theorem TsP.or2 {x y : Expr} {pos : Pos} {K : Bool → Prop} (h : TsP prog w cx mu ρ x fun b => if b = true then K true else TsP prog w cx mu ρ y K) : TsP prog w cx mu ρ (.BoolOp .Or [x, y] pos) K := by
  intro N s E H
  refine wpAny_isTrue_BoolOp (wpAny_allTrue_Or_cons (use2 (h N s E H) fun b h₁ tk₁ N₁ sb₁ H₁ k₁ => ?_))
  cases b with
  | true => simp only [if_true] at k₁ ⊢; exact post_mk sb₁ ⟨H₁, k₁⟩
  | false =>
    simp only [Bool.false_eq_true, if_false] at k₁ ⊢
    refine wpAny_allTrue_Or_cons (use2 (k₁ N₁ _ E H₁) fun b h₂ tk₂ N₂ sb₂ H₂ k₂ => ?_)
    cases b with
    | true => simp only [if_true]; exact post_mk (sb₁.trans sb₂) ⟨H₂, k₂⟩
    | false => simp only [Bool.false_eq_true, if_false]; exact wpAny_allTrue_Or_nil ⟨h₂, tk₂, N₂, rfl, sb₁.trans sb₂, H₂, k₂⟩
theorem EvP.or2 {x y : Expr} {pos : Pos} {K : D → Prop} (h : EvP prog w cx mu ρ x fun d => Truth prog w cx.hb cx.S cx.A d fun b => if b = true then K d else EvP prog w cx mu ρ y K) : EvP prog w cx mu ρ (.BoolOp .Or [x, y] pos) K := by
  intro N s E H
  refine wpAny_Or2 (ev_use (h N s E H) fun a h₁ tk₁ N₁ d₁ sb₁ H₁ i₁ k₁ => ?_)
  refine use2 ((k₁ N₁ a i₁).tr _ E H₁) fun c h₃ tk₃ N₃ sb₃ H₃ k₃ => ?_
  cases c with
  | true => simp only [if_true] at k₃ ⊢; exact post_mk (sb₁.trans sb₃) ⟨H₃, d₁, i₁.mono sb₃, k₃⟩
  | false =>
    simp only [Bool.false_eq_true, if_false] at k₃ ⊢
    refine use2 (k₃ N₃ _ E H₃) fun b h₂ tk₂ N₂ sb₂ H₂ k₂ => ?_
    exact post_mk ((sb₁.trans sb₃).trans sb₂) ⟨H₂, k₂⟩
-- the source
theorem SubP.src0 {K : D → Prop} (h : ∀ a : Int, 0 ≤ a → a.natAbs.log2 < 2 ^ 21 → K (.int a)) : SubP prog w cx .src (.int 0) K := by
  refine ⟨"list", _, fun i H => ?_, PySem.F.slot_list_getitem.lookup, fun N u v i j U s E H => ?_⟩
  · cases i using DIn.src_cases with
    | mk _ ha => obtain ⟨⟨o, ho, a, b, t, u, n, hc, _⟩, _⟩ := H.src _ ha; exact ⟨_, ho, hc⟩
  · cases i using DIn.src_cases with
    | mk _ ha =>
      cases j using DIn.int_cases with
      | mk t' =>
        obtain ⟨⟨o, ho, a, b, t, u, n, hc, hd, h1, h2, h3, h4⟩, _⟩ := H.src _ ha
        exact wpAny_getItem_list ⟨_, ho, hc, n, hd⟩ (by decide) (by decide) rfl (TrH.now' (K := Is prog w cx.S K) H ⟨_, .int a t, h a h1 h2⟩)
theorem SubP.src1 {K : D → Prop} (h : ∀ b : Int, 0 ≤ b → b < 2147483647 → K (.int b)) : SubP prog w cx .src (.int 1) K := by
  refine ⟨"list", _, fun i H => ?_, PySem.F.slot_list_getitem.lookup, fun N u v i j U s E H => ?_⟩
  · cases i using DIn.src_cases with
    | mk _ ha => obtain ⟨⟨o, ho, a, b, t, u, n, hc, _⟩, _⟩ := H.src _ ha; exact ⟨_, ho, hc⟩
  · cases i using DIn.src_cases with
    | mk _ ha =>
      cases j using DIn.int_cases with
      | mk t' =>
        obtain ⟨⟨o, ho, a, b, t, u, n, hc, hd, h1, h2, h3, h4⟩, _⟩ := H.src _ ha
        exact wpAny_getItem_list ⟨_, ho, hc, n, hd⟩ (by decide) (by decide) rfl (TrH.now' (K := Is prog w cx.S K) H ⟨_, .int b u, h b h3 h4⟩)
/-- a source is written anew -/
theorem Hp.setS {hb : Heap} {S : List Addr} {U : Led} {N : Facts} {h h' : Heap} {a : Addr} {o' : Obj} (H : Hp hb S U N h) (ha : a ∈ S) (hs : Heap.SameBut a h h') (ho : h'.get? a = some o') (hi : IsSrc o') : Hp hb S U N h' := by
  obtain ⟨_, h2, h3⟩ := H.src a ha
  refine ⟨H.base, fun b x hx => ?_, fun p hp => ?_, H.nodup, H.off, fun b hb' => ?_⟩
  · exact (hs.2 b fun e => h3 x (e ▸ hx)).trans (H.led b x hx)
  · exact (hs.2 _ fun e => h2 (e ▸ List.mem_map_of_mem hp)).trans (H.ledU p hp)
  · obtain ⟨⟨x, e, i⟩, g2, g3⟩ := H.src b hb'
    by_cases q : b = a
    · subst q; exact ⟨⟨_, ho, hi⟩, g2, g3⟩
    · exact ⟨⟨x, (hs.2 b q).trans e, i⟩, g2, g3⟩
theorem op_setSrc {hb : Heap} {S : List Addr} {A : Around} {N : Facts} {a : Addr} {x : Int} {i : Nat} {t k : Tok} (ha : a ∈ S) (h1 : 0 ≤ x) (h2 : (i = 0 ∧ x.natAbs.log2 < 2 ^ 21) ∨ (i = 1 ∧ x < 2147483647)) : TrH prog w hb S A N (setItem (.ref a) (.int (i : Int) k) (.int x t)) fun _ _ => True := by
  intro U s E H
  obtain ⟨⟨o, ho, c, b, t', u, n, hc, hd, g1, g2, g3, g4⟩, _⟩ := H.src _ ha
  refine wpAny_setItem_list ⟨o, ho, hc, n, hd⟩ (by omega) (by rcases h2 with ⟨rfl, _⟩ | ⟨rfl, _⟩ <;> decide) (by rcases h2 with ⟨rfl, _⟩ | ⟨rfl, _⟩ <;> simp) fun h' ⟨o', ho', hc', n', hd'⟩ hs => ?_
  refine ⟨h', s.toks, N, rfl, Sub.refl N, H.setS ha hs ho' ?_, trivial⟩
  rcases h2 with ⟨rfl, h2⟩ | ⟨rfl, h2⟩
  · exact ⟨x, b, t, u, n', hc', hd', h1, h2, g3, g4⟩
  · exact ⟨c, x, t', t, n', hc', hd', g1, g2, h1, h2⟩
/-- source[k] = e -/
theorem S1.setSrc {x : Str} {p p' pos : Pos} {k kk : Nat} {pk : Pos} {e : Expr} {K : Oc → Prop} (hl : ρ.lookup x = some .src) (hx : cx.env.kindOf x = some .local ∨ cx.env.kindOf x = some .cell ∨ cx.env.kindOf x = some .free)
    (hd : (x == ("__debug__" : Str)) = false) (hn : (x == ("__classdict__" : Str)) = false)
    (hs : swapsWith e (some (.Subscript (.Name x p) (.Constant (.int (k : Int)) kk pk) p')) pos.line cx.env = pure false)
    (h : EvP prog w cx mu ρ e fun d => ∃ i : Int, d = .int i ∧ 0 ≤ i ∧ ((k = 0 ∧ i.natAbs.log2 < 2 ^ 21) ∨ (k = 1 ∧ i < 2147483647)) ∧ K (.next mu ρ)) :
    S1 prog w cx mu ρ (.Assign [.Subscript (.Name x p) (.Constant (.int (k : Int)) kk pk) p'] e pos) K := by
  intro N s E H
  refine wpAny_Assign_Subscript (ev_use (h N s E H) fun v h₁ tk₁ N₁ d sb₁ H₁ i z => ?_) hs
  obtain ⟨y, rfl, hy, hk, k₁⟩ := z
  have nm : EvP prog w cx mu ρ (.Name x p) (fun d => d = .src) := EvP.name hl hx hd hn rfl
  refine ev_use (nm N₁ _ E H₁) fun u h₂ tk₂ N₂ d₂ sb₂ H₂ i₂ z => ?_
  obtain rfl := z
  refine wpAny_Constant_int ?_
  cases i using DIn.int_cases with
  | mk t =>
    cases i₂ using DIn.src_cases with
    | mk _ ha =>
      have tr := op_setSrc (prog := prog) (w := w) (hb := cx.hb) (A := cx.A) (N := N₂) (i := k) (t := t) (k := tk₂) ha hy hk
      refine wpAny_mono (tr.tr (cx := cx) (mu := mu) (ρ := ρ) _ E H₂) (fun c s₃ z => ?_) fun _ _ e => e
      obtain ⟨h₃, tk₃, N₃, e3, sb₃, H₃, k₃⟩ := z
      exact ⟨h₃, tk₃, N₃, e3, (sb₁.trans sb₂).trans sb₃, _, _, H₃, k₁⟩
end
theorem getL_none {x : Str} {es : List DictEntry} (h : getL x es = some none) : es.find? (·.key.isStr x) = none ∧ es.any (·.refKey) = false := by
  unfold getL at h
  cases q : es.find? (·.key.isStr x) with
  | some e => rw [q] at h; simp at h
  | none =>
    rw [q] at h
    refine ⟨rfl, ?_⟩
    cases q2 : es.any (·.refKey) with
    | false => rfl
    | true => rw [q2] at h; simp at h
theorem putL_new {name : Str} {hsh : Int} {key v : Value} : ∀ {es : List DictEntry}, es.find? (·.key.isStr name) = none → putL name hsh key v es = es ++ [⟨hsh, key, v⟩]
  | [], _ => rfl
  | e :: r, h => by
    rw [List.find?_cons] at h
    cases q : e.key.isStr name with
    | true => rw [q] at h; cases h
    | false =>
      rw [q] at h
      unfold putL
      rw [q]
      simp only [Bool.false_eq_true, if_false, List.cons_append]
      rw [putL_new h]
theorem isStr_str (x y : Str) (t : Tok) : (Value.str y t).isStr x = (y == x) := rfl
theorem fields_put {es : List DictEntry} {ns : List Str} {vs : List Value} {name : Str} {hsh : Int} {t : Tok} {v : Value} (hf : FieldsAre es ns vs) (hl : ns.length = vs.length) (hn : name ∉ ns) :
    FieldsAre (putL name hsh (.str name t) v es) (ns ++ [name]) (vs ++ [v]) := by
  have h0 : getL name es = some none := by
    rw [hf name]
    cases q : (ns.zip vs).lookup name with
    | none => rfl
    | some u => exact absurd (List.of_mem_zip (lookup_mem q)).1 hn
  obtain ⟨h1, h2⟩ := getL_none h0
  intro x
  rw [putL_new h1, List.zip_append hl, lookup_append]
  have hx := hf x
  unfold getL at hx ⊢
  rw [List.find?_append, List.any_append, h2]
  rw [h2] at hx
  cases q : es.find? (·.key.isStr x) with
  | some e =>
    rw [q] at hx
    simp only [Option.some_or] at hx ⊢
    rw [← Option.some.inj hx]
    rfl
  | none =>
    rw [q] at hx
    simp only [Bool.false_eq_true, if_false, Option.some.injEq] at hx
    rw [← hx]
    show (match (none : Option DictEntry).or ([(⟨hsh, .str name t, v⟩ : DictEntry)].find? (·.key.isStr x)) with | some e => some (some e.val) | none => _) = some ((none : Option Value).or ([(name, v)].lookup x))
    simp only [Option.none_or, List.find?_cons, isStr_str, List.find?_nil, List.lookup_cons, List.lookup_nil]
    by_cases e : name = x
    · subst e; simp
    · have e1 : (name == x) = false := by simpa using e
      have e2 : (x == name) = false := by simpa using fun q => e q.symm
      rw [e1, e2]
      rfl
section
variable {prog : Program} {w : World}
/-- an attribute of a made object is stored -/
theorem set_inst {A : Around} {E : Value → Shared → Prop} {s : Shared} {Kf : Frag} {x dx C : Addr} {es : List DictEntry} {n : Nat} {name : Str} {v : Value} {Q : Unit → Shared → Prop} (X : Kf.In s.heap) (hx : s.heap.get? x = some (instObj C dx)) (hdx : s.heap.get? dx = some (dictOf es n))
    (hs : findIn Kf (.ref C) "__setattr__" = some (some (.builtin "object.__setattr__"))) (hp : plainOver Kf C = true) (ht : takerIn Kf C name = some none) (hh : hasDictIn Kf C = true) (hg : getL name es = some none) (hz : es.length ≤ 100)
    (h : ∀ h' n' t, Heap.SameBut dx s.heap h' → h'.get? dx = some (dictOf (putL name (PyData.keyHash w.params name) (.str name t) v es) n') → Q () { s with heap := h', toks := s.toks + 2 }) :
    wpAny (model prog w) A (setAttr (.ref x) name v) Q E s := by
  have I : InstAt s.heap x (instObj C dx) C (some (dictOf es n)) := ⟨hx, rfl, rfl, hdx⟩
  refine set_plain X I hs (osa_open (s := { s with toks := s.toks + 1 }) X I hp ht fun b => ?_)
  obtain ⟨cd, hc, hd'⟩ := any_some hh
  obtain ⟨g1, g2⟩ := getL_none hg
  have eput : ∀ t, Obj.putName name (PyData.keyHash w.params name) (.str name t) v (dictOf es n) = dictOf (putL name (PyData.keyHash w.params name) (.str name t) v es) (putN name es n) := fun t => putName_dict name _ _ v es n
  have D' : ∀ t, (s.heap.update dx (Obj.putName name (PyData.keyHash w.params name) (.str name t) v)).get? dx = some (dictOf (putL name (PyData.keyHash w.params name) (.str name t) v es) (putN name es n)) := fun t => by
    rw [Heap.get?_update_self _ hdx (by rw [eput]; rfl), eput]
  refine wpAny_bind (wpAny_pure (wpAny_bind (wpAny_bind (wpAny_loadPart hx (wpAny_bind (Looks.here (s := { s with toks := s.toks + 1 }) (looks_clsIn X hc) ?_))))))
  rw [hd']
  refine wpAny_pure (a := some dx) (wpAny_bind (wpAny_pure (wpAny_bind ?_)))
  unfold nsSet
  refine wpAny_bind (wpAny_bind (wpAny_askSetting (wpAny_pure (wpAny_bind (wpAny_mkText (wpAny_bind (wpAny_loadPart hdx ?_)))))))
  dsimp only
  have c : (!es.toArray.any (·.key.isStr name) && es.toArray.any (·.refKey)) = false := by
    rw [← Array.any_toList, ← Array.any_toList]
    show (!es.any _ && es.any _) = false
    rw [g2, Bool.and_false]
  rw [aRefKeyMayBeTheName_at, c]
  refine wpAny_updatePart hdx ?_
  refine wpAny_bind (wpAny_lookBehind (D' _) (pastItsLine_dict ?_) ?_)
  · rw [putL_new g1, List.size_toArray, List.length_append, sizeLine_eq]
    simp only [List.length_cons, List.length_nil]
    omega
  · exact wpAny_pure (h _ _ _ (Heap.SameBut.update ..) (D' _))
end
section
variable {prog : Program} {w : World} {cx : Cx} {mu : List MD} {ρ : Rho} {Kf : Frag}
theorem md_inst {x dx C : Addr} {ns : List Str} {ds : List D} {N : Facts} {h : Heap} (H : St prog w cx [.inst x dx C ns ds] ρ N h) :
    ∃ es n vs R, FieldsAre es ns vs ∧ es.length = ns.length ∧ DAll prog w cx.S N vs ds ∧ Hp cx.hb cx.S ([(x, instObj C dx)] ++ (dx, dictOf es n) :: R) N h ∧
      ∀ es' n' vs' ns' ds' N' h', Sub N N' → FieldsAre es' ns' vs' → es'.length = ns'.length → DAll prog w cx.S N' vs' ds' → Hp cx.hb cx.S ([(x, instObj C dx)] ++ (dx, dictOf es' n') :: R) N' h' → St prog w cx [.inst x dx C ns' ds'] ρ N' h' := by
  obtain ⟨m, F, L, Fm, ⟨L₁, L₂, rfl, ⟨es, n, vs, rfl, hf, hz, dv⟩, hL2⟩, Hh, R⟩ := H
  have hL2' : L₂ = [] := hL2
  subst hL2'
  refine ⟨es, n, vs, F ++ cx.U, hf, hz, dv, Hh.perm ?_, fun es' n' vs' ns' ds' N' h' sb hf' hz' dv' H' => ⟨m, F, [(x, instObj C dx), (dx, dictOf es' n')], Fm, ⟨_, [], by simp, ⟨es', n', vs', rfl, hf', hz', dv'⟩, rfl⟩, H'.perm ?_, R.mono sb⟩⟩
  · exact (List.perm_append_comm_assoc F _ cx.U).trans (by simp)
  · exact (List.Perm.of_eq (by simp)).trans (List.perm_append_comm_assoc F [(x, instObj C dx), (dx, dictOf es' n')] cx.U).symm
theorem S1.setSelf {x dx C : Addr} {ns : List Str} {ds : List D} {me name : Str} {p p' pos : Pos} {e : Expr} {K : Oc → Prop} (G : Gd Kf cx.hb) (hl : ρ.lookup me = some (.adr x)) (hx : cx.env.kindOf me = some .local ∨ cx.env.kindOf me = some .cell ∨ cx.env.kindOf me = some .free)
    (hd : (me == ("__debug__" : Str)) = false) (hn : (me == ("__classdict__" : Str)) = false)
    (hsw : swapsWith e (some (.Attribute (.Name me p) name p')) pos.line cx.env = pure false)
    (hs : findIn Kf (.ref C) "__setattr__" = some (some (.builtin "object.__setattr__"))) (hp : plainOver Kf C = true) (ht : takerIn Kf C name = some none) (hh : hasDictIn Kf C = true) (hnn : name ∉ ns) (hlen : ns.length = ds.length) (hns : ns.length ≤ 50)
    (h : EvP prog w cx [.inst x dx C ns ds] ρ e fun d => K (.next [.inst x dx C (ns ++ [name]) (ds ++ [d])] ρ)) : S1 prog w cx [.inst x dx C ns ds] ρ (.Assign [.Attribute (.Name me p) name p'] e pos) K := by
  intro N s E H
  refine plainObj_wpAny_Assign_Attribute (ev_use (h N s E H) fun v h₁ tk₁ N₁ d sb₁ H₁ i k₁ => ?_) hsw
  have nm : EvP prog w cx [.inst x dx C ns ds] ρ (.Name me p) (fun d => d = .adr x) := EvP.name hl hx hd hn rfl
  refine ev_use (nm N₁ _ E H₁) fun u h₂ tk₂ N₂ d₂ sb₂ H₂ i₂ z => ?_
  obtain rfl := z
  cases i₂ using DIn.adr_cases with
  | mk =>
    obtain ⟨es, n, vs, R, hf, hz, dv, Hh, back⟩ := md_inst H₂
    have hlv : ns.length = vs.length := by rw [hlen, dv.length]
    have hg : getL name es = some none := by
      rw [hf name]
      cases q : (ns.zip vs).lookup name with
      | none => rfl
      | some u => exact absurd (List.of_mem_zip (lookup_mem q)).1 hnn
    have hget := getL_none hg
    refine set_inst (s := { s with heap := h₂, toks := tk₂ }) (G.X.keeps H₂.keep) (Hh.ledU _ (.head _)) (Hh.ledU _ (.tail _ (.head _))) hs hp ht hh hg (by omega) fun h' n' t hsb ho' => ?_
    have hz' : (putL name (PyData.keyHash w.params name) (.str name t) v es).length = (ns ++ [name]).length := by
      rw [putL_new hget.1, List.length_append, List.length_append, hz]; rfl
    exact post_mk (sb₁.trans sb₂) ⟨_, _, back _ n' (vs ++ [v]) _ _ N₂ h' (Sub.refl _) (fields_put hf hlv hnn) hz' (dv.append (.one (i.mono sb₂))) (Hp.setU Hh hsb ho'), k₁⟩
/-- a class is called: its own __init__ fills the new object -/
theorem make_call {hb : Heap} {S : List Addr} {A : Around} {C fI : Addr} {fd : FuncData} {body : List Stmt} {params : List Str} {ds : List D} {K : D → Prop} (G : Gd Kf hb) (ok : FnOk hb fI fd body params)
    (hm : makesIn Kf C = true) (hi : findIn Kf (.ref C) "__init__" = some (some (.ref fI))) (hf : typeIn Kf (.ref fI) = some (.type "function")) (hroom : A.depth + 1 < recursionLimit) (hlen : ds.length + 1 = params.length)
    (h : ∀ A' x dx L U, A'.handled = A.handled → A'.depth = A.depth + 1 → A'.units = A.units + 1 → ExP prog w (Cx.fn hb S A' fd L fI U) [.inst x dx C [] []] (params.zip (.adr x :: ds)) body fun o =>
      ∃ ρ' ns ds', o = .next [.inst x dx C ns ds'] ρ' ∧ K (.obj C ns ds')) :
    OpN prog w hb S A (fun vs => call (.ref C) vs) ds K := by
  rintro N vs hv U ⟨hh, g, d, t, os⟩ E H
  have X : Kf.In hh := G.X.keeps H.keep
  refine wpAny_call (make_core (R := fun r s' => match r with | .ok (.ret v) => _ | .ok _ => False | .error e => _) (makes_of X hm) (looks_findIn X hi) (fun self => bind_fn X self hf) (.inl rfl) ?_)
  have H1 := (H.pushU emptyDict).pushU (instObj C hh.objs.size)
  rw [Heap.size_push] at H1
  have ud : (A.under (.builtin "type.__call__" ⟨.ref C :: vs, []⟩)).depth = A.depth + 1 := rfl
  have uu : (A.under (.builtin "type.__call__" ⟨.ref C :: vs, []⟩)).units = A.units + 1 := rfl
  refine fn_raw (mu := [.inst (hh.objs.size + 1) hh.objs.size C [] []]) (Lm := [(hh.objs.size + 1, instObj C hh.objs.size), (hh.objs.size, emptyDict)]) (U := U) (N := N) (vs := .ref (hh.objs.size + 1) :: vs) (ds := .adr (hh.objs.size + 1) :: ds) ok (by rw [ud]; exact hroom) G.nolimit (by simpa using hlen) (.cons (.adr _) hv)
    ⟨_, [], by simp, ⟨[], 0, [], rfl, fun x => rfl, rfl, .nil⟩, rfl⟩ (by simpa using H1) fun L h₁ tk₁ E' st => ?_
  refine post_use (h (A.under (.builtin "type.__call__" ⟨.ref C :: vs, []⟩)) (hh.objs.size + 1) hh.objs.size L U rfl ud uu N ⟨h₁, g, d, tk₁, os⟩ E' st) fun f h₂ tk₂ N₂ sb fl => ?_
  cases f with
  | next =>
    obtain ⟨mu', ρ', H', ρ'', ns, ds', e, k⟩ := fl
    cases e
    obtain ⟨m, F, Lm, Fm, ⟨L₁, L₂, rfl, ⟨es, n, vs', rfl, hf, hz, dv⟩, hL2⟩, Hh, Rr⟩ := H'
    have hL2' : L₂ = [] := hL2
    subst hL2'
    have Hh0 : Hp hb S (F ++ (([(hh.objs.size + 1, instObj C hh.objs.size), (hh.objs.size, dictOf es n)] ++ []) ++ U)) N₂ h₂ := Hh
    have Ha : Hp hb S ([] ++ (hh.objs.size + 1, instObj C hh.objs.size) :: ((hh.objs.size, dictOf es n) :: U)) N₂ h₂ := Hp.drop (V := []) (W := F) (by simpa using Hh0)
    have Hb : Hp hb S ([] ++ (hh.objs.size, dictOf es n) :: U) (addF N₂ (hh.objs.size + 1) (instObj C hh.objs.size)) h₂ := Hp.freeze Ha
    have Hc := Hp.freeze Hb
    refine ⟨rfl, h₂, tk₂, _, rfl, sb.trans (sub_addF.trans sub_addF), Hc, .obj C ns ds', .obj (sub_addF _ _ addF_new) addF_new hf (dv.mono (sub_addF.trans sub_addF)), k⟩
  | brk => obtain ⟨mu', ρ', H', ρ'', ns, ds', e, k⟩ := fl; cases e
  | cont => obtain ⟨mu', ρ', H', ρ'', ns, ds', e, k⟩ := fl; cases e
  | ret v => obtain ⟨d, _, _, ρ'', ns, ds', e, k⟩ := fl; cases e
end
noncomputable def kvPut (kvs : List (List Int × Int)) (k : List Int) (v : Int) : List (List Int × Int) :=
  if (kvs.lookup k).isSome then kvs.map fun p => if p.1 = k then (p.1, v) else p else kvs ++ [(k, v)]
theorem atKey_cons {k₀ k : List Int} {a : Addr} {v : Value} {xs : List (List Int × Addr × Value)} : atKey ((k₀, a, v) :: xs) k = if k₀ = k then some (a, v) else atKey xs k := by
  unfold atKey
  rw [List.find?_cons]
  by_cases h : k₀ = k
  · simp [h]
  · simp [h]
theorem lookup_cons' {k₀ k : List Int} {i : Int} {kvs : List (List Int × Int)} : ((k₀, i) :: kvs).lookup k = if k₀ = k then some i else kvs.lookup k := by
  rw [List.lookup_cons]
  by_cases h : k₀ = k
  · subst h; simp
  · have : (k == k₀) = false := by simpa using fun e => h e.symm
    rw [this, if_neg h]
theorem KvRel.some {xs : List (List Int × Addr × Value)} {kvs : List (List Int × Int)} (h : KvRel xs kvs) {k : List Int} {i : Int} (hk : kvs.lookup k = some i) : ∃ a t, atKey xs k = some (a, .int i t) := by
  induction h with
  | nil => cases hk
  | @cons k₀ a i₀ t xs kvs r ih =>
    rw [lookup_cons'] at hk
    rw [atKey_cons]
    split at hk
    · rename_i e; cases hk; exact ⟨a, t, by rw [if_pos e]⟩
    · rename_i e; obtain ⟨b, u, q⟩ := ih hk; exact ⟨b, u, by rw [if_neg e]; exact q⟩
theorem KvRel.none {xs : List (List Int × Addr × Value)} {kvs : List (List Int × Int)} (h : KvRel xs kvs) {k : List Int} (hk : kvs.lookup k = none) : atKey xs k = none := by
  induction h with
  | nil => rfl
  | @cons k₀ a i₀ t xs kvs r ih =>
    rw [lookup_cons'] at hk
    rw [atKey_cons]
    split at hk
    · cases hk
    · rename_i e; rw [if_neg e]; exact ih hk
theorem KvRel.length {xs : List (List Int × Addr × Value)} {kvs : List (List Int × Int)} (h : KvRel xs kvs) : xs.length = kvs.length := by
  induction h with
  | nil => rfl
  | cons r ih => simp [ih]
theorem KvRel.snoc {xs : List (List Int × Addr × Value)} {kvs : List (List Int × Int)} {k : List Int} {a : Addr} {i : Int} {t : Tok} (h : KvRel xs kvs) : KvRel (xs ++ [(k, a, .int i t)]) (kvs ++ [(k, i)]) := by
  induction h with
  | nil => exact .cons .nil
  | cons r ih => exact .cons ih
theorem KvRel.upd {xs : List (List Int × Addr × Value)} {kvs : List (List Int × Int)} {k : List Int} {i : Int} {t : Tok} (h : KvRel xs kvs) : KvRel (xs.map (putAt k (.int i t))) (kvs.map fun p => if p.1 = k then (p.1, i) else p) := by
  induction h with
  | nil => exact .nil
  | @cons k₀ a i₀ t₀ xs kvs r ih =>
    rw [List.map_cons, List.map_cons]
    unfold putAt
    by_cases e : k₀ = k
    · simp only [if_pos e]; exact .cons ih
    · simp only [if_neg e]; exact .cons ih
theorem KvRel.put {xs : List (List Int × Addr × Value)} {kvs : List (List Int × Int)} {k : List Int} {a : Addr} {i : Int} {t : Tok} (h : KvRel xs kvs) : KvRel (storedH xs k a (.int i t)) (kvPut kvs k i) := by
  unfold kvPut
  cases q : kvs.lookup k with
  | none => rw [storedH_new (h.none q)]; exact h.snoc
  | some j => obtain ⟨b, u, e⟩ := h.some q; rw [storedH_old e]; exact h.upd
theorem KvRel.fst {xs : List (List Int × Addr × Value)} {kvs : List (List Int × Int)} (h : KvRel xs kvs) : xs.map (·.1) = kvs.map (·.1) := by
  induction h with
  | nil => rfl
  | cons r ih => simp [ih]
section
variable {prog : Program} {w : World} {cx : Cx} {mu : List MD} {ρ : Rho} {Kf : Frag} {S : List Addr}
theorem itemsAre_ints {N : Facts} : ∀ {ks : List Int} {vs : List Value}, DAll prog w S N vs (ks.map D.int) → ItemsAre (intKind prog w) ks vs
  | [], _, .nil => .nil
  | k :: ks, _, .cons i r => by
    cases i using DIn.int_cases with
    | mk t => exact .cons (by show (Value.int k t).isInt k = true; simp [Value.isInt]) (itemsAre_ints r)
theorem ints_itemsAre {N : Facts} : ∀ {ks : List Int} {vs : List Value}, ItemsAre (intKind prog w) ks vs → DAll prog w S N vs (ks.map D.int)
  | [], _, .nil => .nil
  | k :: ks, _, .cons i r => by
    obtain ⟨t, rfl⟩ := Value.isInt_shape i
    exact .cons (.int k t) (ints_itemsAre r)
theorem dct_heap {hb : Heap} {U : Led} {N : Facts} {h : Heap} (H : Hp hb S U N h) {a : Addr} {o : Obj} {kvs : List (List Int × Int)} (ho : h.get? a = some o) (hd : DctOb prog w N o kvs) : ∃ xs, h.DictOfH (IK prog w) a xs ∧ KvRel xs kvs ∧
    (∀ x ∈ xs, ∃ ok vs n, N x.2.1 ok ∧ ok.cls = .type "tuple" ∧ ok.data = .seq vs n ∧ ItemsAre (intKind prog w) x.1 vs.toList) ∧ (xs.map (·.1)).Nodup := by
  obtain ⟨xs, es, ep, h1, h2, h3, h4, h5, h6⟩ := hd
  refine ⟨xs, ⟨o, es, ep, ho, h1, h2, h3, fun x hx => ?_, h5⟩, h6, h4, h5⟩
  obtain ⟨ok, vs, n, e1, e2, e3, e4⟩ := h4 x hx
  exact ⟨ok, vs, n, H.led _ _ e1, e2, e3, e4⟩
theorem stored_mem {xs : List (List Int × Addr × Value)} {k : List Int} {a : Addr} {v : Value} {P : List Int → Addr → Prop} (h : ∀ x ∈ xs, P x.1 x.2.1) (hk : P k a) : ∀ x ∈ storedH xs k a v, P x.1 x.2.1 := by
  intro x hx
  unfold storedH at hx
  split at hx
  · obtain ⟨y, hy, rfl⟩ := List.mem_map.mp hx
    unfold putAt
    split
    · rename_i e; exact h y hy
    · exact h y hy
  · rcases List.mem_append.mp hx with hx | hx
    · exact h x hx
    · rw [List.mem_singleton.mp hx]; exact hk
theorem fresh_notModules {N : Facts} {hb : Heap} {U : Led} {h : Heap} (G : Gd Kf hb) (H : Hp hb S U N h) : (h.objs.size == sysModules) = false := by
  obtain ⟨b, o, e, hlt⟩ := G.big
  have := Heap.lt_size (H.keep _ _ e)
  have : h.objs.size ≠ sysModules := fun q => by rw [q] at this; exact absurd (Nat.lt_trans hlt this) (Nat.lt_irrefl _)
  simpa using this
/-- found = {} -/
theorem S1.newDict {x : Str} {p p' pos : Pos} {K : Oc → Prop} (G : Gd Kf cx.hb) (hx : Storable cx x) (hs : swapsWith (.Dict [] [] p') (some (.Name x p)) pos.line cx.env = pure false)
    (h : ∀ a, K (.next [.dct a []] ((x, .adr a) :: ρ))) : S1 prog w cx [] ρ (.Assign [.Name x p] (.Dict [] [] p') pos) K := by
  rintro N s E ⟨m, F, L, Fm, hL, Hh, R⟩
  have hL' : L = [] := hL
  subst hL'
  refine wpAny_Assign_Name (wpAny_Dict_empty ?_) hs
  have H1 := Hh.pushU { cls := .type "dict", data := .dict #[] }
  have st : St prog w cx [.dct s.heap.objs.size []] ρ N (s.heap.push { cls := .type "dict", data := .dict #[] }) :=
    ⟨m, F, [(s.heap.objs.size, { cls := .type "dict", data := .dict #[] })], Fm, ⟨_, [], by simp, ⟨{ cls := .type "dict", data := .dict #[] }, fresh_notModules G Hh, rfl, [], #[], 0, ⟨rfl, rfl, rfl⟩, rfl, rfl, fun _ hx => (nomatch hx), List.nodup_nil, .nil⟩, rfl⟩, H1.perm (by simpa using List.perm_middle.symm), R⟩
  exact store_name (s := { s with heap := s.heap.push { cls := .type "dict", data := .dict #[] } }) st hx (.adr _) fun h' tk H' => ⟨h', tk, N, rfl, Sub.refl N, _, _, H', h _⟩
theorem md_dct {a : Addr} {kvs : List (List Int × Int)} {N : Facts} {h : Heap} (H : St prog w cx [.dct a kvs] ρ N h) :
    ∃ o R, (a == sysModules) = false ∧ DctOb prog w N o kvs ∧ Hp cx.hb cx.S ((a, o) :: R) N h ∧
      ∀ o' kvs' N' h', Sub N N' → DctOb prog w N' o' kvs' → Hp cx.hb cx.S ((a, o') :: R) N' h' → St prog w cx [.dct a kvs'] ρ N' h' := by
  obtain ⟨m, F, L, Fm, ⟨L₁, L₂, rfl, ⟨o, hs, rfl, dv⟩, hL2⟩, Hh, R⟩ := H
  have hL2' : L₂ = [] := hL2
  subst hL2'
  refine ⟨o, F ++ cx.U, hs, dv, Hh.perm ?_, fun o' kvs' N' h' sb dv' H' => ⟨m, F, [(a, o')], Fm, ⟨_, [], by simp, ⟨o', hs, rfl, dv'⟩, rfl⟩, H'.perm ?_, R.mono sb⟩⟩
  · simpa using List.perm_middle
  · simpa using List.perm_middle.symm
/-- found[k] = v -/
theorem S1.putDict {x : Str} {p p' pos : Pos} {ik e : Expr} {a : Addr} {kvs : List (List Int × Int)} {K : Oc → Prop} (hA : Roomy cx.A) (hl : ρ.lookup x = some (.adr a)) (hx : cx.env.kindOf x = some .local ∨ cx.env.kindOf x = some .cell ∨ cx.env.kindOf x = some .free)
    (hd : (x == ("__debug__" : Str)) = false) (hn : (x == ("__classdict__" : Str)) = false)
    (hs : swapsWith e (some (.Subscript (.Name x p) ik p')) pos.line cx.env = pure false) (hlen : kvs.length ≤ 1000)
    (h : EvP prog w cx [.dct a kvs] ρ e fun d => EvP prog w cx [.dct a kvs] ρ ik fun d' => ∃ (i : Int) (k : List Int), d = .int i ∧ d' = .tup (k.map D.int) ∧ K (.next [.dct a (kvPut kvs k i)] ρ)) :
    S1 prog w cx [.dct a kvs] ρ (.Assign [.Subscript (.Name x p) ik p'] e pos) K := by
  intro N s E H
  refine wpAny_Assign_Subscript (ev_use (h N s E H) fun v h₁ tk₁ N₁ d sb₁ H₁ i k₁ => ?_) hs
  have nm : EvP prog w cx [.dct a kvs] ρ (.Name x p) (fun d => d = .adr a) := EvP.name hl hx hd hn rfl
  refine ev_use (nm N₁ _ E H₁) fun u h₂ tk₂ N₂ d₂ sb₂ H₂ i₂ z => ?_
  obtain rfl := z
  refine wpAny_mono (k₁ N₂ _ E (by
    obtain ⟨m, F, L, a1, a2, a3, a4⟩ := H₂
    exact ⟨m, F, L, a1, a2, a3, a4⟩)) (fun u s₃ z => ?_) fun _ _ e => e
  obtain ⟨h₃, tk₃, N₃, rfl, sb₃, H₃, d₃, i₃, y, k, rfl, rfl, k₂⟩ := z
  cases i₂ using DIn.adr_cases with
  | mk =>
    cases i using DIn.int_cases with
    | mk t =>
      cases i₃ using DIn.tup_cases with
      | mk ka ok vs n hok hkc hkd r =>
        obtain ⟨o, R, hsm, dv, Hh, back⟩ := md_dct H₃
        obtain ⟨xs, hm, kr, hks, hnd⟩ := dct_heap Hh (Hh.ledU _ (.head _)) dv
        have hkey : (IK prog w).is h₃ k ka := ⟨ok, vs.toArray, n, Hh.led _ _ hok, hkc, hkd, itemsAre_ints r⟩
        refine wpAny_setItem_heap (s := { s with heap := h₃, toks := tk₃ }) (by unfold Roomy at hA; show cx.A.units + 1 < cLine; omega) hkey hm (fun h₄ hm' hsb => ?_) (by rw [kr.length, sizeLine_eq]; omega)
        obtain ⟨o', es', ep', ho', g1, g2, g3, g4, g5⟩ := hm'
        refine ⟨h₄, _, N₃, rfl, (sb₁.trans sb₂).trans sb₃, _, _, back o' _ N₃ h₄ (Sub.refl _) ⟨_, es', ep', g1, g2, g3, ?_, g5, kr.put⟩ (Hp.setU (V := []) Hh hsb ho'), k₂⟩
        exact stored_mem (P := fun kk aa => ∃ ok vs n, N₃ aa ok ∧ ok.cls = .type "tuple" ∧ ok.data = .seq vs n ∧ ItemsAre (intKind prog w) kk vs.toList) hks ⟨ok, vs.toArray, n, hok, hkc, hkd, itemsAre_ints r⟩
/-- found.get(k, d) -/
theorem EvP.getDict {x : Str} {p ap pos : Pos} {ek ed : Expr} {a : Addr} {kvs : List (List Int × Int)} {K : D → Prop} (hA : Roomy cx.A) (hl : ρ.lookup x = some (.adr a)) (hx : cx.env.kindOf x = some .local ∨ cx.env.kindOf x = some .cell ∨ cx.env.kindOf x = some .free)
    (hd : (x == ("__debug__" : Str)) = false) (hn : (x == ("__classdict__" : Str)) = false)
    (hbase : attributeBase (.Name x p) "get" cx.env (eval (.Name x p) cx.env) = eval (.Name x p) cx.env) (hs : starEach [ek, ed] cx.env = [(false, eval ek cx.env), (false, eval ed cx.env)]) (hline : (ap.endLine == pos.line) = true)
    (h : EvP prog w cx [.dct a kvs] ρ ek fun d => EvP prog w cx [.dct a kvs] ρ ed fun d' => ∃ (k : List Int) (i : Int), d = .tup (k.map D.int) ∧ d' = .int i ∧ K (.int ((kvs.lookup k).getD i))) :
    EvP prog w cx [.dct a kvs] ρ (.Call (.Attribute (.Name x p) "get" ap) [ek, ed] [] pos) K := by
  intro N s E H
  refine Call_method2 hbase hs hline ?_
  have nm : EvP prog w cx [.dct a kvs] ρ (.Name x p) (fun d => d = .adr a) := EvP.name hl hx hd hn rfl
  refine ev_use (nm N s E H) fun v h₁ tk₁ N₁ d sb₁ H₁ i z => ?_
  obtain rfl := z
  cases i using DIn.adr_cases with
  | mk =>
    obtain ⟨o, R, hsm, dv, Hh, back⟩ := md_dct H₁
    obtain ⟨xs, hm, kr, hks, hnd⟩ := dct_heap Hh (Hh.ledU _ (.head _)) dv
    have hex : o.dict = none := by obtain ⟨_, _, _, hc, _⟩ := dv; exact hc.2.1
    refine ⟨"dict", "dict.get", PySem.F.plainAttrs_dict, PySem.F.slot_dict_get, PySem.F.type_dict_get, hm.typeIs, fun b hb => by cases hb; exact ⟨_, Hh.ledU _ (.head _), hex⟩, ?_⟩
    refine wpAny_dict_get2_heap (knd := IK prog w) (by unfold Roomy at hA; show cx.A.units + 1 < cLine; omega) hsm ?_
    refine ev_use (h N₁ _ E H₁) fun u h₂ tk₂ N₂ d₂ sb₂ H₂ i₂ k₂ => ?_
    refine ev_use (k₂ N₂ _ E H₂) fun u h₃ tk₃ N₃ d₃ sb₃ H₃ i₃ z => ?_
    obtain ⟨k, y, rfl, rfl, k₃⟩ := z
    cases i₂ using DIn.tup_cases with
    | mk ka ok vs n hok hkc hkd r =>
      cases i₃ using DIn.int_cases with
      | mk t =>
        obtain ⟨o, R, hsm, dv, Hh, back⟩ := md_dct H₃
        obtain ⟨xs, hm, kr, hks, hnd⟩ := dct_heap Hh (Hh.ledU _ (.head _)) dv
        refine ⟨ka, k, xs, rfl, ⟨ok, vs.toArray, n, Hh.led _ _ (sb₃ _ _ hok), hkc, hkd, itemsAre_ints r⟩, hm, h₃, _, N₃, rfl, (sb₁.trans sb₂).trans sb₃, H₃, _, ?_, k₃⟩
        cases q : kvs.lookup k with
        | none => rw [kr.none q]; exact .int y t
        | some j => obtain ⟨b, t', e⟩ := kr.some q; rw [e]; exact .int j t'
theorem St.freezeD {x : Str} {a : Addr} {kvs : List (List Int × Int)} {N : Facts} {h : Heap} (hl : ρ.lookup x = some (.adr a)) (H : St prog w cx [.dct a kvs] ρ N h) : ∃ N', Sub N N' ∧ St prog w cx [] ((x, .dct kvs) :: ρ) N' h := by
  obtain ⟨m, F, L, Fm, ⟨L₁, L₂, rfl, ⟨o, hsm, rfl, dv⟩, hL2⟩, Hh, R⟩ := H
  have hL2' : L₂ = [] := hL2
  subst hL2'
  refine ⟨addF N a o, sub_addF, m, F, [], Fm, rfl, ?_, ?_⟩
  · have := Hp.freeze (V := F) (U := cx.U) (a := a) (o := o) (by simpa using Hh)
    simpa using this
  · intro y d hy
    rw [List.lookup_cons] at hy
    cases q : y == x with
    | true =>
      rw [q] at hy
      cases hy
      obtain ⟨v, hv, hi⟩ := R x _ hl
      cases hi using DIn.adr_cases with
      | mk => exact ⟨_, by rw [beq_iff_eq.mp q]; exact hv, .dct hsm addF_new (dv.mono sub_addF)⟩
    | false =>
      rw [q] at hy
      obtain ⟨v, hv, hi⟩ := R y d hy
      exact ⟨v, hv, hi.mono sub_addF⟩
theorem ExP.freezeD {x : Str} {a : Addr} {kvs : List (List Int × Int)} {ss : List Stmt} {K : Oc → Prop} (hl : ρ.lookup x = some (.adr a)) (h : ExP prog w cx [] ((x, .dct kvs) :: ρ) ss K) : ExP prog w cx [.dct a kvs] ρ ss K := by
  intro N s E H
  obtain ⟨N', sb, H'⟩ := H.freezeD hl
  refine wpAny_mono (h N' s E H') (fun f s' x => ?_) fun _ _ e => e
  obtain ⟨h', tk, N'', e, sb', fl⟩ := x
  exact ⟨h', tk, N'', e, sb.trans sb', fl⟩
/-- found[k] -/
theorem SubP.dct {kvs : List (List Int × Int)} {k : List Int} {i : Int} {K : D → Prop} (hA : Roomy cx.A) (hk : kvs.lookup k = some i) (h : K (.int i)) : SubP prog w cx (.dct kvs) (.tup (k.map D.int)) K := by
  refine ⟨"dict", _, fun i H => ?_, PySem.F.slot_dict_getitem.lookup, fun N u v i j U s E H => ?_⟩
  · cases i with
    | dct hsm ho hd => obtain ⟨_, _, _, hc, _⟩ := hd; exact ⟨_, H.led _ _ ho, hc.1⟩
  · cases i with
    | dct hsm ho hd =>
      cases j using DIn.tup_cases with
      | mk ka ok vs n hok hkc hkd r =>
        obtain ⟨xs, hm, kr, hks, hnd⟩ := dct_heap H (H.led _ _ ho) hd
        obtain ⟨b, t', e⟩ := kr.some hk
        exact wpAny_getItem_heap (knd := IK prog w) (k := k) (p := (b, .int i t')) (by unfold Roomy at hA; show cx.A.units + 1 < cLine; omega) ⟨ok, vs.toArray, n, H.led _ _ hok, hkc, hkd, itemsAre_ints r⟩ hm e ⟨s.heap, _, N, rfl, Sub.refl N, H, _, .int i t', h⟩
end
open PyProof.V
/-- an exact dict with just these entries -/
noncomputable def DEx (h : Heap) (d : Addr) (es : Array DictEntry) (ep : Nat) : Prop := ∃ o, h.get? d = some o ∧ o.ExactDict ∧ o.data = .dict es ep
section
variable {prog : Program} {w : World} {A : Around} {E : Value → Shared → Prop} {s : Shared} {d I : Addr} {es : Array DictEntry} {ep : Nat}
theorem DEx.typeIs (h : DEx s.heap d es ep) : s.TypeIs (.ref d) "dict" := let ⟨o, ho, hc, _⟩ := h; ⟨o, ho, hc.1⟩
theorem dex_iter {Q : Value → Shared → Prop} (hs : (d == sysModules) = false) (hm : DEx s.heap d es ep)
    (hQ : Q (.ref s.heap.objs.size) { s with heap := s.heap.push { cls := .type "dict_keyiterator", data := .fields #[.ref d, .int 0 0, .int es.size 0, .int ep 0] } }) :
    wpAny (model prog w) A (pyIter (.ref d)) Q E s := by
  obtain ⟨o, ho, hc, hdat⟩ := id hm
  have hT := hm.typeIs
  refine wpAny_pyIter_slot hT PySem.F.slot_dict_iter (wpAny_call_entry PySem.F.slot_dict_iter hT PySem.F.entry_dict_iter ?_ (PySem.F.args_dict_iter_1 _))
  unfold Builtin.«dict.__iter__»
  refine wpAny_bind ?_
  unfold Builtin.Dict.dictSlotNone
  refine wpAny_bind (wpAny_notOrdered_dict hT ?_)
  show wpAny _ _ (pure (Value.ref d)) _ _ s
  refine wpAny_pure ?_
  show wpAny _ _ (Builtin.Dict.showsAll d >>= _) _ _ s
  unfold Builtin.Dict.showsAll
  rw [if_neg (by rw [hs]; exact Bool.false_ne_true)]
  refine wpAny_bind (wpAny_pure (wpAny_bind (wpAny_dictEntries ho hdat (wpAny_bind (wpAny_dictEpoch ho hdat ?_)))))
  exact wpAny_bind (wpAny_newObj_type (wpAny_pure ⟨_, rfl, "dict_keyiterator", _, ⟨_, Heap.get?_push_size _ rfl, rfl⟩, PySem.F.slot_dict_keyiterator_next.lookup, hQ⟩))
theorem dex_item {i : Nat} {e : DictEntry} {Q : Option Value → Shared → Prop} (hit : s.heap.IsKeyIter I d i es.size ep) (hm : DEx s.heap d es ep) (he : es[i]? = some e)
    (hQ : ∀ h', h'.IsKeyIter I d (i + 1) es.size ep → Heap.SameBut I s.heap h' → Q (some e.key) { s with heap := h' }) : wpAny (model prog w) A (pyNext (.ref I)) Q E s := by
  obtain ⟨o, ho, hc, hd⟩ := id hit
  obtain ⟨od, hod, hcd, hdd⟩ := id hm
  have hown : Builtin.Dict_items.ownsTuple "dict_keyiterator" = false := by decide
  unfold pyNext
  refine wpAny_bind (wpAny_attempt (wpAny_callSpecial?_slot (name := Str.ofString "__next__") hit.typeIs PySem.F.slot_dict_keyiterator_next
    (wpAny_call_entry PySem.F.slot_dict_keyiterator_next hit.typeIs PySem.F.entry_dict_keyiterator_next ?_ (PySem.F.args_dict_keyiterator_next_1 _))))
  refine wpAny_bind (wpAny_pure (wpAny_bind (wpAny_bind ?_)))
  refine wpAny_bind (wpAny_typeNameOfWhole_keyiter hit.typeIs (wpAny_pure (wpAny_bind (wpAny_fieldsOf ho hd ?_))))
  simp only [hown, Bool.false_eq_true, if_false]
  show wpAny _ _ (if (Value.ref d == Value.none) = true then _ else _) _ _ s
  rw [if_neg (show ¬ ((Value.ref d == Value.none) = true) from Bool.false_ne_true)]
  refine wpAny_bind (wpAny_pure (wpAny_bind (wpAny_dictEntries hod hdd ?_)))
  rw [if_neg (by simp)]
  refine wpAny_bind (wpAny_pure (wpAny_bind (wpAny_dictEpoch hod hdd ?_)))
  rw [if_neg (by simp)]
  refine wpAny_pure ?_
  simp only [show ¬ ((i : Int) < 0) from by omega, if_false, Int.toNat_natCast, he]
  refine wpAny_bind (wpAny_bind (wpAny_typeNameOfWhole_keyiter hit.typeIs (wpAny_pure ?_)))
  refine wpAny_bind (wpAny_isOneOf_keyiter hit.typeIs ?_)
  show wpAny _ _ (setField (.ref I) 1 (rawInt ((i : Int) + 1)) >>= _) _ _ s
  refine wpAny_bind (wpAny_setField ho hd (by simp) ?_)
  have hit' : (s.heap.update I (Obj.mapFields (·.setIfInBounds 1 (rawInt ((i : Int) + 1))))).IsKeyIter I d (i + 1) es.size ep :=
    ⟨_, Heap.get?_update_self _ ho (Obj.isFreed_of_fields (Obj.data_mapFields hd _)), (Obj.cls_mapFields ..).trans hc, by rw [Obj.data_mapFields hd]; simp [rawInt]⟩
  refine wpAny_bind (wpAny_holding (wpAny_bind (wpAny_isOneOf_keyiter (s := { s with heap := s.heap.update I (Obj.mapFields (·.setIfInBounds 1 (rawInt ((i : Int) + 1)))) }) hit'.typeIs ?_)))
  show wpAny _ _ (pure e.key) _ _ _
  exact wpAny_pure (wpAny_pure ⟨_, rfl, wpAny_pure (hQ _ hit' (Heap.SameBut.update ..))⟩)
theorem dex_end {i : Nat} {Q : Option Value → Shared → Prop} (hh : A.handled = none) (hit : s.heap.IsKeyIter I d i es.size ep) (hm : DEx s.heap d es ep) (hi : es.size ≤ i)
    (hQ : ∀ h', Heap.ExtBut I s.heap h' → Q none { s with heap := h' }) : wpAny (model prog w) A (pyNext (.ref I)) Q E s := by
  obtain ⟨o, ho, hc, hd⟩ := id hit
  obtain ⟨od, hod, hcd, hdd⟩ := id hm
  have hown : Builtin.Dict_items.ownsTuple "dict_keyiterator" = false := by decide
  unfold pyNext
  refine wpAny_bind (wpAny_attempt (wpAny_callSpecial?_slot (name := Str.ofString "__next__") hit.typeIs PySem.F.slot_dict_keyiterator_next
    (wpAny_call_entry PySem.F.slot_dict_keyiterator_next hit.typeIs PySem.F.entry_dict_keyiterator_next ?_ (PySem.F.args_dict_keyiterator_next_1 _))))
  refine wpAny_bind (wpAny_pure (wpAny_bind (wpAny_bind ?_)))
  refine wpAny_bind (wpAny_typeNameOfWhole_keyiter hit.typeIs (wpAny_pure (wpAny_bind (wpAny_fieldsOf ho hd ?_))))
  simp only [hown, Bool.false_eq_true, if_false]
  show wpAny _ _ (if (Value.ref d == Value.none) = true then _ else _) _ _ s
  rw [if_neg (show ¬ ((Value.ref d == Value.none) = true) from Bool.false_ne_true)]
  refine wpAny_bind (wpAny_pure (wpAny_bind (wpAny_dictEntries hod hdd ?_)))
  rw [if_neg (by simp)]
  refine wpAny_bind (wpAny_pure (wpAny_bind (wpAny_dictEpoch hod hdd ?_)))
  rw [if_neg (by simp)]
  refine wpAny_pure ?_
  simp only [show ¬ ((i : Int) < 0) from by omega, if_false, Int.toNat_natCast, Array.getElem?_eq_none hi]
  refine wpAny_bind (wpAny_bind (wpAny_typeNameOfWhole_keyiter hit.typeIs (wpAny_pure ?_)))
  show wpAny _ _ (setField (.ref I) 0 .none >>= _) _ _ s
  refine wpAny_bind (wpAny_setField ho hd (by simp) ?_)
  show wpAny _ _ (newExc (.type "StopIteration") [] >>= _) _ _ _
  refine wpAny_bind ?_
  simp only [newExc, newTuple]
  refine wpAny_bind (wpAny_newObj_type ?_ (by size_fits))
  refine wpAny_bind (m := firstArgMember _ _) (wpAny_of_eq (a := Value.none) (by first | rfl | (simp only [firstArgMember]; rfl)) ?_)
  refine wpAny_newObj_type ?_ (by size_fits)
  simp only [raiseNew]
  refine wpAny_bind (wpAny_handled ?_)
  rw [show A.in1.handled = none from hh]
  refine wpAny_bind (wpAny_pure (wpAny_throw ?_))
  refine wpAny_bind (wpAny_isInstance (T := "StopIteration") (b := true) ⟨_, Heap.get?_push_size _ rfl, rfl⟩ isSubtype_stop ?_)
  exact wpAny_pure (hQ _ (((Heap.SameBut.update ..).extBut.push _).push _))
theorem dex_src (hs : (d == sysModules) = false) : KdlSrc prog w "dict" d d es.size (fun i v => ∃ e, es[i]? = some e ∧ v = e.key) (fun h => DEx h d es ep) where
  type := fun _ hm => hm.typeIs
  there := fun _ hm => by obtain ⟨o, ho, _⟩ := hm; exact ⟨Heap.lt_size ho, Heap.lt_size ho⟩
  keep := fun _ _ hm hk => by obtain ⟨o, ho, r⟩ := hm; exact ⟨o, hk d (.inl rfl) o ho, r⟩
  notList := by decide
  notTuple := by decide
  hint := fun _ _ _ _ hm hq => kdl_hint_dict hm.typeIs hq
  iter := fun A s hh hm => by
    have hne : d ≠ s.heap.objs.size := by obtain ⟨o, ho, _⟩ := hm; exact Nat.ne_of_lt (Heap.lt_size ho)
    refine ⟨_, fun i h => h.IsKeyIter s.heap.objs.size d i es.size ep ∧ DEx h d es ep, fun _ _ hq => dex_iter hs hm hq, ?_, ⟨⟨_, Heap.get?_push_size _ rfl, rfl, rfl⟩, by obtain ⟨o, ho, r⟩ := hm; exact ⟨o, Heap.get?_push_of_some _ ho, r⟩⟩⟩
    refine ⟨fun b hb => ?_, fun i h h' st hk => ?_, fun i s' Q E hi st hQ => ?_, fun s' Q E st hQ => ?_, fun i s' Q E st hQ => ?_⟩
    · simp at hb; simp [hb]
    · refine ⟨st.1.at fun o e => hk _ (by simp) o e, ?_⟩
      obtain ⟨o, ho, r⟩ := st.2
      exact ⟨o, hk d (by simp) o ho, r⟩
    · have he : es[i]? = some es[i] := Array.getElem?_eq_getElem hi
      refine dex_item st.1 st.2 he fun h' hit' hsb => hQ _ h' s'.toks ⟨_, he, rfl⟩ ⟨hit', ?_⟩ fun b o hb e => (hsb.2 b fun q => hb (by simp [q])).trans e
      obtain ⟨o, ho, r⟩ := st.2
      exact ⟨o, (hsb.2 d hne).trans ho, r⟩
    · exact dex_end hh st.1 st.2 (Nat.le_refl _) fun h' he' => hQ h' s'.toks fun b o hb e => he' b o (fun q => hb (by simp [q])) e
    · exact wpAny_pyIter_keyiter st.1 hQ
end
-- the sort as a plain tree of questions
noncomputable def evT {α : Type} (lt : Nat → Nat → Bool) : KasT α → α
  | .ret a => a
  | .ask i j k => evT lt (k (lt i j))
noncomputable def AllT {α : Type} (n : Nat) (P : α → Prop) : KasT α → Prop
  | .ret a => P a
  | .ask i j k => i < n ∧ j < n ∧ ∀ b, AllT n P (k b)
theorem AllT.mono {α : Type} {n : Nat} {P Q : α → Prop} (hq : ∀ a, P a → Q a) : ∀ {t : KasT α}, AllT n P t → AllT n Q t
  | .ret _, h => hq _ h
  | .ask _ _ _, ⟨a, b, h⟩ => ⟨a, b, fun c => (h c).mono hq⟩
theorem AllT.bind {α β : Type} {n : Nat} {P : α → Prop} {Q : β → Prop} {f : α → KasT β} (hf : ∀ a, P a → AllT n Q (f a)) : ∀ {t : KasT α}, AllT n P t → AllT n Q (t.bind f)
  | .ret a, h => hf a h
  | .ask _ _ _, ⟨a, b, h⟩ => ⟨a, b, fun c => AllT.bind hf (h c)⟩
theorem AllT.ev {α : Type} {n : Nat} {P : α → Prop} {lt : Nat → Nat → Bool} : ∀ {t : KasT α}, AllT n P t → P (evT lt t)
  | .ret _, h => h
  | .ask _ _ _, ⟨_, _, h⟩ => (h _).ev
theorem AllT.run {α : Type} {n : Nat} {P : α → Prop} {lt : Nat → Nat → Bool} {cmp : Nat → Nat → (Bool → Shared → Prop) → Shared → Prop} {I : Shared → Prop}
    (hc : ∀ i j C s, i < n → j < n → I s → (∀ s', I s' → C (lt i j) s') → cmp i j C s) {Q : α → Shared → Prop} : ∀ {t : KasT α} {s : Shared}, AllT n P t → I s → (∀ s', I s' → Q (evT lt t) s') → t.kasWp cmp Q s
  | .ret _, s, _, hI, hq => hq s hI
  | .ask i j k, s, ⟨a, b, h⟩, hI, hq => hc i j _ s a b hI fun s' hI' => AllT.run hc (h (lt i j)) hI' hq
noncomputable def PP (n : Nat) (p : Array Nat) : Prop := p.toList.Perm (List.range n)
theorem PP.get {n : Nat} {p : Array Nat} (h : PP n p) (hn : 0 < n) (i : Nat) : p.getD i 0 < n := by
  by_cases hi : i < p.size
  · have e : p.getD i 0 = p[i] := by simp [Array.getD, hi]
    rw [e]
    have hm : p[i] ∈ p.toList := by simp
    exact List.mem_range.mp (h.mem_iff.mp hm)
  · have e : p.getD i 0 = 0 := by simp [Array.getD, hi]
    rw [e]; exact hn
theorem PP.rev {n : Nat} {p : Array Nat} (h : PP n p) (i j : Nat) : PP n (kas_rev p i j) := (Array.perm_iff_toList_perm.mp (mirror_perm p i j ((j - i) / 2))).trans h
theorem PP.bub {n : Nat} {p : Array Nat} (h : PP n p) (i j : Nat) : PP n (bubble p i j) := (Array.perm_iff_toList_perm.mp (bubble_perm p i j)).trans h
section
variable {n : Nat} (hn : 0 < n)
include hn
theorem all_asc {p : Array Nat} (h : PP n p) : ∀ (f m : Nat), AllT n (fun _ => True) (kas_asc p f m)
  | 0, _ => trivial
  | f + 1, m => ⟨h.get hn _, h.get hn _, fun c => by
      by_cases hc : c = true
      · simp only [hc, if_true]; exact trivial
      · simp only [hc, if_false]; exact all_asc h f (m + 1)⟩
theorem all_desc : ∀ (f : Nat) (p : Array Nat) (m q : Nat), PP n p → AllT n (fun r => PP n r.1) (kas_desc f p m q)
  | 0, _, _, _, h => h
  | f + 1, p, m, q, h => ⟨h.get hn _, h.get hn _, fun c => by
      by_cases hc : c = true
      · simp only [hc, if_true]
        by_cases hq : q > 0
        · simp only [hq, if_true]; exact all_desc f _ _ _ (h.rev _ _)
        · simp only [hq, if_false]; exact all_desc f _ _ _ h
      · simp only [hc, if_false]
        refine ⟨h.get hn _, h.get hn _, fun d => ?_⟩
        by_cases hd : d = true
        · simp only [hd, if_true]; exact h
        · simp only [hd, if_false]; exact all_desc f _ _ _ h⟩
theorem all_tail3 {p : Array Nat} (h : PP n p) (a b : Nat) : AllT n (fun r => PP n r.2) (kas_tail3 a b p) := by
  unfold kas_tail3
  refine AllT.bind (P := fun _ => True) (fun m _ => ?_) (all_asc hn (h.rev 0 a) _ _)
  exact h.rev 0 a
theorem all_descPart {p : Array Nat} (h : PP n p) (a b : Nat) : AllT n (fun r => PP n r.2) (kas_descPart a b p) := by
  refine AllT.bind (P := fun r => PP n r.1) (fun r hr => ?_) (all_desc hn _ _ _ _ h)
  by_cases hq : r.2.2 > 0
  · simp only [hq, if_true]; exact all_tail3 hn (hr.rev _ _) _ _
  · simp only [hq, if_false]; exact all_tail3 hn hr _ _
theorem all_count {p : Array Nat} (h : PP n p) (a : Nat) : AllT n (fun r => PP n r.2) (kas_count a p) := by
  refine AllT.bind (P := fun _ => True) (fun m _ => ?_) (all_asc hn h _ _)
  by_cases h1 : (m == a) = true
  · simp only [h1, if_true]; exact h
  · simp only [h1, if_false]
    by_cases h2 : m > 1
    · simp only [h2, if_true]
      refine ⟨h.get hn _, h.get hn _, fun c => ?_⟩
      by_cases hc : c = true
      · simp only [hc, if_true]; exact h
      · simp only [hc, if_false]; exact all_descPart hn (h.rev _ _) _ _
    · simp only [h2, if_false]; exact all_descPart hn h _ _
theorem all_place {p : Array Nat} (h : PP n p) (k : Nat) : ∀ (f l r : Nat), AllT n (fun _ => True) (kas_place p k f l r)
  | 0, _, _ => trivial
  | f + 1, l, r => by
      unfold kas_place
      by_cases hl : l ≥ r
      · simp only [hl, if_true]; exact trivial
      · simp only [hl, if_false]
        refine ⟨h.get hn _, h.get hn _, fun c => ?_⟩
        by_cases hc : c = true
        · simp only [hc, if_true]; exact all_place h k f _ _
        · simp only [hc, if_false]; exact all_place h k f _ _
theorem all_bin : ∀ (f : Nat) (p : Array Nat) (k : Nat), PP n p → AllT n (PP n) (kas_bin f p k)
  | 0, _, _, h => h
  | f + 1, p, k, h => AllT.bind (P := fun _ => True) (fun l _ => all_bin f _ _ (h.bub _ _)) (all_place hn h k _ _ _)
theorem all_sort : AllT n (PP n) (kas_sort n) := by
  refine AllT.bind (P := fun r => PP n r.2) (fun r hr => ?_) (all_count hn (p := List.toArray (List.range n)) (by unfold PP; simp) n)
  by_cases h1 : r.1 < n
  · simp only [h1, if_true]; exact all_bin hn _ _ _ hr
  · simp only [h1, if_false]; exact hr
end
/-- the order of the keys -/
noncomputable def lexB (fin : Bool) : List Int → List Int → Bool
  | a :: x, b :: y => if (a == b) = true then lexB fin x y else decide (a < b)
  | _, _ => fin
noncomputable def ltAt (ks : List (List Int)) (i j : Nat) : Bool := lexB (decide ((ks.getD i []).length < (ks.getD j []).length)) (ks.getD i []) (ks.getD j [])
noncomputable def sortedKeys (ks : List (List Int)) : List (List Int) := if ks.length < 2 then ks else (evT (ltAt ks) (kas_sort ks.length)).toList.map fun i => ks.getD i []
theorem map_getD_range {α : Type} (l : List α) (d : α) : (List.range l.length).map (fun i => l.getD i d) = l := by
  apply List.ext_getElem
  · simp
  · intro i h1 h2; simp at h1; simp [h1]
theorem sortedKeys_perm (ks : List (List Int)) : (sortedKeys ks).Perm ks := by
  unfold sortedKeys
  by_cases h : ks.length < 2
  · rw [if_pos h]
  · rw [if_neg h]
    have hp : PP ks.length (evT (ltAt ks) (kas_sort ks.length)) := (all_sort (n := ks.length) (by omega)).ev
    have := hp.map fun i => ks.getD i []
    rw [map_getD_range] at this
    exact this
section
variable {prog : Program} {w : World} {A : Around} {E : Value → Shared → Prop} {s : Shared} {S : List Addr} {N : Facts}
theorem lex_go {fin : Bool} {Q : Bool → Shared → Prop} : ∀ {x y : List Int} {vs ws : List Value} {i : Nat}, DAll prog w S N vs (x.map D.int) → DAll prog w S N ws (y.map D.int) → Q (lexB fin x y) s → KatLex prog w A true fin Q (vs.zip ws) i s
  | [], _, _, _, _, .nil, _, h => kat_nil (by simpa [lexB] using h)
  | _ :: _, [], _, _, _, .cons _ _, .nil, h => kat_nil (by simpa [lexB] using h)
  | a :: x, b :: y, _, _, i, .cons i1 r1, .cons i2 r2, h => by
    cases i1 using DIn.int_cases with
    | mk t =>
      cases i2 using DIn.int_cases with
      | mk u =>
        rw [List.zip_cons_cons]
        refine kat_cons (wpAny_eqBool_int (kat_go (fun e => kat_yes (lex_go r1 r2 ?_)) (fun e => kat_no ?_)))
        · rw [lexB, if_pos e] at h; exact h
        · rw [lexB, if_neg (by rw [e]; decide)] at h
          have hflag : (true && i == 0) = (i == 0) := by simp
          rw [hflag]
          cases hi : i == 0 with
          | true => exact oneLt_int h
          | false => exact kat_one _ _ (PySem.P.lt_int h)
theorem all_getD {vs : List Value} {ks : List (List Int)} (h : DAll prog w S N vs (ks.map fun k => .tup (k.map D.int))) {i : Nat} (hi : i < ks.length) :
    ∃ a o xs n, vs.getD i Value.none = .ref a ∧ N a o ∧ o.cls = .type "tuple" ∧ o.data = .seq xs n ∧ DAll prog w S N xs.toList ((ks.getD i []).map D.int) := by
  have hk : (ks.map fun k => D.tup (k.map D.int))[i]? = some (D.tup ((ks.getD i []).map D.int)) := by
    rw [List.getElem?_map, List.getD_eq_getElem?_getD, List.getElem?_eq_getElem hi]; simp
  obtain ⟨v, hv, iv⟩ := h.get hk
  rw [List.getD_eq_getElem?_getD, hv]
  cases iv using DIn.tup_cases with
  | mk a o xs n ho hc hd r => exact ⟨a, o, xs.toArray, n, rfl, ho, hc, hd, r⟩
/-- one question -/
theorem ask_lt {vs : List Value} {ks : List (List Int)} {hb : Heap} {R : Led} (h : DAll prog w S N vs (ks.map fun k => .tup (k.map D.int))) {i j : Nat} (hi : i < ks.length) (hj : j < ks.length) (H : ∀ a o, N a o → s.heap.get? a = some o) {C : Bool → Shared → Prop}
    (hc : C (ltAt ks i j) s) : kas_ask prog w A (tuples' true) vs i j C s := by
  obtain ⟨a, o, xs, n, e1, ho, hcl, hd, dv⟩ := all_getD h hi
  obtain ⟨b, o', ys, n', e2, ho', hcl', hd', dv'⟩ := all_getD h hj
  unfold kas_ask
  rw [e1, e2]
  refine kat_lt (H _ _ ho) hd (H _ _ ho') hd' ?_
  have l1 := dv.length
  have l2 := dv'.length
  simp only [List.length_map, Array.length_toList] at l1 l2
  rw [l1, l2]
  exact lex_go dv dv' hc
theorem tups_of {vs : List Value} {ks : List (List Int)} (H : ∀ a o, N a o → s.heap.get? a = some o) (h : DAll prog w S N vs (ks.map fun k => .tup (k.map D.int))) (hne : ∀ k ∈ ks, k ≠ []) :
    ∃ fs : List Value, KatTups s.heap vs fs ∧ fs.length = ks.length ∧ ∀ v ∈ fs, ∃ i t, v = .int i t := by
  induction ks generalizing vs with
  | nil => cases h; exact ⟨[], KatTups.nil, rfl, fun _ h => (nomatch h)⟩
  | cons k ks ih =>
    cases h with
    | cons i r =>
      obtain ⟨fs, h1, h2, h3⟩ := ih r fun k hk => hne k (.tail _ hk)
      cases i using DIn.tup_cases with
      | mk a o xs n ho hc hd dv =>
        cases k with
        | nil => exact absurd rfl (hne [] (.head _))
        | cons z k =>
          cases dv with
          | @cons v xs _ _ iv _ =>
            cases iv using DIn.int_cases with
            | mk t => exact ⟨.int z t :: fs, KatTups.cons (H _ _ ho) hc hd (by simp) h1, by simp [h2], fun v hv => by
                rcases List.mem_cons.mp hv with rfl | hv
                · exact ⟨_, _, rfl⟩
                · exact h3 v hv⟩
theorem pick_all {vs : List Value} {ds : List D} (h : DAll prog w S N vs ds) (d0 : D) : ∀ {l : List Nat}, (∀ i ∈ l, i < ds.length) → DAll prog w S N (l.map fun i => vs.getD i Value.none) (l.map fun i => ds.getD i d0)
  | [], _ => .nil
  | i :: l, hl => by
    have hi := hl i (.head _)
    have hk : ds[i]? = some (ds.getD i d0) := by rw [List.getD_eq_getElem?_getD, List.getElem?_eq_getElem hi]; simp
    obtain ⟨v, hv, iv⟩ := h.get hk
    refine .cons ?_ (pick_all h d0 fun j hj => hl j (.tail _ hj))
    show DIn prog w S N (vs.getD i Value.none) (ds.getD i d0)
    rw [List.getD_eq_getElem?_getD, hv]
    exact iv
end
noncomputable def noHeap : Heap := {}
theorem noHeap_get (a : Addr) : noHeap.get? a = none := by simp [noHeap, Heap.get?]
noncomputable def allBut (h : Heap) (L : Addr) : List (Addr × Obj) := (List.range h.objs.size).filterMap fun a => if a = L then none else (h.get? a).map fun o => (a, o)
theorem allBut_mem {h : Heap} {L : Addr} {p : Addr × Obj} : p ∈ allBut h L ↔ h.get? p.1 = some p.2 ∧ p.1 ≠ L := by
  unfold allBut
  rw [List.mem_filterMap]
  constructor
  · rintro ⟨a, ha, e⟩
    split at e
    · cases e
    · rename_i hne
      obtain ⟨o, ho, rfl⟩ := Option.map_eq_some_iff.mp e
      exact ⟨ho, hne⟩
  · rintro ⟨h1, h2⟩
    exact ⟨p.1, List.mem_range.mpr (Heap.lt_size h1), by rw [if_neg h2, h1]; rfl⟩
section
variable {prog : Program} {w : World} {cx : Cx} {mu : List MD} {ρ : Rho} {Kf : Frag}
/-- the library's rules that speak of a frame and of news, at a state of ours -/
theorem St.fr {N : Facts} {h : Heap} (H : St prog w cx mu ρ N h) : ∃ ml, Fr noHeap cx.env.locals h ml ∧ News noHeap cx.env.locals h (allBut h cx.env.locals) ∧ (∀ a o, N a o → a ≠ cx.env.locals) ∧
    ∀ h' D o, Fr noHeap cx.env.locals h' ml → News noHeap cx.env.locals h' ((D, o) :: allBut h cx.env.locals) → (∀ q ∈ allBut h cx.env.locals, q.1 < D) → St prog w cx mu ρ (addF N D o) h' := by
  obtain ⟨m, F, L, Fm, Mi, Hh, R⟩ := H
  obtain ⟨oL, ml, hL, nsL, hl⟩ := Fm.loc
  have hLo : h.get? cx.env.locals = some oL := Hh.ledU _ (List.mem_append_left _ hL)
  refine ⟨ml, ⟨nsL.ns hLo, (fun b o e => by rw [noHeap_get] at e; exact nomatch e), Nat.zero_le _⟩, fun p hp => ⟨(allBut_mem.mp hp).1, (allBut_mem.mp hp).2, noHeap_get _⟩, fun a o ha e => ?_, fun h' D o F' N' hD => ?_⟩
  · refine Hh.off a o ha ?_
    rw [e]; exact List.mem_map_of_mem (f := (·.1)) (List.mem_append_left _ hL)
  · have keep : ∀ a x, a ≠ cx.env.locals → h.get? a = some x → h'.get? a = some x := fun a x hne e => (N' (a, x) (.tail _ (allBut_mem.mpr ⟨e, hne⟩))).1
    have hDL : D ≠ cx.env.locals := (N' (D, o) (.head _)).2.1
    have hDh : ∀ a x, h.get? a = some x → a ≠ D := fun a x e q => by
      by_cases hne : a = cx.env.locals
      · exact hDL (q ▸ hne)
      · exact absurd (hD (a, x) (allBut_mem.mpr ⟨e, hne⟩)) (by rw [q]; exact Nat.lt_irrefl _)
    obtain ⟨oL', hL', nsL'⟩ := LCg.ns_obj F'.ns
    obtain ⟨pre, post, rfl⟩ := List.append_of_mem hL
    have nd := Hh.nodup
    have hne : ∀ p ∈ (pre ++ (post ++ (L ++ cx.U))), p.1 ≠ cx.env.locals := by
      intro p hp e
      simp only [List.append_assoc, List.cons_append, List.map_append, List.map_cons, List.nodup_append, List.nodup_cons, List.mem_append, List.mem_cons, List.mem_map] at nd hp
      obtain ⟨_, ⟨n1, _⟩, n2⟩ := nd
      rcases hp with hp | hp
      · exact n2 p.1 ⟨p, hp, rfl⟩ cx.env.locals (.inl rfl) e
      · apply n1
        rcases hp with hp | hp | hp
        · exact .inl ⟨p, hp, e⟩
        · exact .inr (.inl ⟨p, hp, e⟩)
        · exact .inr (.inr ⟨p, hp, e⟩)
    have mem_ne : ∀ p, p ∈ (pre ++ (cx.env.locals, oL) :: post) ++ (L ++ cx.U) → p ≠ (cx.env.locals, oL) → p ∈ pre ++ (post ++ (L ++ cx.U)) := fun p hp hq => by
      simp only [List.append_assoc, List.cons_append, List.mem_append, List.mem_cons] at hp ⊢
      rcases hp with hp | hp | hp
      · exact .inl hp
      · exact absurd hp hq
      · exact .inr hp
    have Hp' : Hp cx.hb cx.S ((pre ++ (cx.env.locals, oL') :: post) ++ (L ++ cx.U)) N h' := by
      refine ⟨Hh.base, fun b x hx => keep b x (fun e => ?_) (Hh.led b x hx), fun p hp => ?_, by simpa using Hh.nodup, fun b x hx => by simpa using Hh.off b x hx, fun b hb => ?_⟩
      · exact Hh.off b x hx (by rw [e]; exact List.mem_map_of_mem (f := (·.1)) (List.mem_append_left _ hL))
      · by_cases q : p = (cx.env.locals, oL')
        · rw [q]; exact hL'
        · have hp2 : p ∈ pre ++ (post ++ (L ++ cx.U)) := by
            simp only [List.append_assoc, List.cons_append, List.mem_append, List.mem_cons] at hp ⊢
            rcases hp with hp | hp | hp
            · exact .inl hp
            · exact absurd hp q
            · exact .inr hp
          refine keep _ _ (hne p hp2) (Hh.ledU p ?_)
          simp only [List.append_assoc, List.cons_append, List.mem_append, List.mem_cons] at hp2 ⊢
          rcases hp2 with hp2 | hp2
          · exact .inl hp2
          · exact .inr (.inr hp2)
      · obtain ⟨⟨x, e, i⟩, g2, g3⟩ := Hh.src b hb
        refine ⟨⟨x, keep b x (fun q => g2 ?_) e, i⟩, by simpa using g2, g3⟩
        rw [q]; exact List.mem_map_of_mem (f := (·.1)) (List.mem_append_left _ hL)
    have Hq : Hp cx.hb cx.S ((pre ++ (cx.env.locals, oL') :: post) ++ (L ++ cx.U)) (addF N D o) h' := by
      refine Hp'.add (N' (D, o) (.head _)).1 (fun hm => ?_) fun hm => ?_
      · obtain ⟨p, hp, e⟩ := List.mem_map.mp hm
        have hp1 := Hp'.ledU p hp
        by_cases q : p.1 = cx.env.locals
        · exact hDL (e ▸ q)
        · have hp2 : p ∈ (pre ++ (cx.env.locals, oL) :: post) ++ (L ++ cx.U) := by
            simp only [List.append_assoc, List.cons_append, List.mem_append, List.mem_cons] at hp ⊢
            rcases hp with hp | hp | hp
            · exact .inl hp
            · exact absurd (by rw [hp]) q
            · exact .inr (.inr hp)
          exact hDh _ _ (Hh.ledU p hp2) e
      · obtain ⟨⟨x, e, i⟩, _⟩ := Hh.src D hm
        exact hDh _ _ e rfl
    refine ⟨m, _, L, ⟨Fm.hk, Fm.hg, Fm.hb, ⟨oL', ml, List.mem_append_right _ (.head _), nsL', hl⟩, fun x hx => ?_, fun x hx => ?_, Fm.inj⟩, Mi.mono sub_addF, Hq, R.mono sub_addF⟩
    · obtain ⟨c, o₁, a, b, e⟩ := Fm.cel x hx
      refine ⟨c, o₁, a, ?_, e⟩
      rcases List.mem_append.mp b with b | b
      · refine List.mem_append_left _ (mem_mid b fun q => ?_)
        cases q
        obtain ⟨es, ep, hd, _⟩ := nsL
        rw [hd] at e; cases e
      · exact List.mem_append_right _ b
    · obtain ⟨hk, c, o₁, a, b, e⟩ := Fm.ownc x hx
      refine ⟨hk, c, o₁, a, mem_mid b fun q => ?_, e⟩
      cases q
      obtain ⟨es, ep, hd, _⟩ := nsL
      rw [hd] at e; cases e
theorem kvRel_keys {N : Facts} {xs : List (List Int × Addr × Value)} {kvs : List (List Int × Int)} (h : KvRel xs kvs) (hk : ∀ x ∈ xs, ∃ ok vs n, N x.2.1 ok ∧ ok.cls = .type "tuple" ∧ ok.data = .seq vs n ∧ ItemsAre (intKind prog w) x.1 vs.toList) {S : List Addr} :
    DAll prog w S N (xs.map fun x => .ref x.2.1) ((kvs.map (·.1)).map fun k => .tup (k.map D.int)) := by
  induction h with
  | nil => exact .nil
  | @cons k a i t xs kvs r ih =>
    obtain ⟨ok, vs, n, a1, a2, a3, a4⟩ := hk _ (.head _)
    exact .cons (.tup (vs := vs.toList) a1 a2 (by rw [a3]) (ints_itemsAre a4)) (ih fun x hx => hk x (.tail _ hx))
theorem small_sort {A : Around} {E : Value → Shared → Prop} {s : Shared} {a : Addr} {vs : List Value} {n : Nat} {Q : Value → Shared → Prop} (ho : s.heap.get? a = some (listOf vs.toArray n)) (hs : vs.length < 2)
    (h : ∀ h' n', (∀ b o, b ≠ a → s.heap.get? b = some o → h'.get? b = some o) → h'.get? a = some (listOf vs.toArray n') → Q .none { s with heap := h' }) :
    wpAny (model prog w) A (call (.builtin "list.sort") [.ref a]) Q E s := by
  refine wpAny_call_entry PyProof.Rows.slot_list_sort ⟨_, ho, rfl⟩ PyProof.Rows.entry_list_sort ?_ (PyProof.Rows.args_list_sort _)
  have ha : a < s.heap.objs.size := Heap.lt_size ho
  have s1 := Heap.SameBut.update s.heap a (Obj.mapSeq fun _ => (#[] : Array Value))
  obtain ⟨e1, ho1⟩ : ∃ e1, (s.heap.update a (Obj.mapSeq fun _ => (#[] : Array Value))).get? a = some (seqObj "list" #[] e1) := ⟨_, get?_update_seq ho fun _ => #[]⟩
  rw [list_sort_plain]
  refine wpAny_bind (listItems_at ho rfl ?_)
  refine wpAny_bind (listUpdate_at ho rfl ?_ (by rw [List.size_toArray, sizeLine_eq]; omega) (Nat.zero_le _))
  refine wpAny_bind (seqEpoch_at ho1 rfl ?_)
  refine wpAny_bind (wpAny_newTuple ?_ (by show vs.length ≤ _; rw [sizeLine_eq]; omega))
  refine wpAny_bind (wpAny_newList ?_ (Nat.zero_le _))
  refine wpAny_holding ?_
  dsimp only
  have hn2 : vs.toArray.size < 2 := by rw [List.size_toArray]; exact hs
  rw [if_pos hn2, if_pos hn2]
  refine wpAny_bind (wpAny_pure (wpAny_bind ?_))
  show wpAny _ _ (pure ((), SortSt.mk' general' (vs.toArray.zip vs.toArray) #[] 7 none)) _ _ _
  refine wpAny_pure ?_
  dsimp only
  have har : (arrOf (SortSt.mk' general' (vs.toArray.zip vs.toArray) #[] 7 none)).map (·.2) = vs.toArray := by
    show (vs.toArray.zip vs.toArray).map (·.2) = vs.toArray
    apply Array.ext
    · simp
    · intro i h1 h2; simp
  have hf : failedOf (SortSt.mk' general' (vs.toArray.zip vs.toArray) #[] 7 none) = none := rfl
  rw [har]
  have ho2 : (((s.heap.update a (Obj.mapSeq fun _ => (#[] : Array Value))).push (seqObj "tuple" vs.toArray 0)).push (seqObj "list" #[] 0)).get? a = some (seqObj "list" #[] e1) := Heap.get?_push_of_some _ (Heap.get?_push_of_some _ ho1)
  refine wpAny_bind (seqEpoch_at ho2 rfl (wpAny_bind (listUpdate_at ho2 rfl ?_ (Nat.zero_le _) (by rw [List.size_toArray, sizeLine_eq]; omega))))
  simp only [bne_self_eq_false, Bool.false_eq_true, if_false]
  refine wpAny_pure ⟨_, rfl, h _ _ (fun b o hb e => ?_) (get?_update_seq ho2 fun _ => vs.toArray)⟩
  have s2 := Heap.SameBut.update (((s.heap.update a (Obj.mapSeq fun _ => (#[] : Array Value))).push (seqObj "tuple" vs.toArray 0)).push (seqObj "list" #[] 0)) a (Obj.mapSeq fun _ => vs.toArray)
  exact (s2.2 b hb).trans (Heap.get?_push_of_some _ (Heap.get?_push_of_some _ ((s1.2 b hb).trans e)))
theorem op_sorted {kvs : List (List Int × Int)} {K : D → Prop} (hh : cx.A.handled = none) (hn : kvs.length < 64) (hne : ∀ p ∈ kvs, p.1 ≠ []) (h : K (.lst ((sortedKeys (kvs.map (·.1))).map fun k => .tup (k.map D.int)))) :
    OpT prog w cx mu ρ (fun vs => call (.builtin "sorted") vs) [.dct kvs] K := by
  intro N vs hv s E H
  cases hv with
  | cons i r =>
    cases r
    cases i with
    | @dct d o _ hsm ho hd =>
      obtain ⟨xs, es, ep, h1, h2, h3, h4, h5, h6⟩ := hd
      obtain ⟨ml, F, Nw, hoff, back⟩ := H.fr
      have Hh := H.hpU
      have hsz : es.size = kvs.length := by rw [← Array.length_toList, h3, List.length_map, h6.length]
      refine kdu_sorted (dex_src (es := es) (ep := ep) hsm) hh F Nw ⟨o, Hh.led _ _ ho, h1, h2⟩ (by rw [hsz, sizeLine_eq]; omega) fun Dd h' tk vs' F' N' hD hl hv' => ?_
      -- the list holds the keys
      have evs : vs' = xs.map fun x => Value.ref x.2.1 := by
        apply List.ext_getElem?
        intro j
        by_cases hj : j < vs'.length
        · obtain ⟨e, he, hev⟩ := hv' j vs'[j] (List.getElem?_eq_getElem hj)
          have he' : es.toList[j]? = some e := by rw [Array.getElem?_toList]; exact he
          rw [h3, List.getElem?_map] at he'
          obtain ⟨x, hx, rfl⟩ := Option.map_eq_some_iff.mp he'
          rw [List.getElem?_eq_getElem hj, List.getElem?_map, hx, hev]
          rfl
        · rw [List.getElem?_eq_none (by omega), List.getElem?_eq_none (by rw [List.length_map, h6.length]; omega)]
      have dk : DAll prog w cx.S N vs' ((kvs.map (·.1)).map fun k => .tup (k.map D.int)) := evs ▸ kvRel_keys h6 h4
      have hlk : vs'.length = (kvs.map (·.1)).length := by rw [dk.length, List.length_map]
      have hlen : (kvs.map (·.1)).length = kvs.length := List.length_map _
      have inN : ∀ (h'' : Heap) (o' : Obj), News noHeap cx.env.locals h'' ((Dd, o') :: allBut s.heap cx.env.locals) → ∀ a x, N a x → h''.get? a = some x := fun h'' o' N'' a x hx =>
        (N'' (a, x) (.tail _ (allBut_mem.mpr ⟨Hh.led _ _ hx, hoff a x hx⟩))).1
      have fin : ∀ h'' n' out ks tk', Fr noHeap cx.env.locals h'' ml → News noHeap cx.env.locals h'' ((Dd, listOf (List.toArray out) n') :: allBut s.heap cx.env.locals) → DAll prog w cx.S N out (ks.map fun k => .tup (k.map D.int)) → ks = sortedKeys (kvs.map (·.1)) →
          ∃ hq tq N', ({ s with heap := h'', toks := tk' } : Shared) = { s with heap := hq, toks := tq } ∧ Sub N N' ∧ St prog w cx mu ρ N' hq ∧ Is prog w cx.S K (.ref Dd) N' := fun h'' n' out ks tk' F'' N'' da e =>
        ⟨h'', tk', _, rfl, sub_addF, back h'' Dd _ F'' N'' hD, _, .lst addF_new rfl rfl rfl (da.mono sub_addF), by rw [e]; exact h⟩
      by_cases h2' : vs'.length < 2
      · refine small_sort (s := { s with heap := h', toks := tk }) (N' _ (.head _)).1 h2' fun h'' n' k'' ho'' => ?_
        refine fin h'' n' vs' _ tk ⟨?_, (fun b o e => by rw [noHeap_get] at e; exact nomatch e), Nat.zero_le _⟩ (fun p hp => ?_) dk ?_
        · obtain ⟨oL, hL, nsL⟩ := LCg.ns_obj F'.ns
          exact nsL.ns (k'' _ _ (fun q => (N' _ (.head _)).2.1 q.symm) hL)
        · rcases List.mem_cons.mp hp with rfl | hp
          · exact ⟨ho'', (N' _ (.head _)).2.1, noHeap_get _⟩
          · have := N' p (.tail _ hp)
            exact ⟨k'' _ _ (Nat.ne_of_lt (hD p hp)) this.1, this.2.1, noHeap_get _⟩
        · unfold sortedKeys; rw [if_pos (by omega)]
      · refine kat_lsort (vs := vs') F' N' (.head fun p hp => Nat.ne_of_lt (hD p hp)) (by simp) (by omega) (by omega) fun e1 h'' F'' N'' => ?_
        obtain ⟨fs, t1, t2, t3⟩ := tups_of (S := cx.S) (s := { s with heap := h'', toks := tk }) (inN h'' _ N'') dk (fun k hk => by
          obtain ⟨p, hp, rfl⟩ := List.mem_map.mp hk
          exact hne p hp)
        refine kat_kind (s := { s with heap := h'', toks := tk }) (T := .type "int") t1 (by omega) (fun v hv => ?_) rfl ?_
        · obtain ⟨i, t, rfl⟩ := t3 v hv
          exact Looks.of_pure rfl
        · show (kas_sort vs'.length).kasWp (kas_ask prog w cx.A.in1.in1 (tuples' true) vs') _ _
          have hall := all_sort (n := vs'.length) (by omega)
          refine AllT.run (lt := ltAt (kvs.map (·.1))) (I := fun s' => s' = { s with heap := h'', toks := tk }) (fun i j C s' hi hj hI hC => ?_) hall rfl fun s' hI => ?_
          · subst hI
            exact ask_lt (S := cx.S) (s := { s with heap := h'', toks := tk }) (hb := noHeap) (R := []) dk (by omega) (by omega) (inN h'' _ N'') (hC _ rfl)
          · subst hI
            refine KasFin.intro (s := { s with heap := h'', toks := tk }) F'' N'' (.head fun p hp => Nat.ne_of_lt (hD p hp)) fun h3' c F3 N3 => ?_
            have hp : PP vs'.length (evT (ltAt (kvs.map (·.1))) (kas_sort vs'.length)) := hall.ev
            have pk := pick_all dk (.tup []) (l := (evT (ltAt (kvs.map (·.1))) (kas_sort vs'.length)).toList) (fun i hi => by
              have := List.mem_range.mp (hp.mem_iff.mp hi)
              rw [List.length_map]; omega)
            have e2 : ((evT (ltAt (kvs.map (·.1))) (kas_sort vs'.length)).toList.map fun i => ((kvs.map (·.1)).map fun k => D.tup (k.map D.int)).getD i (D.tup [])) = (sortedKeys (kvs.map (·.1))).map fun k => D.tup (k.map D.int) := by
              unfold sortedKeys
              rw [if_neg (by omega), ← hlk]
              refine Eq.trans (List.map_congr_left fun i hi => ?_) List.map_map.symm
              have hi' := List.mem_range.mp (hp.mem_iff.mp hi)
              have hi2 : i < (kvs.map (·.1)).length := by omega
              show ((kvs.map (·.1)).map fun k => D.tup (k.map D.int)).getD i (D.tup []) = D.tup (((kvs.map (·.1)).getD i []).map D.int)
              rw [List.getD_eq_getElem?_getD, List.getD_eq_getElem?_getD, List.getElem?_map, List.getElem?_eq_getElem hi2]
              rfl
            rw [e2] at pk
            exact fin h3' c _ (sortedKeys (kvs.map (·.1))) tk F3 N3 pk rfl
end
section
variable {prog : Program} {w : World} {A : Around} {E : Value → Shared → Prop} {s : Shared}
theorem entry_dul : entryFor table "dict.update.loop" = some Builtin.«dict.update.loop» := entryFor_of_tree (by kernel_rfl)
theorem plain_dul : plainId "dict.update.loop" = true := by decide +kernel
theorem miss_keys : typeLookup (.type "list") "keys" = pure none := am_miss_of_fast (by decide +kernel)
set_option maxHeartbeats 4000000 in
theorem getAttrQ_miss_list {a : Addr} {o : Obj} {xs : Array Value} {k : Nat} {name : Str} {Q : Option Value → Shared → Prop}
    (hx : s.heap.get? a = some o) (hc : o.cls = .type "list") (hdat : o.data = .seq xs k) (hd : o.dict = none) (hmiss : typeLookup (.type "list") name = pure none) (hname : (["__module__", "__name__", "__qualname__", "__doc__", "__annotations__"] : List Str).contains name = false) (hA : A.handled = none)
    (h : ∀ h' tk, (∀ b ob, s.heap.get? b = some ob → h'.get? b = some ob) → Q none { s with heap := h', toks := tk }) (hsz : name.length + 100 ≤ sizeLine := by size_fits) :
    wpAny (model prog w) A (getAttr? (.ref a) name) Q E s := by
  obtain ⟨c, dct, dat, sl⟩ := o
  simp only at hc hdat hd
  subst hc hdat hd
  obtain ⟨hp, g, d, tk, os⟩ := s
  have hT : ∀ tk', (⟨hp, g, d, tk', os⟩ : Shared).TypeIs (.ref a) "list" := fun _ => ⟨_, hx, rfl⟩
  have f1 := sub_AttributeError
  have f3 := PySem.F.slot_list_getattribute.lookup
  have f4 := PySem.F.slot_list_getattribute.bind (.ref a)
  have f5 := am_list_getattr_none
  unfold getAttr? getAttrBy?
  refine wpAny_bind (wpAny_mkText (wpAny_bind (wpAny_attempt ?_)))
  unfold getAttrBy
  repeat (any_goals (first | assumption | exact hT _ | ((with_reducible show wpAny _ _ (call (Value.builtin "list.__getattribute__") _ _) _ _ _); refine call_meets PySem.F.slot_list_getattribute (hT _) am_entry_list_getattribute (PySem.F.args_list_getattribute_2 _ _) (meets_getattribute_miss_list a xs k sl name _ hmiss hname hsz) ⟨hx, hA, fun h' tk' e hx' => ?_⟩) | wp_step))
  obtain ⟨t', u', he⟩ := hx'.there
  show wpAny _ _ (getattributeRaised _ _ _ _ _ _ _) _ _ _
  unfold getattributeRaised
  repeat (any_goals (first | assumption | wp_step))
  exact h _ _ hx'.keeps
noncomputable def kvFold (kvs l : List (List Int × Int)) : List (List Int × Int) := l.foldl (fun acc p => kvPut acc p.1 p.2) kvs
noncomputable def pairD (p : List Int × Int) : D := .tup [.tup (p.1.map D.int), .int p.2]
theorem kvPut_len (kvs : List (List Int × Int)) (k : List Int) (v : Int) : (kvPut kvs k v).length ≤ kvs.length + 1 := by
  unfold kvPut
  split
  · rw [List.length_map]; omega
  · rw [List.length_append]; exact Nat.le_refl _
theorem Hp.lose {hb : Heap} {S : List Addr} {U : Led} {N : Facts} {h h' : Heap} {I : Addr} {o : Obj} (H : Hp hb S ([(I, o)] ++ U) N h) (k : ∀ b x, b ≠ I → h.get? b = some x → h'.get? b = some x) : Hp hb S U N h' := by
  have nd := H.nodup
  simp only [List.cons_append, List.nil_append, List.map_cons, List.nodup_cons] at nd
  refine ⟨H.base, fun b x hx => k b x (fun e => H.off b x hx (by rw [e]; simp)) (H.led b x hx), fun p hp => k _ _ (fun e => ?_) (H.ledU p (.tail _ hp)), nd.2, fun b x hx hm => H.off b x hx (.tail _ hm), fun b hb' => ?_⟩
  · have := List.mem_map_of_mem (f := (·.1)) hp
    rw [e] at this
    exact nd.1 this
  · obtain ⟨⟨x, e, i⟩, h2, h3⟩ := H.src b hb'
    exact ⟨⟨x, k _ _ (fun q => h2 (by rw [q]; simp)) e, i⟩, fun hm => h2 (.tail _ hm), h3⟩
theorem pair_inv {S : List Addr} {N : Facts} {v : Value} {p : List Int × Int} (i : DIn prog w S N v (pairD p)) : ∃ T oT nT u t ok vs n, v = .ref T ∧ N T oT ∧ oT.cls = .type "tuple" ∧ oT.data = .seq #[.ref u, .int p.2 t] nT ∧ N u ok ∧ ok.cls = .type "tuple" ∧ ok.data = .seq vs n ∧
    ItemsAre (intKind prog w) p.1 vs.toList := by
  unfold pairD at i
  cases i using DIn.tup_cases with
  | mk T oT ws nT hoT hcT hdT rT =>
    cases rT with
    | @cons a _ _ _ ia rT =>
      cases rT with
      | @cons b _ _ _ ib rT =>
        cases rT
        cases ia using DIn.tup_cases with
        | mk u ok vs n hk hck hdk rk =>
          cases ib using DIn.int_cases with
          | mk t => exact ⟨T, oT, nT, u, t, ok, vs.toArray, n, rfl, hoT, hcT, hdT, hk, hck, hdk, itemsAre_ints rk⟩
theorem dul_loop {hb : Heap} {S : List Addr} {U : Led} {N : Facts} {d I l : Addr} {ol : Obj} {vs : List Value} {n : Nat} {ps : List (List Int × Int)} (hA : A.units + 50 < cLine) (hh : A.handled = none)
    (hol : N l ol) (hcl : ol.cls = .type "list") (hdl : ol.data = .seq vs.toArray n) (dv : DAll prog w S N vs (ps.map pairD)) (hlen : ps.length ≤ 400) {R : Result → Shared → Prop} :
    ∀ (m i : Nat) (s : Shared) (o oI : Obj) (kvs : List (List Int × Int)), m = ps.length - i → i ≤ ps.length → kvs.length ≤ i → oI.cls = .type "list_iterator" → oI.data = .fields #[.ref l, .int i 0] → DctOb prog w N o kvs → Hp hb S ([(I, oI)] ++ ((d, o) :: U)) N s.heap →
      (∀ h' tk o', DctOb prog w N o' (kvFold kvs (ps.drop i)) → Hp hb S ((d, o') :: U) N h' → R (.ok (.ret .none)) { s with heap := h', toks := tk }) →
      codeAny (model prog w) A (.builtin "dict.update.loop" ⟨[.ref d, .ref I, .int i 0, .none], []⟩) R s := by
  have hlv : vs.length = ps.length := by rw [dv.length, List.length_map]
  intro m
  induction m with
  | zero =>
    intro i s o oI kvs hm hi hk hcI hdI hd H hR
    have hie : i = ps.length := by omega
    subst hie
    refine codeAny_builtin entry_dul ?_
    rw [Around.under_plainId plain_dul]
    unfold Builtin.«dict.update.loop»
    refine wpAny_bind ?_
    refine wpAny_pyNext_list_end (i := ps.length) (l := l) (items := vs.toArray) (show A.in1.handled = none from hh) ⟨oI, H.ledU _ (.head _), hcI, hdI⟩ ⟨ol, H.led _ _ hol, hcl, n, hdl⟩ (by simp [hlv]) fun h' he' => ?_
    refine wpAny_bind (wpAny_pure (wpAny_pure ?_))
    exact hR h' s.toks o (by rw [List.drop_length]; exact hd) (H.lose he')
  | succ m ih =>
    intro i s o oI kvs hm hi hk hcI hdI hd H hR
    have hlt : i < ps.length := by omega
    have hdi : (ps.map pairD)[i]? = some (pairD ps[i]) := by rw [List.getElem?_map, List.getElem?_eq_getElem hlt]; rfl
    obtain ⟨v, hv, iv⟩ := dv.get hdi
    obtain ⟨T, oT, nT, u, t, ok, ks, nk, rfl, hoT, hcT, hdT, hok, hck, hdk, hks⟩ := pair_inv iv
    refine codeAny_builtin entry_dul ?_
    rw [Around.under_plainId plain_dul]
    unfold Builtin.«dict.update.loop»
    refine wpAny_bind ?_
    refine wpAny_pyNext_list_item (i := i) (x := .ref T) ⟨oI, H.ledU _ (.head _), hcI, hdI⟩ ⟨ol, H.led _ _ hol, hcl, n, hdl⟩ (by simpa using hv) fun h' ⟨oI', eI', hcI', hdI'⟩ hs => ?_
    have H₁ : Hp hb S ([(I, oI')] ++ ((d, o) :: U)) N h' := H.set1 (fun b x hb' e => (hs.2 b hb').trans e) eI'
    have hT : ({ s with heap := h' } : Shared).TypeIs (.ref T) "tuple" := ⟨oT, H₁.led _ _ hoT, hcT⟩
    dsimp only
    refine wpAny_bind (wpAny_holding (wpAny_bind (wpAny_tryCatch ?_)))
    unfold Builtin.Dict.pairItems
    refine wpAny_bind (wpAny_typeOf hT ?_)
    rw [if_pos (by decide)]
    refine wpAny_bind ?_
    unfold seqItems?
    refine wpAny_bind (wpAny_load (H₁.led _ _ hoT) ?_)
    rw [hdT]
    refine wpAny_pure (wpAny_pure ?_)
    dsimp only [Option.getD]
    refine wpAny_holding ?_
    obtain ⟨xs, hmx, kr, hkx, hnd⟩ := dct_heap (U := [(I, oI')] ++ ((d, o) :: U)) H₁ (H₁.ledU _ (.tail _ (.head _))) hd
    refine wpAny_dictSet_heap (s := { s with heap := h' }) (knd := IK prog w) (k := ps[i].1) (by show A.units + 1 < cLine; omega) ⟨ok, ks, nk, H₁.led _ _ hok, hck, hdk, hks⟩ hmx (fun h₂ hm' hsb => ?_) (by rw [kr.length, sizeLine_eq]; omega)
    obtain ⟨o', es', ep', ho', g1, g2, g3, g4, g5⟩ := hm'
    have H₂ : Hp hb S ([(I, oI')] ++ ((d, o') :: U)) N h₂ := Hp.setU H₁ hsb ho'
    refine wpAny_pure ⟨plainId_quiet plain_dul _, ?_⟩
    have hd' : DctOb prog w N o' (kvPut kvs ps[i].1 ps[i].2) := ⟨_, es', ep', g1, g2, g3, stored_mem (P := fun kk aa => ∃ ok vs n, N aa ok ∧ ok.cls = .type "tuple" ∧ ok.data = .seq vs n ∧ ItemsAre (intKind prog w) kk vs.toList) hkx ⟨ok, ks, nk, hok, hck, hdk, hks⟩, g5, kr.put⟩
    have hpl := kvPut_len kvs ps[i].1 ps[i].2
    refine ih (i + 1) { s with heap := h₂, toks := _ } o' oI' _ (by omega) hlt (by omega) hcI' hdI' hd' H₂ fun h₃ tk o'' hd'' H₃ => hR h₃ tk o'' ?_ H₃
    rw [List.drop_eq_getElem_cons hlt]
    exact hd''
theorem call_dict {hb : Heap} {S : List Addr} {ps : List (List Int × Int)} {K : D → Prop} {Kf : Frag} (G : Gd Kf hb) (hA : Roomy A) (hh : A.handled = none) (hlen : ps.length ≤ 400) (h : K (.dct (kvFold [] ps))) :
    Op1 prog w hb S A (fun v => call (.type "dict") [v]) (.lst (ps.map pairD)) K := fun N v i U s E H => by
  cases i using DIn.lst_cases with
  | mk l ol vs n hol hcl hnd hdl dv =>
    have H1 := H.pushU { cls := .type "dict", data := .dict #[] }
    refine callType_codes (Q₁ := fun obj s₁ => obj = .ref s.heap.objs.size ∧ s₁ = { s with heap := s.heap.push { cls := .type "dict", data := .dict #[] } }) PySem.F.kt_called_dict (PySem.F.kt_typeCall_dict_1 _) PySem.F.entry_dict_init (kt_code_dict_new _ ⟨rfl, rfl⟩) ?_
    rintro obj s₁ ⟨rfl, rfl⟩
    have hTd : ({ s with heap := s.heap.push { cls := .type "dict", data := .dict #[] } } : Shared).TypeIs (.ref s.heap.objs.size) "dict" := ⟨_, H1.ledU _ (.head _), rfl⟩
    have hTl : ({ s with heap := s.heap.push { cls := .type "dict", data := .dict #[] } } : Shared).TypeIs (.ref l) "list" := ⟨_, H1.led _ _ hol, hcl⟩
    refine ⟨hTd, PySem.F.args_dict_init_2 _ _, ?_⟩
    unfold Builtin.«dict.__init__»
    refine wpAny_bind ?_
    unfold Builtin.Dict.selfAndRest
    refine wpAny_bind (wpAny_notOrdered_dict hTd ?_)
    show wpAny _ _ (pure (s.heap.objs.size, [Value.ref l])) _ _ _
    refine wpAny_pure ?_
    show wpAny _ _ (Builtin.Dict.updateFrom "dict.__init__" s.heap.objs.size (.ref l) [] .none) _ _ _
    unfold Builtin.Dict.updateFrom
    refine wpAny_bind (wpAny_typeOf hTl ?_)
    rw [if_pos (by decide)]
    refine wpAny_bind (getAttrQ_miss_list (H1.led _ _ hol) hcl hdl hnd miss_keys (by decide) hh (fun h₁ tk₁ k₁ => ?_) (by decide))
    have H2 := H1.keeps k₁
    rw [if_pos (by decide)]
    refine wpAny_bind (wpAny_rule (wpAny_bind ?_))
    refine wpAny_pyIter_list (s := { s with heap := h₁, toks := tk₁ }) ⟨ol, H2.led _ _ hol, hcl, n, hdl⟩ ?_
    have H3 := H2.pushU { cls := .type "list_iterator", data := .fields #[.ref l, .int 0 0] }
    refine wpAny_bind (wpAny_pure (wpAny_pure ⟨plainId_quiet plain_dul _, ?_⟩))
    refine dul_loop (A := A.in1) (hb := hb) (U := U) (d := s.heap.objs.size) (I := h₁.objs.size) (n := n) (by unfold Roomy at hA; show A.units + 1 + 50 < cLine; omega) hh hol hcl hdl dv hlen ps.length 0 { s with heap := h₁.push { cls := .type "list_iterator", data := .fields #[.ref l, .int 0 0] }, toks := tk₁ } { cls := .type "dict", data := .dict #[] } { cls := .type "list_iterator", data := .fields #[.ref l, .int 0 0] } [] (by omega) (Nat.zero_le _) (Nat.zero_le _) rfl rfl ⟨[], #[], 0, ⟨rfl, rfl, rfl⟩, rfl, rfl, fun _ hx => (nomatch hx), List.nodup_nil, .nil⟩ H3 fun h' tk o' hd' H' => ?_
    refine ⟨rfl, h', tk, _, rfl, sub_addF, Hp.freeze (V := []) H', _, .dct (fresh_notModules G H) addF_new (hd'.mono sub_addF), ?_⟩
    exact h
end
theorem Hp.write {hb : Heap} {S : List Addr} {U W W' : Led} {N : Facts} {h h' : Heap} (H : Hp hb S (W ++ U) N h) (ea : W'.map (·.1) = W.map (·.1)) (ho : ∀ p ∈ W', h'.get? p.1 = some p.2) (k : ∀ b o, b ∉ W.map (·.1) → h.get? b = some o → h'.get? b = some o) : Hp hb S (W' ++ U) N h' := by
  have em : (W' ++ U).map (·.1) = (W ++ U).map (·.1) := by rw [List.map_append, List.map_append, ea]
  have nd := H.nodup
  rw [List.map_append, List.nodup_append] at nd
  have inW : ∀ b, b ∈ W.map (·.1) → b ∈ (W ++ U).map (·.1) := fun b hb => by rw [List.map_append]; exact List.mem_append_left _ hb
  refine ⟨H.base, fun b x hx => k b x (fun e => H.off b x hx (inW b e)) (H.led b x hx), fun p hp => ?_, by rw [em]; exact H.nodup, fun b x hx => by rw [em]; exact H.off b x hx, fun b hb' => ?_⟩
  · rcases List.mem_append.mp hp with hp | hp
    · exact ho p hp
    · exact k _ _ (fun e => nd.2.2 _ e _ (List.mem_map_of_mem hp) rfl) (H.ledU p (List.mem_append_right _ hp))
  · obtain ⟨⟨x, e, i⟩, h2, h3⟩ := H.src b hb'
    exact ⟨⟨x, k _ _ (fun q => h2 (inW b q)) e, i⟩, by rw [em]; exact h2, h3⟩
section
variable {prog : Program} {w : World} {cx : Cx} {mu : List MD} {ρ : Rho} {Kf : Frag}
noncomputable def zipD (xs ys : List D) : List D := (xs.zip ys).map fun p => .tup [p.1, p.2]
/-- zip of two lists, walked under a pair of names -/
theorem EvIt.zip {x y : Str} {p q tp : Pos} {k : Nat} {pz pos : Pos} {e1 e2 : Expr} {K : List D → Prop} (hh : cx.A.handled = none) (G : Gd Kf cx.hb) (hx : cx.env.kindOf "zip" = some .globalImplicit) (hn : nsIn Kf mainGlobals "zip" = some none) (hv : bootBuiltins "zip" = some (.type "zip"))
    (he : starEach [e1, e2] cx.env = [(false, eval e1 cx.env), (false, eval e2 cx.env)]) (he1 : starEach (e1 :: [e2]) cx.env = (false, eval e1 cx.env) :: starEach [e2] cx.env) (he2 : starEach (e2 :: []) cx.env = (false, eval e2 cx.env) :: starEach [] cx.env) (hp : plainArgs [e2] cx.env pos)
    (h : EvP prog w cx mu ρ e1 fun d => EvP prog w cx mu ρ e2 fun d' => ∃ xs ys, d = .lst xs ∧ d' = .lst ys ∧ K (zipD xs ys)) : EvIt prog w cx mu ρ (.Tuple [.Name x p, .Name y q] k tp) (.Call (.Name "zip" pz) [e1, e2] [] pos) K := by
  intro N s E hpl H
  refine Call_ (name_blt G H hx hn hv (by decide) (by decide) ?_)
  have args : ArgsP prog w cx mu ρ [e1, e2] fun ds => ∃ xs ys, ds = [.lst xs, .lst ys] ∧ K (zipD xs ys) :=
    ArgsP.cons he1 (h.mono fun d hd => ArgsP.cons he2 (hd.mono fun d' ⟨xs, ys, e, e', k⟩ => ArgsP.nil ⟨xs, ys, by rw [e, e'], k⟩))
  have ha := args N pos s E H
  rw [he1] at ha ⊢
  refine PySem.callWith_type (by show (false || (backTo pos (starEach [e2] cx.env)).any (·.1)) = false; rw [show (backTo pos (starEach [e2] cx.env)).any (·.1) = false from hp]; rfl) (evalArgs_plain (wpAny_mono ha (fun vs s₁ z => ?_) fun _ _ e => e))
  obtain ⟨h₁, tk₁, N₁, rfl, sb₁, H₁, ds, is, xs, ys, rfl, kK⟩ := z
  cases is with
  | @cons u _ _ _ iu r =>
    cases r with
    | @cons v _ _ _ iv r =>
      cases r
      cases iu using DIn.lst_cases with
      | mk l1 o1 vs1 n1 ho1 hc1 _ hd1 r1 =>
        cases iv using DIn.lst_cases with
        | mk l2 o2 vs2 n2 ho2 hc2 _ hd2 r2 =>
          obtain ⟨m, F, Lm, Fm, Mi, Hh, R⟩ := H₁
          have isl1 : ∀ {h : Heap} {N' : Facts} {V : Led}, Sub N₁ N' → Hp cx.hb cx.S V N' h → h.IsList l1 vs1.toArray := fun sb H => ⟨o1, H.led _ _ (sb _ _ ho1), hc1, n1, hd1⟩
          have isl2 : ∀ {h : Heap} {N' : Facts} {V : Led}, Sub N₁ N' → Hp cx.hb cx.S V N' h → h.IsList l2 vs2.toArray := fun sb H => ⟨o2, H.led _ _ (sb _ _ ho2), hc2, n2, hd2⟩
          have lt1 : l1 < h₁.objs.size := Heap.lt_size (Hh.led _ _ ho1)
          have lt2 : l2 < h₁.objs.size := Heap.lt_size (Hh.led _ _ ho2)
          refine call_zip_2 (s := { s with heap := h₁, toks := tk₁ }) (isl1 (Sub.refl _) Hh) (isl2 (Sub.refl _) Hh) fun h₂ hz hTI hTO hi1 hi2 hsz hk => ?_
          have D := zipApart_new (n := h₁.objs.size) lt1 lt2
          have Wk := fun (A' : Around) (hA : A'.handled = none) => WalksT.zip2 (prog := prog) (w := w) hA (h₁.objs.size + 4) (h₁.objs.size + 2) (h₁.objs.size + 3) h₁.objs.size (h₁.objs.size + 1) l1 l2 D vs1.toArray vs2.toArray
          -- the written objects
          let addrs : List Addr := [h₁.objs.size + 4, h₁.objs.size + 2, h₁.objs.size + 3, h₁.objs.size, h₁.objs.size + 1]
          let J : Nat → Led → Prop := fun i W => W.map (·.1) = addrs ∧ NoCell W ∧ ∀ h, (∀ p ∈ W, h.get? p.1 = some p.2) → h.IsList l1 vs1.toArray → h.IsList l2 vs2.toArray →
            (IsZip h (h₁.objs.size + 4) (h₁.objs.size + 2) (h₁.objs.size + 3) .none ∧ IsPair h (h₁.objs.size + 2) (.ref h₁.objs.size) (.ref (h₁.objs.size + 1)) ∧ (∃ a b, IsPair h (h₁.objs.size + 3) a b) ∧ h.IsListIter h₁.objs.size l1 i ∧ h.IsListIter (h₁.objs.size + 1) l2 i ∧ h.IsList l1 vs1.toArray ∧ h.IsList l2 vs2.toArray)
          have mk : ∀ (i : Nat) (h : Heap), IsZip h (h₁.objs.size + 4) (h₁.objs.size + 2) (h₁.objs.size + 3) .none → IsPair h (h₁.objs.size + 2) (.ref h₁.objs.size) (.ref (h₁.objs.size + 1)) → (∃ a b, IsPair h (h₁.objs.size + 3) a b) → h.IsListIter h₁.objs.size l1 i → h.IsListIter (h₁.objs.size + 1) l2 i →
              ∃ W, J i W ∧ ∀ p ∈ W, h.get? p.1 = some p.2 := by
            rintro i h a1 a2 ⟨a, b, a3⟩ ⟨x1, a4, c4, d4⟩ ⟨x2, a5, c5, d5⟩
            obtain ⟨oz, hoz, hfz⟩ : ∃ o, h.get? (h₁.objs.size + 4) = some o ∧ ∀ z, o.data ≠ .cell z := ⟨_, a1, fun z q => nomatch q⟩
            obtain ⟨op, hop, hfp⟩ : ∃ o, h.get? (h₁.objs.size + 2) = some o ∧ ∀ z, o.data ≠ .cell z := ⟨_, a2, fun z q => nomatch q⟩
            obtain ⟨oq, hoq, hfq⟩ : ∃ o, h.get? (h₁.objs.size + 3) = some o ∧ ∀ z, o.data ≠ .cell z := ⟨_, a3, fun z q => nomatch q⟩
            have nc : NoCell [(h₁.objs.size + 4, oz), (h₁.objs.size + 2, op), (h₁.objs.size + 3, oq), (h₁.objs.size, x1), (h₁.objs.size + 1, x2)] :=
              NoCell.cons hfz (NoCell.cons hfp (NoCell.cons hfq (NoCell.cons (fun z q => by rw [show ((h₁.objs.size, x1) : Addr × Obj).2.data = x1.data from rfl, d4] at q; cases q)
                (NoCell.cons (fun z q => by rw [show ((h₁.objs.size + 1, x2) : Addr × Obj).2.data = x2.data from rfl, d5] at q; cases q) NoCell.nil))))
            refine ⟨[(h₁.objs.size + 4, oz), (h₁.objs.size + 2, op), (h₁.objs.size + 3, oq), (h₁.objs.size, x1), (h₁.objs.size + 1, x2)], ⟨rfl, nc, fun h' hw k1 k2 => ?_⟩, fun p hp => ?_⟩
            · have w1 := hw _ (.head _)
              have w2 := hw _ (.tail _ (.head _))
              have w3 := hw _ (.tail _ (.tail _ (.head _)))
              exact ⟨w1.trans (hoz.symm.trans a1), w2.trans (hop.symm.trans a2), ⟨a, b, w3.trans (hoq.symm.trans a3)⟩, ⟨x1, hw _ (.tail _ (.tail _ (.tail _ (.head _)))), c4, d4⟩, ⟨x2, hw _ (.tail _ (.tail _ (.tail _ (.tail _ (.head _))))), c5, d5⟩, k1, k2⟩
            · simp only [List.mem_cons, List.not_mem_nil, or_false] at hp
              rcases hp with rfl | rfl | rfl | rfl | rfl
              · exact hoz
              · exact hop
              · exact hoq
              · exact a4
              · exact a5
          obtain ⟨W₀, j₀, hW₀⟩ := mk 0 h₂ hz hTI ⟨_, _, hTO⟩ hi1 hi2
          have HW : Hp cx.hb cx.S (W₀ ++ (F ++ (Lm ++ cx.U))) N₁ h₂ := by
            refine Hp.fresh Hh hk hW₀ (fun p hp => ?_) (by rw [j₀.1]; simp [addrs])
            have hin : p.1 ∈ addrs := j₀.1 ▸ List.mem_map_of_mem hp
            simp only [addrs, List.mem_cons, List.not_mem_nil, or_false] at hin
            rcases hin with e | e | e | e | e <;> rw [e]
            · exact Nat.le_add_right _ 4
            · exact Nat.le_add_right _ 2
            · exact Nat.le_add_right _ 3
            · exact Nat.le_refl _
            · exact Nat.le_add_right _ 1
          have len1 := r1.length
          have len2 := r2.length
          have zl : (zipD xs ys).length = min vs1.length vs2.length := by simp [zipD, len1, len2]
          refine wpAny_pyIter_zip (s := { s with heap := h₂, toks := tk₁ }) hz ⟨h₂, tk₁, N₁, h₁.objs.size + 4, W₀, J, zipD xs ys, rfl, rfl, sb₁, ⟨m, F, Lm, Fm.more fun p hp => List.mem_append_right _ hp, Mi, HW.perm (perm3 F Lm W₀ cx.U).symm, R⟩, j₀, ?_, kK⟩
          have inW : ∀ {W : Led} {i : Nat}, J i W → ∀ b, b ∉ W.map (·.1) → b ∉ [h₁.objs.size + 4, h₁.objs.size + 3, h₁.objs.size, h₁.objs.size + 1] := fun {W i} j b hb hm => by
            rw [j.1] at hb
            simp only [addrs, List.mem_cons, List.not_mem_nil, or_false] at hb hm
            rcases hm with q | q | q | q <;> simp [q] at hb
          refine ⟨fun i W j => j.2.1, ?_, ?_, ?_⟩
          · intro i W U' N' s' Q E' d hd jW sb H' hQ
            have hi : i < min vs1.length vs2.length := by
              have := (List.getElem?_eq_some_iff.mp hd).1
              omega
            have hd' : ∃ a b, d = .tup [a, b] ∧ xs[i]? = some a ∧ ys[i]? = some b := by
              have h1 : i < xs.length := by omega
              have h2 : i < ys.length := by omega
              refine ⟨xs[i], ys[i], ?_, List.getElem?_eq_getElem h1, List.getElem?_eq_getElem h2⟩
              have : (zipD xs ys)[i]? = some (.tup [xs[i], ys[i]]) := by
                unfold zipD
                rw [List.getElem?_map, (List.getElem?_zip_eq_some (z := (xs[i], ys[i]))).mpr ⟨List.getElem?_eq_getElem h1, List.getElem?_eq_getElem h2⟩]
                rfl
              rw [this] at hd
              exact (Option.some.inj hd).symm
            obtain ⟨a, b, rfl, ha', hb'⟩ := hd'
            obtain ⟨va, hva, iva⟩ := r1.get ha'
            obtain ⟨vb, hvb, ivb⟩ := r2.get hb'
            have st := jW.2.2 s'.heap (fun p hp => H'.ledU p (List.mem_append_left _ hp)) (isl1 sb H') (isl2 sb H')
            refine (Wk cx.A hh).item i s' _ _ (by simpa using hi) st fun T vals h₃ tk₃ hvals hT isT mid k₃ => ?_
            refine (Wk cx.A hh).go _ _ _ i T { s' with heap := h₃, toks := tk₃ } _ _ mid fun h₄ st₄ k₄ => ?_
            obtain ⟨x', y', hx', hy', rfl⟩ := hvals
            have ex : x' = va := by
              have : vs1[i]? = some x' := by simpa using hx'
              rw [hva] at this; exact (Option.some.inj this).symm
            have ey : y' = vb := by
              have : vs2[i]? = some y' := by simpa using hy'
              rw [hvb] at this; exact (Option.some.inj this).symm
            subst ex ey
            obtain ⟨oT, hoT, hcT, nT, hdT⟩ := isT
            have k34 : ∀ c o, c ∉ W.map (·.1) → s'.heap.get? c = some o → h₄.get? c = some o := fun c o hc e => k₄ c o (inW jW c hc) (k₃ c o (inW jW c hc) e)
            obtain ⟨a1, a2, a3, a4, a5, _, _⟩ := st₄
            obtain ⟨W', j', hW'⟩ := mk (i + 1) h₄ a1 a2 a3 a4 a5
            have H₄ : Hp cx.hb cx.S (W' ++ U') N' h₄ := H'.write (j'.1.trans jW.1.symm) hW' k34
            have hTwr : T ∉ [h₁.objs.size + 4, h₁.objs.size + 3, h₁.objs.size, h₁.objs.size + 1] := (Wk cx.A hh).apart i T h₃ mid
            have hoT4 : h₄.get? T = some oT := k₄ T oT hTwr hoT
            have hTn : s'.heap.get? T = none := by
              cases e : s'.heap.get? T with
              | none => rfl
              | some o => exact absurd (Nat.lt_of_lt_of_le (Heap.lt_size e) hT) (Nat.lt_irrefl _)
            have H₅ : Hp cx.hb cx.S (W' ++ U') (addF N' T oT) h₄ := by
              refine H₄.add hoT4 (fun hm => ?_) (H'.freshS hTn)
              have := H'.freshU hTn
              rw [List.map_append, j'.1, ← jW.1, ← List.map_append] at hm
              exact this hm
            exact hQ (.ref T) h₄ tk₃ _ W' j' sub_addF (.tup (vs := [x', y']) addF_new hcT (by simpa using hdT) (.cons (iva.mono (sb.trans sub_addF)) (.cons (ivb.mono (sb.trans sub_addF)) .nil))) H₅
          · intro W U' N' s' Q E' jW sb H' hQ
            have st := jW.2.2 s'.heap (fun p hp => H'.ledU p (List.mem_append_left _ hp)) (isl1 sb H') (isl2 sb H')
            rw [zl, ← List.size_toArray, ← List.size_toArray (as := vs2)] at st
            refine (Wk cx.A hh).done s' _ _ st fun h₃ tk₃ k₃ => ⟨rfl, ?_⟩
            refine hQ h₃ tk₃ [] NoCell.nil ?_
            have k' : ∀ c o, c ∉ W.map (·.1) → s'.heap.get? c = some o → h₃.get? c = some o := fun c o hc e => k₃ c o (inW jW c hc) e
            have H0 : Hp cx.hb cx.S U' N' s'.heap := Hp.drop (V := []) H'
            have nd := H'.nodup
            rw [List.map_append, List.nodup_append] at nd
            refine ⟨H0.base, fun b x hx => k' b x (fun e => H'.off b x hx (by rw [List.map_append]; exact List.mem_append_left _ e)) (H0.led b x hx), fun p hp => k' _ _ (fun e => nd.2.2 _ e _ (List.mem_map_of_mem hp) rfl) (H0.ledU p hp), H0.nodup, H0.off, fun b hb' => ?_⟩
            obtain ⟨⟨x, e, i⟩, h2, h3⟩ := H'.src b hb'
            exact ⟨⟨x, k' _ _ (fun q => h2 (by rw [List.map_append]; exact List.mem_append_left _ q)) e, i⟩, (H0.src b hb').2.1, h3⟩
          · intro W U' N' s' Q E' jW sb H' hQ
            have st := jW.2.2 s'.heap (fun p hp => H'.ledU p (List.mem_append_left _ hp)) (isl1 sb H') (isl2 sb H')
            exact wpAny_pyIter_zip st.1 hQ
theorem call_index {hb : Heap} {S : List Addr} {A : Around} {ns : List Int} {k : Int} {K : D → Prop} (hl : ns.length ≤ 60) (hlay : PyData.layable0 (.list (ns.map .int)) = true) (hk : k ∈ ns) (h : K (.int (ns.idxOf k : Nat))) :
    Op2 prog w hb S A (fun u v => call (.builtin "list.index") [u, v]) (.lst (ns.map D.int)) (.int k) K := fun N u v i j U s E H => by
  cases i using DIn.lst_cases with
  | mk l o vs n ho hc _ hd r =>
    cases j using DIn.int_cases with
    | mk t => exact index_list_ints (isList_of H ho hc hd) (intsAre_of r) hlay hk (now_is H (.int _ _) h)
end
/-- how deep we may stand -/
structure AOk (n : Nat) (A : Around) : Prop where
  handled : A.handled = none
  depth : A.depth ≤ 310 + 3 * n
  units : A.units ≤ 20 + 20 * n
theorem AOk.deeper {n : Nat} {A : Around} (h : AOk n A) (env : Env) : AOk (n + 1) (A.deeper env) := ⟨h.handled, by have := h.depth; show A.depth + 1 ≤ _; omega, by have := h.units; show A.units + 3 ≤ _; omega⟩
theorem AOk.up {n : Nat} {A : Around} (h : AOk n A) : AOk (n + 1) A := ⟨h.handled, by have := h.depth; omega, by have := h.units; omega⟩
theorem AOk.to {n m : Nat} {A : Around} (h : AOk n A) (hm : n ≤ m) : AOk m A := ⟨h.handled, by have := h.depth; omega, by have := h.units; omega⟩
theorem AOk.roomy {n : Nat} {A : Around} (h : AOk n A) (hn : n ≤ 60 := by decide) : Roomy A := by
  have := h.units
  unfold Roomy
  have : cLine = 9900 := rfl
  omega
theorem AOk.room {n : Nat} {A : Around} (h : AOk n A) (hn : n ≤ 60 := by decide) : A.depth + 1 < recursionLimit := by
  have := h.depth
  have : recursionLimit = 1000 := rfl
  omega
noncomputable abbrev envGo (sc : Scope) (q : Str) (cd : Value) (L fa : Addr) : Env :=
  { scope := sc, locals := L, globals := mainGlobals, cells := cellsFrom (L + 1) sc.names [], qual := q ++ ".<locals>.", func := some fa, code := cd, frame := some L, builtins := builtinsNs }
noncomputable abbrev Cx.go (hb : Heap) (S : List Addr) (A : Around) (sc : Scope) (q : Str) (cd : Value) (L fa : Addr) (U : Led) : Cx := { hb, S, A := A.deeper (envGo sc q cd L fa), env := envGo sc q cd L fa, own := ownOf sc, U }
noncomputable def parOk (sc : Scope) (ps : List Str) : Bool := ps.all fun x => sc.names.lookup x == some .local || sc.names.lookup x == some .cell
noncomputable def scOk (sc : Scope) (ps : List Str) : Bool := sc.kind == .function && !sc.isCoroutine && !sc.isGenerator && decide (sc.names.map (·.1)).Nodup && sc.names.all (fun p => p.2 != .free) && parOk sc ps && decide ps.Nodup
section
variable {prog : Program} {w : World} {Kf : Frag}
theorem fnOk_of {hb : Heap} (X : Kf.In hb) {fa : Addr} {oc : Value} {od : Option Addr} {sl : Array (Option Value)} {name q : Str} {pa : Arguments} {body : List Stmt} {sc : Scope} {dV kV doc pm cd ct : Value} {an : Option Addr} {ps : List Str}
    (ho : Kf.lookup fa = some ⟨oc, od, .func ⟨name, q, pa, .stmts body, sc, mainGlobals, [], dV, kV, doc, pm, an, cd, ct, builtinsNs⟩, sl⟩) (hcd : codeIn Kf cd q = true) (hsc : scOk sc ps = true)
    (hbi : ∀ vs : List Value, vs.length = ps.length → bindArgs ⟨name, q, pa, .stmts body, sc, mainGlobals, [], dV, kV, doc, pm, an, cd, ct, builtinsNs⟩ ⟨vs, []⟩ = pure (ps.zip vs)) :
    FnOk hb fa ⟨name, q, pa, .stmts body, sc, mainGlobals, [], dV, kV, doc, pm, an, cd, ct, builtinsNs⟩ body ps := by
  unfold scOk at hsc
  simp only [Bool.and_eq_true, Bool.not_eq_true', beq_iff_eq, decide_eq_true_eq] at hsc
  obtain ⟨⟨⟨⟨⟨⟨h1, h2⟩, h3⟩, h4⟩, h5⟩, h6⟩, h7⟩ := hsc
  refine ⟨⟨_, X _ _ ho, rfl⟩, codeRec_of X hcd, rfl, rfl, rfl, rfl, hbi, h1, h2, h3, h4, fun p hp => ?_, fun x hx => ?_, h7⟩
  · have := List.all_eq_true.mp h5 p hp
    simpa using this
  · have := List.all_eq_true.mp h6 x hx
    simpa using this
/-- a def of the program is called -/
theorem fn_at {hb : Heap} {S : List Addr} {A : Around} {n : Nat} {fa : Addr} {oc : Value} {od : Option Addr} {sl : Array (Option Value)} {name q : Str} {pa : Arguments} {body : List Stmt} {sc : Scope} {dV kV doc pm cd ct : Value} {an : Option Addr} {ps : List Str} {ds : List D} {K : D → Prop}
    (G : Gd Kf hb) (hA : AOk n A) (hn : n ≤ 40)
    (ho : Kf.lookup fa = some ⟨oc, od, .func ⟨name, q, pa, .stmts body, sc, mainGlobals, [], dV, kV, doc, pm, an, cd, ct, builtinsNs⟩, sl⟩) (hcd : codeIn Kf cd q = true) (hsc : scOk sc ps = true)
    (hb' : ∀ vs : List Value, vs.length = ps.length → bindArgs ⟨name, q, pa, .stmts body, sc, mainGlobals, [], dV, kV, doc, pm, an, cd, ct, builtinsNs⟩ ⟨vs, []⟩ = pure (ps.zip vs)) (hlen : ds.length = ps.length)
    (h : ∀ L U, AOk (n + 1) (Cx.go hb S A sc q cd L fa U).A → ExP prog w (Cx.go hb S A sc q cd L fa U) [] (ps.zip ds) body fun o => match o with
      | .ret d => K d
      | .next _ _ => K .none
      | _ => False) : OpN prog w hb S A (fun vs => call (.ref fa) vs) ds K :=
  fn_call (fnOk_of G.X ho hcd hsc hb') (Nat.lt_of_succ_lt (hA.room (by omega))) G.nolimit hlen fun L U => h L U (hA.deeper _)
/-- a class of the program is called -/
theorem cls_at {hb : Heap} {S : List Addr} {A : Around} {n : Nat} {C fI : Addr} {oc : Value} {od : Option Addr} {sl : Array (Option Value)} {name q : Str} {pa : Arguments} {body : List Stmt} {sc : Scope} {dV kV doc pm cd ct : Value} {an : Option Addr} {ps : List Str} {ds : List D} {K : D → Prop}
    (G : Gd Kf hb) (hA : AOk n A) (hn : n ≤ 40) (hm : makesIn Kf C = true) (hi : findIn Kf (.ref C) "__init__" = some (some (.ref fI))) (hf : typeIn Kf (.ref fI) = some (.type "function"))
    (ho : Kf.lookup fI = some ⟨oc, od, .func ⟨name, q, pa, .stmts body, sc, mainGlobals, [], dV, kV, doc, pm, an, cd, ct, builtinsNs⟩, sl⟩) (hcd : codeIn Kf cd q = true) (hsc : scOk sc ps = true)
    (hb' : ∀ vs : List Value, vs.length = ps.length → bindArgs ⟨name, q, pa, .stmts body, sc, mainGlobals, [], dV, kV, doc, pm, an, cd, ct, builtinsNs⟩ ⟨vs, []⟩ = pure (ps.zip vs)) (hlen : ds.length + 1 = ps.length)
    (h : ∀ A' x dx L U, AOk (n + 2) (Cx.go hb S A' sc q cd L fI U).A → ExP prog w (Cx.go hb S A' sc q cd L fI U) [.inst x dx C [] []] (ps.zip (.adr x :: ds)) body fun o =>
      ∃ ρ' ns ds', o = .next [.inst x dx C ns ds'] ρ' ∧ K (.obj C ns ds')) :
    OpN prog w hb S A (fun vs => call (.ref C) vs) ds K :=
  make_call G (fnOk_of G.X ho hcd hsc hb') hm hi hf (hA.room (by omega)) hlen fun A' x dx L U e1 e2 e3 => h A' x dx L U
    ((show AOk (n + 1) A' from ⟨e1.trans hA.handled, by have := hA.depth; omega, by have := hA.units; omega⟩).deeper _)
end
theorem len1 {P : List Value → Prop} (h : ∀ a, P [a]) : ∀ vs : List Value, vs.length = 1 → P vs
  | [a], _ => h a
theorem len2 {P : List Value → Prop} (h : ∀ a b, P [a, b]) : ∀ vs : List Value, vs.length = 2 → P vs
  | [a, b], _ => h a b
theorem len3 {P : List Value → Prop} (h : ∀ a b c, P [a, b, c]) : ∀ vs : List Value, vs.length = 3 → P vs
  | [a, b, c], _ => h a b c
theorem len4 {P : List Value → Prop} (h : ∀ a b c d, P [a, b, c, d]) : ∀ vs : List Value, vs.length = 4 → P vs
  | [a, b, c, d], _ => h a b c d
-- decoders
noncomputable def D.asInt : D → Int
  | .int i => i
  | _ => 0
noncomputable def D.asInts : D → List Int
  | .tup ds => ds.map D.asInt
  | .lst ds => ds.map D.asInt
  | _ => []
noncomputable def D.asPair : D → List Int × Int
  | .tup [a, b] => (a.asInts, b.asInt)
  | _ => ([], 0)
noncomputable def tupI (c : List Int) : D := .tup (c.map D.int)
noncomputable def lstI (c : List Int) : D := .lst (c.map D.int)
theorem asInt_map (c : List Int) : (c.map D.int).map D.asInt = c := by
  rw [List.map_map]
  exact (List.map_congr_left fun _ _ => rfl).trans (List.map_id c)
theorem asInts_tupI (c : List Int) : (tupI c).asInts = c := asInt_map c
theorem asInts_lstI (c : List Int) : (lstI c).asInts = c := asInt_map c
theorem asPair_pairD (p : List Int × Int) : (pairD p).asPair = p := by
  obtain ⟨a, b⟩ := p
  show (((D.tup (a.map D.int)).asInts, b) : List Int × Int) = (a, b)
  rw [show (D.tup (a.map D.int)).asInts = a from asInts_tupI a]
section
variable {prog : Program} {w : World} {cx : Cx} {mu : List MD} {ρ : Rho} {Kf : Frag}
theorem All2.of_eq {f : D → D} : ∀ {l k : List D}, All2 (fun a b => b = f a) l k → k = l.map f := All2.map
/-- a comprehension that maps and filters -/
theorem EvP.compM {α : Type} {elt target iter : Expr} {ifs : List Expr} {scope : Scope} {pos : Pos} {K : D → Prop} (l : List α) (g : α → D) (dec : D → α) (hdec : ∀ a ∈ l, dec (g a) = a) (p : α → Bool) (f : α → D) (τ : α → Rho)
    (hh : cx.A.handled = none) (so : ScopeOk scope cx.env) (hpl : Plain target) (hfold : ∀ x, foldedSetIterable iter cx.env x = pure x) (hlen : l.length ≤ 1000)
    (hI : EvIt prog w cx mu ρ target iter fun items => items = l.map g)
    (hE : ∀ a ∈ l, Tgt target (g a) (τ a) ∧ (∀ q ∈ τ a, isOwn scope q.1 = true) ∧ ∀ L cs U, (∀ q ∈ τ a, Storable (cx.inner scope L cs U) q.1) ∧ Tests prog w (cx.inner scope L cs U) (τ a ++ cut scope ρ) ifs (fun b => b = p a) ∧
      (p a = true → EvP prog w (cx.inner scope L cs U) [] (τ a ++ cut scope ρ) elt fun d => d = f a))
    (hK : K (.lst ((l.filter p).map f))) : EvP prog w cx mu ρ (.ListComp elt [⟨target, iter, ifs, 0⟩] scope pos) K := by
  refine EvP.comp hh so hpl hfold (fun N s E hp H => wpAny_mono (hI N s E hp H) (fun x s₁ hx => wpAny_mono hx (fun it s₂ z => ?_) fun _ _ e => e) fun _ _ e => e)
  obtain ⟨h, tk, N', I, W, J, items, e1, e2, sb, st, j, dd, rfl⟩ := z
  refine ⟨h, tk, N', I, W, J, _, e1, e2, sb, st, j, dd, by rw [List.length_map]; exact hlen, fun d => p (dec d), fun d e => e = f (dec d), fun d hd => ?_, fun ds a2 => ?_⟩
  · obtain ⟨a, ha, rfl⟩ := List.mem_map.mp hd
    obtain ⟨t, own, r⟩ := hE a ha
    refine ⟨τ a, t, own, fun L cs U => ?_⟩
    obtain ⟨r1, r2, r3⟩ := r L cs U
    refine ⟨r1, ?_, fun hp => ?_⟩
    · simp only [hdec a ha]; exact r2
    · simp only [hdec a ha] at hp ⊢; exact r3 hp
  · have e := All2.map a2
    rw [e]
    have e3 : (List.filter (fun d => p (dec d)) (l.map g)).map (fun d => f (dec d)) = (l.filter p).map f := by
      rw [List.filter_map, List.map_map]
      have e4 : l.filter ((fun d => p (dec d)) ∘ g) = l.filter p := List.filter_congr fun a ha => by show p (dec (g a)) = p a; rw [hdec a ha]
      rw [e4]
      exact List.map_congr_left fun a ha => by show f (dec (g a)) = f a; rw [hdec a (List.mem_filter.mp ha).1]
    rw [e3]
    exact hK
/-- the same, stored at once -/
theorem S1.compM {α : Type} {x : Str} {px pos' : Pos} {elt target iter : Expr} {ifs : List Expr} {scope : Scope} {pos : Pos} {K : Oc → Prop} (l : List α) (g : α → D) (dec : D → α) (hdec : ∀ a ∈ l, dec (g a) = a) (p : α → Bool) (f : α → D) (τ : α → Rho)
    (hh : cx.A.handled = none) (so : ScopeOk scope cx.env) (hpl : Plain target) (hfold : ∀ x, foldedSetIterable iter cx.env x = pure x) (hlen : l.length ≤ 1000) (hx : Storable cx x)
    (hs : swapsWithSole [.Name x px] (.ListComp elt [⟨target, iter, ifs, 0⟩] scope pos) pos'.line cx.env = pure true)
    (hI : EvIt prog w cx mu ρ target iter fun items => items = l.map g)
    (hE : ∀ a ∈ l, Tgt target (g a) (τ a) ∧ (∀ q ∈ τ a, isOwn scope q.1 = true) ∧ ∀ L cs U, (∀ q ∈ τ a, Storable (cx.inner scope L cs U) q.1) ∧ Tests prog w (cx.inner scope L cs U) (τ a ++ cut scope ρ) ifs (fun b => b = p a) ∧
      (p a = true → EvP prog w (cx.inner scope L cs U) [] (τ a ++ cut scope ρ) elt fun d => d = f a))
    (hK : K (.next mu ((x, .lst ((l.filter p).map f)) :: ρ))) : S1 prog w cx mu ρ (.Assign [.Name x px] (.ListComp elt [⟨target, iter, ifs, 0⟩] scope pos) pos') K := by
  refine S1.assignComp hh so hpl hfold hx hs (fun N s E hp H => wpAny_mono (hI N s E hp H) (fun x s₁ hx => wpAny_mono hx (fun it s₂ z => ?_) fun _ _ e => e) fun _ _ e => e)
  obtain ⟨h, tk, N', I, W, J, items, e1, e2, sb, st, j, dd, rfl⟩ := z
  refine ⟨h, tk, N', I, W, J, _, e1, e2, sb, st, j, dd, by rw [List.length_map]; exact hlen, fun d => p (dec d), fun d e => e = f (dec d), fun d hd => ?_, fun ds a2 => ?_⟩
  · obtain ⟨a, ha, rfl⟩ := List.mem_map.mp hd
    obtain ⟨t, own, r⟩ := hE a ha
    refine ⟨τ a, t, own, fun L cs U => ?_⟩
    obtain ⟨r1, r2, r3⟩ := r L cs U
    refine ⟨r1, ?_, fun hp => ?_⟩
    · simp only [hdec a ha]; exact r2
    · simp only [hdec a ha] at hp ⊢; exact r3 hp
  · have e := All2.map a2
    rw [e]
    have e3 : (List.filter (fun d => p (dec d)) (l.map g)).map (fun d => f (dec d)) = (l.filter p).map f := by
      rw [List.filter_map, List.map_map]
      have e4 : l.filter ((fun d => p (dec d)) ∘ g) = l.filter p := List.filter_congr fun a ha => by show p (dec (g a)) = p a; rw [hdec a ha]
      rw [e4]
      exact List.map_congr_left fun a ha => by show f (dec (g a)) = f a; rw [hdec a (List.mem_filter.mp ha).1]
    rw [e3]
    exact hK
theorem scopeOk_of {scope : Scope} {env : Env} (h1 : scope.kind = .function) (h2 : decide (scope.names.map (·.1)).Nodup = true) (h3 : (scope.names.all fun p => p.2 != .free || env.kindOf p.1 == some .cell || env.kindOf p.1 == some .free) = true) : ScopeOk scope env :=
  ⟨h1, of_decide_eq_true h2, fun n hn => by
    have := List.all_eq_true.mp h3 _ hn
    simpa using this⟩
theorem plain1 {x : Str} {p : Pos} : Plain (.Name x p) := .inl ⟨x, p, rfl⟩
theorem plain2 {x y : Str} {p q : Pos} {k : Nat} {pos : Pos} : Plain (.Tuple [.Name x p, .Name y q] k pos) := .inr ⟨x, y, p, q, k, pos, rfl⟩
theorem tgt1 {x : Str} {p : Pos} {d : D} : Tgt (.Name x p) d [(x, d)] := .name x p d
theorem tgt2 {x y : Str} {p q : Pos} {k : Nat} {pos : Pos} {a b : D} : Tgt (.Tuple [.Name x p, .Name y q] k pos) (.tup [a, b]) [(y, b), (x, a)] := .pair x y p q k pos a b
theorem tau1 {P : Str × D → Prop} {a : Str × D} (h : P a) : ∀ q ∈ [a], P q := fun q hq => by rw [List.mem_singleton.mp hq]; exact h
theorem tau2 {P : Str × D → Prop} {a b : Str × D} (h : P a) (k : P b) : ∀ q ∈ [a, b], P q := fun q hq => by
  rcases List.mem_cons.mp hq with rfl | hq
  · exact h
  · rw [List.mem_singleton.mp hq]; exact k
theorem EvIt.lst {target e : Expr} {K : List D → Prop} (hh : cx.A.handled = none) (h : EvP prog w cx mu ρ e fun d => ∃ ds, d = .lst ds ∧ K ds) : EvIt prog w cx mu ρ target e K :=
  EvIt.of (h.mono fun d ⟨ds, e, k⟩ => ⟨ds, e ▸ IterD.lst hh ds, k⟩)
theorem EvIt.tup {target e : Expr} {K : List D → Prop} (hh : cx.A.handled = none) (h : EvP prog w cx mu ρ e fun d => ∃ ds, d = .tup ds ∧ K ds) : EvIt prog w cx mu ρ target e K :=
  EvIt.of (h.mono fun d ⟨ds, e, k⟩ => ⟨ds, e ▸ IterD.tup hh ds, k⟩)
theorem EvIt.rng {target e : Expr} {K : List D → Prop} (hh : cx.A.handled = none) (h : EvP prog w cx mu ρ e fun d => ∃ a b, d = .rng a b ∧ Builtin.Range.small a b 1 = true ∧ K (rngL a b)) : EvIt prog w cx mu ρ target e K :=
  EvIt.of (h.mono fun d ⟨a, b, e, s, k⟩ => ⟨_, e ▸ IterD.rng hh a b s, k⟩)
theorem SubP.tupI {c : List Int} {k : Int} {K : D → Prop} (h0 : 0 ≤ k) (hk : k.toNat < c.length) (h63 : c.length < 2 ^ 60) (h : K (.int (c.getD k.toNat 0))) : SubP prog w cx (.tup (c.map D.int)) (.int k) K :=
  SubP.tup h0 (by omega) (by rw [List.getElem?_map, List.getElem?_eq_getElem hk]; rfl) (by rw [List.getD_eq_getElem?_getD, List.getElem?_eq_getElem hk] at h; exact h)
theorem SubP.lstI {c : List Int} {k : Int} {K : D → Prop} (h0 : 0 ≤ k) (hk : k.toNat < c.length) (h63 : c.length < 2 ^ 60) (h : K (.int (c.getD k.toNat 0))) : SubP prog w cx (.lst (c.map D.int)) (.int k) K :=
  SubP.lst h0 (by omega) (by rw [List.getElem?_map, List.getElem?_eq_getElem hk]; rfl) (by rw [List.getD_eq_getElem?_getD, List.getElem?_eq_getElem hk] at h; exact h)
theorem SubP.lstM {α : Type} {f : α → D} {c : List α} {k : Int} {K : D → Prop} (h0 : 0 ≤ k) (hk : k.toNat < c.length) (h63 : c.length < 2 ^ 60) (h : K (f c[k.toNat])) : SubP prog w cx (.lst (c.map f)) (.int k) K :=
  SubP.lst h0 (by omega) (by rw [List.getElem?_map, List.getElem?_eq_getElem hk]; rfl) h
theorem rngL_eq (n : Nat) : rngL 0 (n : Int) = (List.range n).map fun i : Nat => D.int (i : Int) := by
  unfold rngL
  have : ((n : Int) - 0).toNat = n := by omega
  rw [this]
  refine List.map_congr_left fun i _ => ?_
  show D.int (0 + (i : Int)) = D.int (i : Int)
  rw [Int.zero_add]
end
local macro_rules | `(tactic| walk_at "m kind") => `(tactic| first | exact .inl rfl | exact .inr (.inl rfl) | exact .inr (.inr rfl))
local macro_rules | `(tactic| walk_at "m nm") => `(tactic| refine EvP.name rfl (by walk_at "m kind") (by decide) (by decide) ?_)
local macro_rules | `(tactic| walk_at "m e") => `(tactic| first
  | ((with_reducible refine' EvP.name ?k0 ?k1 ?k2 ?k3 ?_); (case k0 => exact rfl); (case k1 => walk_at "m kind"); (case k2 => decide); (case k3 => decide))
  | with_reducible refine EvP.int ?_
  | with_reducible refine EvP.boolc ?_
  | with_reducible refine EvP.nonec ?_
  | with_reducible refine EvP.bin ?_
  | ((with_reducible refine EvP.cmp ?k0 ?_); (case k0 => rfl))
  | ((with_reducible refine EvP.sub ?k0 ?_); (case k0 => exact fun _ _ => ⟨_, rfl⟩))
  | with_reducible refine EvP.tup ?_
  | with_reducible refine EvP.list ?_
  | with_reducible refine EvP.ifexp ?_
  | with_reducible refine EvP.or2 ?_)
local macro_rules | `(tactic| walk_at "m args") => `(tactic| first
  | ((with_reducible refine ArgsP.cons ?k0 ?_); (case k0 => rfl))
  | with_reducible refine ArgsP.nil ?_)
local macro_rules | `(tactic| walk_at "m call") => `(tactic| first
  | ((with_reducible refine' EvP.callB ?k0 ?k1 ?k2 ?k3 ?k4 ?k5 ?k6 ?k7 ?_); (case k0 => assumption); (case k1 => first | rfl | assumption); (case k2 => rfl); (case k3 => boot_by_name); (case k4 => decide); (case k5 => decide); (case k6 => first | rfl | assumption); (case k7 => rfl))
  | ((with_reducible refine' EvP.callTy ?k0 ?k1 ?k2 ?k3 ?k4 ?k5 ?k6 ?k7 ?_); (case k0 => assumption); (case k1 => first | rfl | assumption); (case k2 => rfl); (case k3 => boot_by_name); (case k4 => decide); (case k5 => decide); (case k6 => first | rfl | assumption); (case k7 => rfl))
  | ((with_reducible refine' EvP.callK ?k0 ?k1 ?k2 ?k3 ?k4 ?k5 ?k6 ?_); (case k0 => assumption); (case k1 => first | rfl | assumption); (case k2 => rfl); (case k3 => decide); (case k4 => kernel_rfl); (case k5 => first | rfl | assumption); (case k6 => first | rfl | assumption)))
local macro_rules | `(tactic| walk_at "m o") => `(tactic| first
  | with_reducible refine op_add ?_
  | with_reducible refine op_sub ?_
  | with_reducible refine op_lt ?_
  | with_reducible refine op_le ?_
  | with_reducible refine op_gt ?_
  | with_reducible refine op_ge ?_
  | with_reducible refine op_eq ?_
  | with_reducible refine op_ne ?_
  | with_reducible refine Truth.bool ?_)
local macro_rules | `(tactic| walk_at "m s") => `(tactic| first | walk_at "m e" | walk_at "m o" | walk_at "m args")
local macro_rules | `(tactic| walk_at "m wk") => `(tactic| repeat (first | exact Wk.nil | refine Wk.cons rfl ?_))
noncomputable def shares : List Int := [2, 3, 1]
noncomputable def sq (x : Int) : Int := x ^ 2
noncomputable def apartI (x y : List Int) : Int := ((List.range 3).map fun i => sq (shares.getD i 0 * (x.getD i 0 - y.getD i 0))).sum
noncomputable def Pix (x : List Int) : Prop := x.length = 3 ∧ ∀ i, -100000 ≤ x.getD i 0 ∧ x.getD i 0 ≤ 100000
theorem shares_b (i : Nat) : 0 ≤ shares.getD i 0 ∧ shares.getD i 0 ≤ 3 := by
  unfold shares
  match i with
  | 0 => simp
  | 1 => simp
  | 2 => simp
  | n + 3 => simp
theorem pow_b (s a b : Int) (hs : 0 ≤ s ∧ s ≤ 3) (ha : -100000 ≤ a ∧ a ≤ 100000) (hb : -100000 ≤ b ∧ b ≤ 100000) : (s * (a - b)).natAbs < 2 ^ 64 := by
  rw [Int.natAbs_mul]
  have h1 : s.natAbs ≤ 3 := by omega
  have h2 : (a - b).natAbs ≤ 200000 := by omega
  have := Nat.mul_le_mul h1 h2
  omega
section
variable {prog : Program} {w : World} {hb : Heap} {S : List Addr} {A : Around} {cx : Cx} {mu : List MD} {ρ : Rho}
theorem ev_shares {pos : Pos} {K : D → Prop} (G : Gd (hk.heap_1 w.params) cx.hb) (hx : cx.env.kindOf "SHARES" = some .globalImplicit) (h : K (.tup (shares.map D.int))) : EvP prog w cx mu ρ (.Name "SHARES" pos) K := by
  refine EvP.glob G hx (by rfl) (by decide) (fun N hN => ?_) h
  have e := hN 96 _ (G.X 96 _ (by rfl))
  exact .tup (vs := [_, _, _]) e rfl rfl (.cons (.int _ _) (.cons (.int _ _) (.cons (.int _ _) .nil)))
theorem it_range3 {target : Expr} {p pos : Pos} {k : Nat} {pc : Pos} {K : List D → Prop} (G : Gd (hk.heap_1 w.params) cx.hb) (hh : cx.A.handled = none) (hx : cx.env.kindOf "range" = some .globalImplicit) (h : K ((List.range 3).map fun i : Nat => D.int (i : Int))) :
    EvIt prog w cx mu ρ target (.Call (.Name "range" p) [.Constant (.int 3) k pc] [] pos) K := by
  refine EvIt.rng hh ?_
  walk_at "m call"
  walk_at "m args"
  walk_at "m e"
  walk_at "m args"
  refine OpN.toT (Op1.toN (call_range1 ⟨0, 3, rfl, by decide, ?_⟩))
  exact (rngL_eq 3).symm ▸ h
set_option maxHeartbeats 400000 in
theorem c_apart (G : Gd (hk.heap_1 w.params) hb) (hA : AOk 20 A) (x y : List Int) (hx : Pix x) (hy : Pix y) :
    OpN prog w hb S A (fun vs => call (.ref 171) vs) [tupI x, tupI y] fun d => d = .int (apartI x y) := by
  refine fn_at (ps := ["one", "other"]) G hA (by decide) (by rfl) (by kernel_rfl) (by rfl) (len2 fun a b => by kernel_rfl) rfl ?_
  intro L U hA'
  refine ExP.cons (S1.ret ?_)
  walk_at "m call"
  walk_at "m args"
  refine EvP.compM (List.range 3) (fun i : Nat => D.int (i : Int)) (fun d => d.asInt.toNat) (fun _ _ => by rfl) (fun _ => true) (fun i => D.int (sq (shares.getD i 0 * (x.getD i 0 - y.getD i 0)))) (fun i => [("part", D.int (i : Int))]) hA'.handled (scopeOk_of rfl (by decide) (by rfl)) plain1 (fun _ => rfl) (by decide) ?_ ?_ ?_
  · exact it_range3 G hA'.handled rfl rfl
  · intro i hi
    have hi3 : i < 3 := List.mem_range.mp hi
    refine ⟨tgt1, tau1 rfl, fun L' cs U' => ⟨tau1 (.inl rfl), rfl, fun _ => ?_⟩⟩
    walk_at "m e"
    walk_at "m e"
    walk_at "m e"
    refine ev_shares G rfl ?_
    walk_at "m e"
    refine SubP.tupI (by omega) (by simpa [shares] using hi3) (by decide) ?_
    walk_at "m e"
    walk_at "m e"
    walk_at "m e"
    walk_at "m e"
    refine SubP.tupI (by omega) (by have := hx.1; omega) (by have := hx.1; omega) ?_
    walk_at "m e"
    walk_at "m e"
    walk_at "m e"
    refine SubP.tupI (by omega) (by have := hy.1; omega) (by have := hy.1; omega) ?_
    walk_at "m o"
    have hxi := hx.2 (i : Int).toNat
    have hyi := hy.2 (i : Int).toNat
    have hsi := shares_b (i : Int).toNat
    refine op_mul (mulOk_left (by omega)) ?_
    walk_at "m e"
    refine op_pow (by decide) (by decide) (pow_b _ _ _ ⟨hsi.1, hsi.2⟩ hxi hyi) rfl
  · walk_at "m args"
    refine OpN.toT (Op1.toN ?_)
    have e : ((List.range 3).filter fun _ => true).map (fun i => D.int (sq (shares.getD i 0 * (x.getD i 0 - y.getD i 0)))) = ((List.range 3).map fun i => sq (shares.getD i 0 * (x.getD i 0 - y.getD i 0))).map D.int := by rfl
    rw [e]
    exact call_sum hA'.handled rfl
end
theorem OpN.mono {prog : Program} {w : World} {hb : Heap} {S : List Addr} {A : Around} {f : List Value → Sem Value} {ds : List D} {K K' : D → Prop} (h : OpN prog w hb S A f ds K) (hk : ∀ d, K d → K' d) : OpN prog w hb S A f ds K' :=
  fun N vs hv => (h N vs hv).mono fun _ _ _ ⟨d, i, k⟩ => ⟨d, i, hk d k⟩
theorem Wk.refl {ρ : Rho} : Wk ρ ρ := fun _ _ h => h
theorem Wk.app {ρ ρ' : Rho} (τ : Rho) (h : Wk ρ ρ') : Wk (τ ++ ρ) (τ ++ ρ') := fun x d hx => by
  rw [lookup_append] at hx ⊢
  cases q : τ.lookup x with
  | none => rw [q] at hx; exact h x d hx
  | some e => rw [q] at hx; exact hx
noncomputable def D.as2 : D → Int × Int
  | .tup [a, b] => (a.asInt, b.asInt)
  | _ => (0, 0)
noncomputable def ps3 : List (Int × Int) := [(0, 2), (1, 3), (2, 1)]
noncomputable def ps3D (p : Int × Int) : D := .tup [.int p.1, .int p.2]
section
variable {prog : Program} {w : World} {hb : Heap} {S : List Addr} {A : Around} {cx : Cx} {mu : List MD} {ρ : Rho}
set_option maxHeartbeats 400000 in
theorem c_lapart (G : Gd (hk.heap_1 w.params) hb) (hA : AOk 20 A) (x y : List Int) (hx : Pix x) (hy : Pix y) :
    OpN prog w hb S A (fun vs => call (.ref 244) vs) [tupI x, tupI y] fun d => d = .int (apartI x y) := by
  refine fn_at (ps := ["one", "other"]) G hA (by decide) (by rfl) (by kernel_rfl) (by rfl) (len2 fun a b => by kernel_rfl) rfl ?_
  intro L U hA'
  refine ExP.cons (S1.ret ?_)
  walk_at "m call"
  walk_at "m args"
  refine EvP.compM ps3 ps3D D.as2 (fun _ _ => by rfl) (fun _ => true) (fun p => D.int (sq (p.2 * (x.getD p.1.toNat 0 - y.getD p.1.toNat 0)))) (fun p => [("share", D.int p.2), ("part", D.int p.1)]) hA'.handled (scopeOk_of rfl (by decide) (by rfl)) plain2 (fun _ => rfl) (by decide) ?_ ?_ ?_
  · refine EvIt.lst hA'.handled ?_
    repeat walk_at "m s"
    refine ⟨by decide, ?_⟩
    repeat walk_at "m s"
    refine ⟨by decide, ?_⟩
    repeat walk_at "m s"
    refine ⟨by decide, ?_⟩
    repeat walk_at "m s"
    exact ⟨by decide, _, rfl, rfl⟩
  · intro p hp
    have hp3 : (0 ≤ p.1 ∧ p.1 < 3) ∧ 0 ≤ p.2 ∧ p.2 ≤ 3 := by
      have : ∀ q ∈ ps3, (0 ≤ q.1 ∧ q.1 < 3) ∧ 0 ≤ q.2 ∧ q.2 ≤ 3 := by decide
      exact this p hp
    refine ⟨tgt2, tau2 rfl rfl, fun L' cs U' => ⟨tau2 (.inl rfl) (.inl rfl), rfl, fun _ => ?_⟩⟩
    repeat walk_at "m s"
    refine SubP.tupI hp3.1.1 (by have := hx.1; omega) (by have := hx.1; omega) ?_
    repeat walk_at "m s"
    refine SubP.tupI hp3.1.1 (by have := hy.1; omega) (by have := hy.1; omega) ?_
    walk_at "m s"
    have hxi := hx.2 p.1.toNat
    have hyi := hy.2 p.1.toNat
    refine op_mul (mulOk_left (by omega)) ?_
    walk_at "m e"
    refine op_pow (by decide) (by decide) (pow_b _ _ _ hp3.2 hxi hyi) rfl
  · walk_at "m args"
    refine OpN.toT (Op1.toN ?_)
    have e : (ps3.filter fun _ => true).map (fun p => D.int (sq (p.2 * (x.getD p.1.toNat 0 - y.getD p.1.toNat 0)))) = (ps3.map fun p => sq (p.2 * (x.getD p.1.toNat 0 - y.getD p.1.toNat 0))).map D.int := by rfl
    rw [e]
    exact call_sum hA'.handled rfl
theorem fmod_b {a t : Int} (ht : 0 < t) : 0 ≤ a.fmod t ∧ a.fmod t < t := ⟨Int.fmod_nonneg_of_pos _ ht, Int.fmod_lt_of_pos _ ht⟩
theorem fdiv_b {a t : Int} (h0 : 0 ≤ a) (ht : 0 < t) (hl : a.natAbs.log2 < 2 ^ 21) : 0 ≤ a.fdiv t ∧ (a.fdiv t).natAbs.log2 < 2 ^ 21 := by
  have e : a.fdiv t = a / t := Int.fdiv_eq_ediv_of_nonneg _ (Int.le_of_lt ht)
  have h1 : 0 ≤ a / t := Int.ediv_nonneg h0 (Int.le_of_lt ht)
  have h2 : a / t ≤ a := Int.ediv_le_self _ h0
  rw [e]
  refine ⟨h1, ?_⟩
  by_cases hz : (a / t).natAbs = 0
  · rw [hz]; decide
  · have ha : a.natAbs ≠ 0 := by omega
    rw [Nat.log2_lt hz]
    rw [Nat.log2_lt ha] at hl
    exact Nat.lt_of_le_of_lt (by clear hl; omega) hl
set_option maxHeartbeats 400000 in
theorem c_take (G : Gd (hk.heap_1 w.params) hb) (hA : AOk 20 A) (t : Int) (h1 : 1 ≤ t) (h2 : t ≤ 1000) :
    OpN prog w hb S A (fun vs => call (.ref 202) vs) [.src, .int t] fun d => ∃ i : Int, d = .int i ∧ 0 ≤ i ∧ i < t := by
  refine fn_at (ps := ["source", "top"]) G hA (by decide) (by rfl) (by kernel_rfl) (by rfl) (len2 fun a b => by kernel_rfl) rfl ?_
  intro L U hA'
  refine ExP.cons (S1.ite (TsP.cmp rfl ?_))
  repeat walk_at "m s"
  refine SubP.src0 fun a ha0 hal => ?_
  repeat walk_at "m s"
  cases decide (a > 0) with
  | true =>
    simp only [if_true]
    refine ExP.cons (S1.assign (.inl rfl) rfl ?_)
    repeat walk_at "m s"
    walk_at "m call"
    repeat walk_at "m s"
    refine SubP.src0 fun a ha0 hal => ?_
    repeat walk_at "m s"
    refine OpN.toT (Op1.toN (call_int ?_))
    repeat walk_at "m s"
    refine op_mod (by omega) ?_
    refine ExP.cons (S1.setSrc (k := 0) rfl (.inl rfl) (by decide) (by decide) rfl ?_)
    repeat walk_at "m s"
    refine SubP.src0 fun b hb0 hbl => ?_
    repeat walk_at "m s"
    have hf := fdiv_b hb0 (show 0 < t by omega) hbl
    refine op_fdiv (by omega) (by omega) ⟨_, rfl, hf.1, .inl ⟨rfl, hf.2⟩, ?_⟩
    refine ExP.cons (S1.ret ?_)
    walk_at "m e"
    exact ⟨_, rfl, fmod_b (by omega)⟩
  | false =>
    simp only [Bool.false_eq_true, if_false]
    refine ExP.nil ?_
    refine ExP.cons (S1.setSrc (k := 1) rfl (.inl rfl) (by decide) (by decide) rfl ?_)
    walk_at "m e"
    walk_at "m call"
    repeat walk_at "m s"
    refine SubP.src1 fun b hb0 hb1 => ?_
    walk_at "m s"
    refine op_mul (mulOk_right (by decide)) ?_
    repeat walk_at "m s"
    refine OpN.toT (Op1.toN (call_int ?_))
    repeat walk_at "m s"
    have hf := fmod_b (a := b * 39373 + 7) (t := 2147483647) (by decide)
    refine op_mod (by decide) ⟨_, rfl, hf.1, .inr ⟨rfl, hf.2⟩, ?_⟩
    refine ExP.cons (S1.ret ?_)
    walk_at "m e"
    walk_at "m call"
    repeat walk_at "m s"
    walk_at "m call"
    repeat walk_at "m s"
    refine SubP.src1 fun b hb0 hb1 => ?_
    repeat walk_at "m s"
    refine SubP.src1 fun c hc0 hc1 => ?_
    refine op_mul (mulOk_left (by omega)) ?_
    repeat walk_at "m s"
    refine OpN.toT (Op1.toN (call_int ?_))
    repeat walk_at "m s"
    refine op_mod (by decide) ?_
    walk_at "m e"
    refine op_fdiv (by decide) (by decide) ?_
    repeat walk_at "m s"
    refine OpN.toT (Op1.toN (call_int ?_))
    repeat walk_at "m s"
    refine op_mod (by omega) ?_
    exact ⟨_, rfl, fmod_b (by omega)⟩
set_option maxHeartbeats 400000 in
theorem c_one (G : Gd (hk.heap_1 w.params) hb) (hA : AOk 19 A) (ds : List D) (h1 : 1 ≤ ds.length) (h2 : ds.length ≤ 1000) :
    OpN prog w hb S A (fun vs => call (.ref 209) vs) [.src, .lst ds] fun d => d ∈ ds := by
  refine fn_at (ps := ["source", "things"]) G hA (by decide) (by rfl) (by kernel_rfl) (by rfl) (len2 fun a b => by kernel_rfl) rfl ?_
  intro L U hA'
  refine ExP.cons (S1.ret ?_)
  repeat walk_at "m s"
  walk_at "m call"
  repeat walk_at "m s"
  walk_at "m call"
  repeat walk_at "m s"
  refine OpN.toT (Op1.toN (call_len h2 ?_))
  repeat walk_at "m s"
  refine OpN.toT ((c_take G hA' _ (by omega) (by omega)).mono fun d hd => ?_)
  obtain ⟨i, rfl, hi0, hi1⟩ := hd
  have hlt : i.toNat < ds.length := by omega
  exact SubP.lst hi0 (by omega) (List.getElem?_eq_getElem hlt) (List.getElem_mem hlt)
end
noncomputable def planeN : List Str := ["width", "height", "rows"]
noncomputable def planeD (w h : Int) (rows : List (List Int)) : D := .obj 84 planeN [.int w, .int h, .lst (rows.map lstI)]
/-- a plane of w times h small values -/
structure PlaneOk (w h : Nat) (rows : List (List Int)) : Prop where
  len : rows.length = h
  row : ∀ r ∈ rows, r.length = w
  val : ∀ r ∈ rows, ∀ v ∈ r, 0 ≤ v ∧ v ≤ 255
section
variable {prog : Program} {w : World} {hb : Heap} {S : List Addr} {A : Around} {cx : Cx} {mu : List MD} {ρ : Rho}
set_option maxHeartbeats 400000 in
theorem c_plane (G : Gd (hk.heap_1 w.params) hb) (hA : AOk 20 A) (a b c : D) :
    OpN prog w hb S A (fun vs => call (.ref 84) vs) [a, b, c] fun d => d = .obj 84 planeN [a, b, c] := by
  refine cls_at (fI := 67) (ps := ["self", "width", "height", "rows"]) G hA (by decide) (by kernel_rfl) (by kernel_rfl) (by kernel_rfl) (by rfl) (by kernel_rfl) (by rfl) (len4 fun a b c d => by kernel_rfl) rfl ?_
  intro A' x dx L U hA'
  refine ExP.cons (S1.setSelf G rfl (.inl rfl) (by decide) (by decide) rfl (by kernel_rfl) (by kernel_rfl) (by kernel_rfl) (by kernel_rfl) (by decide) rfl (by decide) ?_)
  walk_at "m e"
  refine ExP.cons (S1.setSelf G rfl (.inl rfl) (by decide) (by decide) rfl (by kernel_rfl) (by kernel_rfl) (by kernel_rfl) (by kernel_rfl) (by decide) rfl (by decide) ?_)
  walk_at "m e"
  refine ExP.cons (S1.setSelf G rfl (.inl rfl) (by decide) (by decide) rfl (by kernel_rfl) (by kernel_rfl) (by kernel_rfl) (by kernel_rfl) (by decide) rfl (by decide) ?_)
  walk_at "m e"
  exact ExP.nil ⟨_, _, _, rfl, rfl⟩
theorem rows_of {h v : Nat} {ds : List D} {P : D → Prop} : ∀ {l : List D}, All2 (fun _ e => ∃ r : List Int, e = lstI r ∧ r.length = v ∧ ∀ x ∈ r, 0 ≤ x ∧ x ≤ 255) l ds → ∃ rows : List (List Int), ds = rows.map lstI ∧ PlaneOk v l.length rows := by
  intro l a2
  induction a2 with
  | nil => exact ⟨[], rfl, rfl, fun _ h => (nomatch h), fun _ h => (nomatch h)⟩
  | cons h r ih =>
    obtain ⟨rw', rfl, h1, h2⟩ := h
    obtain ⟨rows, rfl, k⟩ := ih
    exact ⟨rw' :: rows, rfl, by simp [k.len], fun x hx => by
      rcases List.mem_cons.mp hx with rfl | hx
      · exact h1
      · exact k.row x hx, fun x hx => by
      rcases List.mem_cons.mp hx with rfl | hx
      · exact h2
      · exact k.val x hx⟩
theorem ints_of : ∀ {l ds : List D}, All2 (fun _ e => ∃ i : Int, e = .int i ∧ 0 ≤ i ∧ i ≤ 255) l ds → ∃ r : List Int, ds = r.map D.int ∧ r.length = l.length ∧ ∀ x ∈ r, 0 ≤ x ∧ x ≤ 255 := by
  intro l ds a2
  induction a2 with
  | nil => exact ⟨[], rfl, rfl, fun _ h => (nomatch h)⟩
  | cons h r ih =>
    obtain ⟨i, rfl, h1, h2⟩ := h
    obtain ⟨rs, rfl, k1, k2⟩ := ih
    exact ⟨i :: rs, rfl, by simp [k1], fun x hx => by
      rcases List.mem_cons.mp hx with rfl | hx
      · exact ⟨h1, h2⟩
      · exact k2 x hx⟩
noncomputable def goodPlane (v h : Nat) (d : D) : Prop := ∃ rows, d = planeD v h rows ∧ PlaneOk v h rows
theorem fitsN (k : Nat) (h : k ≤ 1000) : Builtin.Range.rangeFitsLong (k : Int) = true := by
  unfold Builtin.Range.rangeFitsLong
  simp
  omega
theorem smallN (n : Nat) (hn : n ≤ 1000) : Builtin.Range.small 0 (n : Int) 1 = true := by
  unfold Builtin.Range.small
  rw [rangeSize1]
  have h0 := fitsN 0 (by decide)
  have h1 := fitsN 1 (by decide)
  have h2 := fitsN n hn
  simp only [Int.natCast_zero, Int.natCast_one] at h0 h1
  simp [h2]
  exact ⟨h0, h1⟩
theorem it_range {target e : Expr} {p pos : Pos} {n : Nat} {K : List D → Prop} (hn : n ≤ 1000) (G : Gd (hk.heap_1 w.params) cx.hb) (hh : cx.A.handled = none) (hx : cx.env.kindOf "range" = some .globalImplicit)
    (hv : EvP prog w cx mu ρ e fun d => d = .int (n : Int)) (he : starEach [e] cx.env = (false, eval e cx.env) :: starEach [] cx.env) (h : K ((List.range n).map fun i : Nat => D.int (i : Int))) :
    EvIt prog w cx mu ρ target (.Call (.Name "range" p) [e] [] pos) K := by
  refine EvIt.rng hh ?_
  walk_at "m call"
  refine ArgsP.cons he (hv.mono fun d hd => ?_)
  subst hd
  walk_at "m args"
  exact OpN.toT (Op1.toN (call_range1 ⟨0, n, rfl, smallN n hn, (rngL_eq n).symm ▸ h⟩))
end
theorem choose_map {α : Type} {g : α → D} {Q : α → Prop} : ∀ {ds : List D}, (∀ e ∈ ds, ∃ r, e = g r ∧ Q r) → ∃ l : List α, ds = l.map g ∧ ∀ r ∈ l, Q r
  | [], _ => ⟨[], rfl, fun _ h => (nomatch h)⟩
  | e :: ds, h => by
    obtain ⟨r, rfl, q⟩ := h e (.head _)
    obtain ⟨l, rfl, k⟩ := choose_map fun e he => h e (.tail _ he)
    exact ⟨r :: l, rfl, fun x hx => by
      rcases List.mem_cons.mp hx with rfl | hx
      · exact q
      · exact k x hx⟩
section
variable {prog : Program} {w : World} {hb : Heap} {S : List Addr} {A : Around} {cx : Cx} {mu : List MD} {ρ : Rho}
theorem all2_true {P : D → Prop} : ∀ {l ds : List D}, All2 (fun _ e => P e) l ds → ds.length = l.length ∧ ∀ e ∈ ds, P e := by
  intro l ds a2
  induction a2 with
  | nil => exact ⟨rfl, fun _ h => (nomatch h)⟩
  | cons h r ih => exact ⟨by simp [ih.1], fun e he => by
      rcases List.mem_cons.mp he with rfl | he
      · exact h
      · exact ih.2 e he⟩
theorem storB {x : Str} (h : cx.own.contains x = true) : Storable cx x := .inr (List.contains_iff_mem.mp h)
/-- a comprehension over a range whose items are each some good thing -/
theorem EvP.compR {elt target iter : Expr} {scope : Scope} {pos : Pos} {K : D → Prop} (n : Nat) (P : D → Prop) (τ : Nat → Rho)
    (hh : cx.A.handled = none) (so : ScopeOk scope cx.env) (hpl : Plain target) (hfold : ∀ x, foldedSetIterable iter cx.env x = pure x) (hlen : n ≤ 1000)
    (hI : EvIt prog w cx mu ρ target iter fun items => items = (List.range n).map fun i : Nat => D.int (i : Int))
    (hE : ∀ i, i < n → Tgt target (.int (i : Int)) (τ i) ∧ (∀ q ∈ τ i, isOwn scope q.1 = true) ∧ ∀ L cs U, (∀ q ∈ τ i, Storable (cx.inner scope L cs U) q.1) ∧ EvP prog w (cx.inner scope L cs U) [] (τ i ++ cut scope ρ) elt P)
    (hK : ∀ ds, ds.length = n → (∀ e ∈ ds, P e) → K (.lst ds)) : EvP prog w cx mu ρ (.ListComp elt [⟨target, iter, [], 0⟩] scope pos) K := by
  refine EvP.comp hh so hpl hfold (fun N s E hp H => wpAny_mono (hI N s E hp H) (fun x s₁ hx => wpAny_mono hx (fun it s₂ z => ?_) fun _ _ e => e) fun _ _ e => e)
  obtain ⟨h, tk, N', I, W, J, items, e1, e2, sb, st, j, dd, rfl⟩ := z
  refine ⟨h, tk, N', I, W, J, _, e1, e2, sb, st, j, dd, by rw [List.length_map, List.length_range]; exact hlen, fun _ => true, fun _ e => P e, fun d hd => ?_, fun ds a2 => ?_⟩
  · obtain ⟨i, hi, rfl⟩ := List.mem_map.mp hd
    obtain ⟨t, own, r⟩ := hE i (List.mem_range.mp hi)
    refine ⟨τ i, t, own, fun L cs U => ?_⟩
    obtain ⟨r1, r2⟩ := r L cs U
    exact ⟨r1, rfl, fun _ => r2⟩
  · obtain ⟨h1, h2⟩ := all2_true a2
    refine hK ds ?_ h2
    rw [h1, List.filter_eq_self.mpr (fun _ _ => rfl), List.length_map, List.length_range]
set_option maxHeartbeats 1000000 in
theorem c_picture (G : Gd (hk.heap_1 w.params) hb) (hA : AOk 15 A) :
    OpN prog w hb S A (fun vs => call (.ref 214) vs) [.src] fun d => ∃ (v h : Nat) (ds : List D), d = .lst ds ∧ ds.length = 3 ∧ (1 ≤ v ∧ v ≤ 4) ∧ (1 ≤ h ∧ h ≤ 3) ∧ ∀ p ∈ ds, goodPlane v h p := by
  refine fn_at (ps := ["source"]) G hA (by decide) (by rfl) (by kernel_rfl) (by rfl) (len1 fun a => by kernel_rfl) rfl ?_
  intro L U hA'
  refine ExP.cons (S1.assignT hA'.handled rfl rfl ?_)
  repeat walk_at "m s"
  walk_at "m call"
  repeat walk_at "m s"
  refine OpN.toT ((c_take G (hA'.to (by decide)) 4 (by decide) (by decide)).mono fun d hd => ?_)
  obtain ⟨i, rfl, hi0, hi1⟩ := hd
  obtain ⟨n, rfl⟩ := Int.eq_ofNat_of_zero_le hi0
  refine op_add ?_
  rw [show (1 + (n : Int)) = ((1 + n : Nat) : Int) from by omega]
  repeat walk_at "m s"
  walk_at "m call"
  repeat walk_at "m s"
  refine OpN.toT ((c_take G (hA'.to (by decide)) 3 (by decide) (by decide)).mono fun d hd => ?_)
  obtain ⟨j, rfl, hj0, hj1⟩ := hd
  obtain ⟨k, rfl⟩ := Int.eq_ofNat_of_zero_le hj0
  refine op_add ?_
  rw [show (1 + (k : Int)) = ((1 + k : Nat) : Int) from by omega]
  repeat walk_at "m s"
  refine ⟨by simp, _, tgt2, tau2 (.inl rfl) (storB rfl), ?_⟩
  generalize hv : 1 + n = v
  generalize hk : 1 + k = h
  refine ExP.cons (S1.assign (storB rfl) rfl ?_)
  walk_at "m call"
  repeat walk_at "m s"
  refine ⟨by decide, ?_⟩
  repeat walk_at "m s"
  refine ⟨by decide, ?_⟩
  repeat walk_at "m s"
  refine ⟨by decide, ?_⟩
  repeat walk_at "m s"
  refine ⟨by decide, ?_⟩
  repeat walk_at "m s"
  refine ⟨by decide, ?_⟩
  repeat walk_at "m s"
  refine OpN.toT ((c_one G (hA'.to (by decide)) _ (by decide) (by decide)).mono fun d hd => ?_)
  have hsome : ∃ c : List Int, d = lstI c ∧ (1 ≤ c.length ∧ c.length ≤ 5) ∧ ∀ x ∈ c, 0 ≤ x ∧ x ≤ 255 := by
    simp only [List.mem_cons, List.not_mem_nil, or_false] at hd
    rcases hd with rfl | rfl | rfl | rfl
    · exact ⟨[0, 255], rfl, by decide, by decide⟩
    · exact ⟨[0, 3, 9, 200], rfl, by decide, by decide⟩
    · exact ⟨[7, 8, 9, 10, 100], rfl, by decide, by decide⟩
    · exact ⟨[0, 1, 2, 3], rfl, by decide, by decide⟩
  clear hd
  obtain ⟨c, rfl, hc, hcv⟩ := hsome
  refine ExP.cons (S1.newList (.inl rfl) rfl fun a => ?_)
  refine ExP.cons (S1.for hA'.handled plain1 (fun _ => rfl) rfl (it_range3 G hA'.handled rfl ?_))
  refine ⟨fun i m r => ∃ ds, m = [.lst a ds] ∧ Wk r [("found", .adr a), ("some", lstI c), ("height", .int (h : Nat)), ("width", .int (v : Nat)), ("source", .src)] ∧ ds.length = i ∧ ∀ p ∈ ds, goodPlane v h p, ⟨[], rfl, by walk_at "m wk", rfl, fun _ h => (nomatch h)⟩, ?_, ?_⟩
  · rintro i d m r hid ⟨ds, rfl, wk, hl, hg⟩
    have hi3 : i < 3 := by
      have := (List.getElem?_eq_some_iff.mp hid).1
      simpa using this
    refine ⟨_, tgt1, tau1 (.inl rfl), fun W => ExP.weak (Wk.app _ wk) ?_⟩
    refine ExP.cons (S1.append rfl (.inl rfl) (by decide) (by decide) rfl rfl rfl rfl rfl (by omega) ?_)
    walk_at "m call"
    repeat walk_at "m s"
    refine EvP.compR h (fun e => ∃ r : List Int, e = lstI r ∧ r.length = v ∧ ∀ x ∈ r, 0 ≤ x ∧ x ≤ 255) (fun i => [("y", D.int (i : Int))]) hA'.handled (scopeOk_of rfl (by decide) (by rfl)) plain1 (fun _ => rfl) (by omega) ?_ ?_ ?_
    · refine it_range (by omega) G hA'.handled rfl ?_ rfl rfl
      walk_at "m e"
      rfl
    · intro y hy
      refine ⟨tgt1, tau1 rfl, fun L' cs U' => ⟨tau1 (.inl rfl), ?_⟩⟩
      refine EvP.compR v (fun e => ∃ x : Int, e = D.int x ∧ (0 ≤ x ∧ x ≤ 255)) (fun i => [("x", D.int (i : Int))]) hA'.handled (scopeOk_of rfl (by decide) (by rfl)) plain1 (fun _ => rfl) (by omega) ?_ ?_ ?_
      · refine it_range (by omega) G hA'.handled rfl ?_ rfl rfl
        walk_at "m e"
        rfl
      · intro x hx
        refine ⟨tgt1, tau1 rfl, fun L' cs U' => ⟨tau1 (.inl rfl), ?_⟩⟩
        walk_at "m call"
        repeat walk_at "m s"
        refine OpN.toT ((c_one G (hA'.to (by decide)) (c.map D.int) (by rw [List.length_map]; omega) (by rw [List.length_map]; omega)).mono fun d hd => ?_)
        obtain ⟨z, hz, rfl⟩ := List.mem_map.mp hd
        exact ⟨z, rfl, hcv z hz⟩
      · intro es hes hall
        obtain ⟨l, rfl, hl⟩ := choose_map hall
        exact ⟨l, rfl, by simpa using hes, hl⟩
    · intro es hes hall
      obtain ⟨rows, rfl, hrows⟩ := choose_map hall
      walk_at "m args"
      refine OpN.toT ((c_plane G (hA'.to (by decide)) _ _ _).mono fun d hd => ?_)
      subst hd
      refine ExP.nil ⟨_, rfl, by walk_at "m wk", by simp [hl], fun p hp => ?_⟩
      rcases List.mem_append.mp hp with hp | hp
      · exact hg p hp
      · rw [List.mem_singleton.mp hp]
        exact ⟨rows, rfl, by simpa using hes, fun r hr => (hrows r hr).1, fun r hr => (hrows r hr).2⟩
  · rintro m r ⟨ds, rfl, wk, hl, hg⟩
    refine ExP.weak wk (ExP.freezeL (x := "found") rfl ?_)
    refine ExP.cons (S1.ret ?_)
    walk_at "m e"
    exact ⟨v, h, ds, rfl, by simpa using hl, by omega, by omega, hg⟩
end
noncomputable def at2 (rows : List (List Int)) (y x : Nat) : Int := (rows.getD y []).getD x 0
noncomputable def D.asRows : D → List (List Int)
  | .obj _ _ [_, _, .lst rs] => rs.map D.asInts
  | _ => []
theorem asRows_plane (v h : Int) (rows : List (List Int)) : (planeD v h rows).asRows = rows := by
  show (rows.map lstI).map D.asInts = rows
  rw [List.map_map]
  exact (List.map_congr_left fun r _ => asInts_lstI r).trans (List.map_id rows)
noncomputable def colAt (R : List (List (List Int))) (y x : Nat) : List Int := R.map fun rows => at2 rows y x
noncomputable def coloursOf (v h : Nat) (R : List (List (List Int))) : List (List Int) := (List.range h).flatMap fun y => (List.range v).map fun x => colAt R y x
noncomputable def countUp (kv : List (List Int × Int)) (c : List Int) : List (List Int × Int) := kvPut kv c ((kv.lookup c).getD 0 + 1)
noncomputable def countL (cs : List (List Int)) : List (List Int × Int) := cs.foldl countUp []
noncomputable def countedOf (cs : List (List Int)) : List (List Int × Int) := (sortedKeys ((countL cs).map (·.1))).map fun c => (c, ((countL cs).lookup c).getD 0)
theorem coloursOf_succ (v h : Nat) (R : List (List (List Int))) : coloursOf v (h + 1) R = coloursOf v h R ++ (List.range v).map fun x => colAt R h x := by
  unfold coloursOf
  rw [List.range_succ, List.flatMap_append]
  simp
theorem coloursOf_len (v h : Nat) (R : List (List (List Int))) : (coloursOf v h R).length = h * v := by
  induction h with
  | zero => simp [coloursOf]
  | succ h ih => rw [coloursOf_succ, List.length_append, ih, List.length_map, List.length_range, Nat.succ_mul]
theorem Wk.trans {ρ ρ' ρ'' : Rho} (h : Wk ρ ρ') (k : Wk ρ' ρ'') : Wk ρ ρ'' := fun x d hx => h x d (k x d hx)
section
variable {prog : Program} {w : World} {hb : Heap} {S : List Addr} {A : Around} {cx : Cx} {mu : List MD} {ρ : Rho}
theorem ev_width {o : Expr} {pos : Pos} {K : D → Prop} (G : Gd (hk.heap_1 w.params) cx.hb)
    (heq : eval (.Attribute o "width" pos) cx.env = (do
      let v ← eval o cx.env
      standAt pos.atName
      let r ← holding [v] (getAttr v "width" true)
      letTemporaryGo o v r
      pure r)) (h : EvP prog w cx mu ρ o fun d => ∃ a b c, d = .obj 84 planeN [a, b, c] ∧ K a) : EvP prog w cx mu ρ (.Attribute o "width" pos) K :=
  EvP.attr G heq (h.mono fun d ⟨a, b, c, e, k⟩ => ⟨84, planeN, [a, b, c], _, e, by kernel_rfl, by kernel_rfl, (by rfl : findIn (hk.heap_1 w.params) (.ref 84) "width" = some none), by kernel_rfl, a, rfl, k⟩)
theorem ev_height {o : Expr} {pos : Pos} {K : D → Prop} (G : Gd (hk.heap_1 w.params) cx.hb)
    (heq : eval (.Attribute o "height" pos) cx.env = (do
      let v ← eval o cx.env
      standAt pos.atName
      let r ← holding [v] (getAttr v "height" true)
      letTemporaryGo o v r
      pure r)) (h : EvP prog w cx mu ρ o fun d => ∃ a b c, d = .obj 84 planeN [a, b, c] ∧ K b) : EvP prog w cx mu ρ (.Attribute o "height" pos) K :=
  EvP.attr G heq (h.mono fun d ⟨a, b, c, e, k⟩ => ⟨84, planeN, [a, b, c], _, e, by kernel_rfl, by kernel_rfl, (by rfl : findIn (hk.heap_1 w.params) (.ref 84) "height" = some none), by kernel_rfl, b, rfl, k⟩)
theorem ev_rows {o : Expr} {pos : Pos} {K : D → Prop} (G : Gd (hk.heap_1 w.params) cx.hb)
    (heq : eval (.Attribute o "rows" pos) cx.env = (do
      let v ← eval o cx.env
      standAt pos.atName
      let r ← holding [v] (getAttr v "rows" true)
      letTemporaryGo o v r
      pure r)) (h : EvP prog w cx mu ρ o fun d => ∃ a b c, d = .obj 84 planeN [a, b, c] ∧ K c) : EvP prog w cx mu ρ (.Attribute o "rows" pos) K :=
  EvP.attr G heq (h.mono fun d ⟨a, b, c, e, k⟩ => ⟨84, planeN, [a, b, c], _, e, by kernel_rfl, by kernel_rfl, (by rfl : findIn (hk.heap_1 w.params) (.ref 84) "rows" = some none), by kernel_rfl, c, rfl, k⟩)
theorem ev_pix {o i j : Expr} {p p' : Pos} {rows : List (List Int)} {v h y x : Nat} {K : D → Prop} (P : PlaneOk v h rows) (hv : v ≤ 100) (hh : h ≤ 100) (hy : y < h) (hx : x < v) (hs : ∀ u v, ∃ ops, subscripted i false u v = operate ops (getItem u v)) (hs2 : ∀ u v, ∃ ops, subscripted j false u v = operate ops (getItem u v))
    (ho : EvP prog w cx mu ρ o fun d => d = .lst (rows.map lstI)) (hi : EvP prog w cx mu ρ i fun d => d = .int (y : Int)) (hj : EvP prog w cx mu ρ j fun d => d = .int (x : Int)) (k : K (.int (at2 rows y x))) :
    EvP prog w cx mu ρ (.Subscript (.Subscript o i p) j p') K := by
  have hyl : y < rows.length := by have := P.len; omega
  have hr : rows[y].length = v := P.row _ (List.getElem_mem hyl)
  have e1 : rows.getD y [] = rows[y] := by rw [List.getD_eq_getElem?_getD, List.getElem?_eq_getElem hyl]; rfl
  refine EvP.sub hs2 (EvP.sub hs (ho.mono fun d hd => hi.mono fun d' hd' => ?_))
  subst hd hd'
  have hl := P.len
  refine SubP.lstM (by omega) (by simpa using hyl) (by omega) ?_
  refine hj.mono fun d hd => ?_
  subst hd
  refine SubP.lstI (by omega) (by show _ < (rows[(y : Int).toNat]).length; simp only [Int.toNat_natCast]; omega) (by simp only [Int.toNat_natCast]; omega) ?_
  unfold at2 at k
  rw [e1] at k
  simpa using k
noncomputable def planesD (v h : Nat) (R : List (List (List Int))) : D := .lst (R.map (planeD v h))
set_option maxHeartbeats 1000000 in
theorem c_colours (G : Gd (hk.heap_1 w.params) hb) (hA : AOk 15 A) (v h : Nat) (R : List (List (List Int))) (hR : R.length = 3) (hP : ∀ rows ∈ R, PlaneOk v h rows) (hv : v ≤ 4) (hh : h ≤ 3) :
    OpN prog w hb S A (fun vs => call (.ref 219) vs) [planesD v h R] fun d => d = .lst ((coloursOf v h R).map tupI) := by
  refine fn_at (ps := ["planes"]) G hA (by decide) (by rfl) (by kernel_rfl) (by rfl) (len1 fun a => by kernel_rfl) rfl ?_
  intro L U hA'
  refine ExP.cons (S1.newList (.inl rfl) rfl fun a => ?_)
  refine ExP.cons (S1.for hA'.handled plain1 (fun _ => rfl) rfl (it_range (n := h) (by omega) G hA'.handled rfl ?_ rfl ?_))
  · refine ev_height G rfl ?_
    repeat walk_at "m s"
    exact SubP.lstM (by decide) (by simp [hR]) (by omega) ⟨_, _, _, rfl, rfl⟩
  refine ⟨fun i m r => m = [.lst a ((coloursOf v i R).map tupI)] ∧ Wk r [("found", .adr a), ("planes", planesD v h R)], ⟨rfl, by walk_at "m wk"⟩, ?_, ?_⟩
  · rintro y d m r hid ⟨rfl, wk⟩
    have hy : y < h := by
      have := (List.getElem?_eq_some_iff.mp hid).1
      simpa using this
    have hdy : d = .int (y : Int) := by
      have : ((List.range h).map fun i : Nat => D.int (i : Int))[y]? = some (.int (y : Int)) := by rw [List.getElem?_map, List.getElem?_range hy]; rfl
      rw [this] at hid
      exact (Option.some.inj hid).symm
    subst hdy
    refine ⟨_, tgt1, tau1 (storB rfl), fun W => ExP.weak (Wk.app _ wk) ?_⟩
    refine ExP.cons (S1.for hA'.handled plain1 (fun _ => rfl) rfl (it_range (n := v) (by omega) G hA'.handled rfl ?_ rfl ?_))
    · refine ev_width G rfl ?_
      repeat walk_at "m s"
      exact SubP.lstM (by decide) (by simp [hR]) (by omega) ⟨_, _, _, rfl, rfl⟩
    refine ⟨fun j m r => m = [.lst a ((coloursOf v y R ++ (List.range j).map fun x => colAt R y x).map tupI)] ∧ Wk r [("y", .int (y : Int)), ("found", .adr a), ("planes", planesD v h R)], ⟨by simp, by walk_at "m wk"⟩, ?_, ?_⟩
    · rintro x d m r hid ⟨rfl, wk⟩
      have hx : x < v := by
        have := (List.getElem?_eq_some_iff.mp hid).1
        simpa using this
      have hdx : d = .int (x : Int) := by
        have : ((List.range v).map fun i : Nat => D.int (i : Int))[x]? = some (.int (x : Int)) := by rw [List.getElem?_map, List.getElem?_range hx]; rfl
        rw [this] at hid
        exact (Option.some.inj hid).symm
      subst hdx
      have hl := coloursOf_len v y R
      have hyv : y * v ≤ 3 * 4 := Nat.mul_le_mul (by omega) hv
      refine ⟨_, tgt1, tau1 (storB rfl), fun W => ExP.weak (Wk.app _ wk) ?_⟩
      refine ExP.cons (S1.append rfl (.inl rfl) (by decide) (by decide) rfl rfl rfl rfl rfl (by simp [hl]; omega) ?_)
      walk_at "m call"
      walk_at "m args"
      refine EvP.compM R (planeD v h) D.asRows (fun r _ => asRows_plane v h r) (fun _ => true) (fun rows => D.int (at2 rows y x)) (fun rows => [("plane", planeD v h rows)]) hA'.handled (scopeOk_of rfl (by decide) (by rfl)) plain1 (fun _ => rfl) (by omega) ?_ ?_ ?_
      · refine EvIt.lst hA'.handled ?_
        walk_at "m e"
        exact ⟨_, rfl, rfl⟩
      · intro rows hrows
        refine ⟨tgt1, tau1 rfl, fun L' cs U' => ⟨tau1 (.inl rfl), rfl, fun _ => ?_⟩⟩
        refine ev_pix (hP rows hrows) (by omega) (by omega) hy hx (fun _ _ => ⟨_, rfl⟩) (fun _ _ => ⟨_, rfl⟩) ?_ ?_ ?_ rfl
        · refine ev_rows G rfl ?_
          walk_at "m e"
          exact ⟨_, _, _, rfl, rfl⟩
        · walk_at "m e"; rfl
        · walk_at "m e"; rfl
      · walk_at "m args"
        have e : (R.filter fun _ => true).map (fun rows => D.int (at2 rows y x)) = (colAt R y x).map D.int := by
          rw [List.filter_eq_self.mpr (fun _ _ => rfl)]
          unfold colAt
          rw [List.map_map]; rfl
        rw [e]
        refine OpN.toT (Op1.toN (call_tuple (by simp [colAt, hR]) ?_))
        refine ExP.nil ⟨?_, by walk_at "m wk"⟩
        rw [List.range_succ]
        simp [tupI]
    · rintro m r ⟨rfl, wk⟩
      refine ExP.nil ⟨?_, wk.trans (by walk_at "m wk")⟩
      simp [coloursOf_succ]
  · rintro m r ⟨rfl, wk⟩
    refine ExP.weak wk (ExP.freezeL (x := "found") rfl ?_)
    refine ExP.cons (S1.ret ?_)
    walk_at "m e"
    simp
    rfl
theorem kv_len (cs : List (List Int)) : (countL cs).length ≤ cs.length := by
  unfold countL
  have : ∀ (l : List (List Int)) (kv : List (List Int × Int)), (l.foldl countUp kv).length ≤ kv.length + l.length := by
    intro l
    induction l with
    | nil => intro kv; simp
    | cons c l ih =>
      intro kv
      rw [List.foldl_cons, List.length_cons]
      have h1 := ih (countUp kv c)
      have h2 := kvPut_len kv c ((kv.lookup c).getD 0 + 1)
      unfold countUp at h1 h2
      unfold countUp
      omega
  have := this cs []
  simpa using this
theorem countL_snoc (cs : List (List Int)) (c : List Int) : countL (cs ++ [c]) = countUp (countL cs) c := by
  unfold countL
  rw [List.foldl_append]; rfl
theorem lookup_memL {k : List Int} {i : Int} : ∀ {kv : List (List Int × Int)}, kv.lookup k = some i → (k, i) ∈ kv
  | [], h => by cases h
  | (k₀, j) :: r, h => by
    rw [lookup_cons'] at h
    split at h
    · rename_i e; cases h; subst e; exact .head _
    · exact .tail _ (lookup_memL h)
theorem kvPut_keys (kv : List (List Int × Int)) (k : List Int) (v : Int) : ∀ x, x ∈ (kvPut kv k v).map (·.1) ↔ x ∈ kv.map (·.1) ∨ x = k := by
  intro x
  unfold kvPut
  split
  · rename_i h
    have e : (kv.map fun p => if p.1 = k then (p.1, v) else p).map (·.1) = kv.map (·.1) := by
      rw [List.map_map]
      refine List.map_congr_left fun p _ => ?_
      show (if p.1 = k then (p.1, v) else p).1 = p.1
      split <;> rfl
    rw [e]
    constructor
    · exact .inl
    · rintro (h1 | rfl)
      · exact h1
      · obtain ⟨i, hi⟩ := Option.isSome_iff_exists.mp h
        exact List.mem_map_of_mem (f := (·.1)) (lookup_memL hi)
  · simp
theorem countL_keys (cs : List (List Int)) : ∀ x, x ∈ (countL cs).map (·.1) ↔ x ∈ cs := by
  have : ∀ (l : List (List Int)) (kv : List (List Int × Int)) x, x ∈ (l.foldl countUp kv).map (·.1) ↔ x ∈ kv.map (·.1) ∨ x ∈ l := by
    intro l
    induction l with
    | nil => intro kv x; simp
    | cons c l ih =>
      intro kv x
      rw [List.foldl_cons, ih, List.mem_cons]
      unfold countUp
      rw [kvPut_keys]
      constructor
      · rintro ((h | h) | h)
        · exact .inl h
        · exact .inr (.inl h)
        · exact .inr (.inr h)
      · rintro (h | h | h)
        · exact .inl (.inl h)
        · exact .inl (.inr h)
        · exact .inr h
  intro x
  have := this cs [] x
  simpa [countL] using this
end
noncomputable def cntD (cnt : List (List Int × Int)) : D := .lst (cnt.map pairD)
theorem coloursOf_part (v h : Nat) (R : List (List (List Int))) (y x : Nat) (hv : v ≤ 4) (hh : h ≤ 3) (hy : y ≤ h) (hx : x ≤ v) (hyx : y < h ∨ x = 0) : (coloursOf v y R ++ (List.range x).map fun x => colAt R y x).length ≤ 12 := by
  rw [List.length_append, coloursOf_len, List.length_map, List.length_range]
  rcases hyx with h1 | h1
  · have : y * v ≤ 2 * 4 := Nat.mul_le_mul (by omega) hv
    omega
  · have : y * v ≤ 3 * 4 := Nat.mul_le_mul (by omega) hv
    omega
section
variable {prog : Program} {w : World} {hb : Heap} {S : List Addr} {A : Around} {cx : Cx} {mu : List MD} {ρ : Rho}
set_option maxHeartbeats 1000000 in
theorem c_counted (G : Gd (hk.heap_1 w.params) hb) (hA : AOk 15 A) (v h : Nat) (r0 r1 r2 : List (List Int)) (hP : ∀ rows ∈ [r0, r1, r2], PlaneOk v h rows) (hv : v ≤ 4) (hh : h ≤ 3) :
    OpN prog w hb S A (fun vs => call (.ref 101) vs) [planesD v h [r0, r1, r2]] fun d => d = cntD (countedOf (coloursOf v h [r0, r1, r2])) := by
  refine fn_at (ps := ["planes"]) G hA (by decide) (by rfl) (by kernel_rfl) (by rfl) (len1 fun a => by kernel_rfl) rfl ?_
  intro L U hA'
  refine ExP.cons (S1.newDict G (storB rfl) rfl fun a => ?_)
  refine ExP.cons (S1.for hA'.handled plain1 (fun _ => rfl) rfl (it_range (n := h) (by omega) G hA'.handled rfl ?_ rfl ?_))
  · refine ev_height G rfl ?_
    repeat walk_at "m s"
    exact SubP.lstM (by decide) (by simp) (by simp) ⟨_, _, _, rfl, rfl⟩
  refine ⟨fun i m r => m = [.dct a (countL (coloursOf v i [r0, r1, r2]))] ∧ Wk r [("found", .adr a), ("planes", planesD v h [r0, r1, r2])], ⟨rfl, by walk_at "m wk"⟩, ?_, ?_⟩
  · rintro y d m r hid ⟨rfl, wk⟩
    have hy : y < h := by
      have := (List.getElem?_eq_some_iff.mp hid).1
      simpa using this
    have hdy : d = .int (y : Int) := by
      have : ((List.range h).map fun i : Nat => D.int (i : Int))[y]? = some (.int (y : Int)) := by rw [List.getElem?_map, List.getElem?_range hy]; rfl
      rw [this] at hid
      exact (Option.some.inj hid).symm
    subst hdy
    refine ⟨_, tgt1, tau1 (.inl rfl), fun W => ExP.weak (Wk.app _ wk) ?_⟩
    refine ExP.cons (S1.for hA'.handled plain1 (fun _ => rfl) rfl (it_range (n := v) (by omega) G hA'.handled rfl ?_ rfl ?_))
    · refine ev_width G rfl ?_
      repeat walk_at "m s"
      exact SubP.lstM (by decide) (by simp) (by simp) ⟨_, _, _, rfl, rfl⟩
    refine ⟨fun j m r => m = [.dct a (countL (coloursOf v y [r0, r1, r2] ++ (List.range j).map fun x => colAt [r0, r1, r2] y x))] ∧ Wk r [("y", .int (y : Int)), ("found", .adr a), ("planes", planesD v h [r0, r1, r2])], ⟨by simp, by walk_at "m wk"⟩, ?_, ?_⟩
    · rintro x d m r hid ⟨rfl, wk⟩
      have hx : x < v := by
        have := (List.getElem?_eq_some_iff.mp hid).1
        simpa using this
      have hdx : d = .int (x : Int) := by
        have : ((List.range v).map fun i : Nat => D.int (i : Int))[x]? = some (.int (x : Int)) := by rw [List.getElem?_map, List.getElem?_range hx]; rfl
        rw [this] at hid
        exact (Option.some.inj hid).symm
      subst hdx
      have hl := kv_len (coloursOf v y [r0, r1, r2] ++ (List.range x).map fun x => colAt [r0, r1, r2] y x)
      have hl2 := coloursOf_part v h [r0, r1, r2] y x hv hh (by omega) (by omega) (.inl hy)
      refine ⟨_, tgt1, tau1 (.inl rfl), fun W => ExP.weak (Wk.app _ wk) ?_⟩
      refine ExP.cons (S1.assign (.inl rfl) rfl ?_)
      walk_at "m e"
      walk_at "m args"
      refine ev_pix (hP r0 (by simp)) (by omega) (by omega) hy hx (fun _ _ => ⟨_, rfl⟩) (fun _ _ => ⟨_, rfl⟩) ?_ ?_ ?_ ?_
      · refine ev_rows G rfl ?_
        repeat walk_at "m s"
        exact SubP.lstM (by decide) (by simp) (by simp) ⟨_, _, _, rfl, rfl⟩
      · walk_at "m e"; rfl
      · walk_at "m e"; rfl
      walk_at "m args"
      refine ev_pix (hP r1 (by simp)) (by omega) (by omega) hy hx (fun _ _ => ⟨_, rfl⟩) (fun _ _ => ⟨_, rfl⟩) ?_ ?_ ?_ ?_
      · refine ev_rows G rfl ?_
        repeat walk_at "m s"
        exact SubP.lstM (by decide) (by simp) (by simp) ⟨_, _, _, rfl, rfl⟩
      · walk_at "m e"; rfl
      · walk_at "m e"; rfl
      walk_at "m args"
      refine ev_pix (hP r2 (by simp)) (by omega) (by omega) hy hx (fun _ _ => ⟨_, rfl⟩) (fun _ _ => ⟨_, rfl⟩) ?_ ?_ ?_ ?_
      · refine ev_rows G rfl ?_
        repeat walk_at "m s"
        exact SubP.lstM (by decide) (by simp) (by simp) ⟨_, _, _, rfl, rfl⟩
      · walk_at "m e"; rfl
      · walk_at "m e"; rfl
      walk_at "m args"
      refine ⟨by simp, ?_⟩
      refine ExP.cons (S1.putDict hA'.roomy rfl (.inr (.inl rfl)) (by decide) (by decide) rfl (by omega) ?_)
      walk_at "m e"
      refine EvP.getDict hA'.roomy rfl (.inr (.inl rfl)) (by decide) (by decide) rfl rfl rfl ?_
      walk_at "m e"
      walk_at "m e"
      refine ⟨colAt [r0, r1, r2] y x, 0, rfl, rfl, ?_⟩
      repeat walk_at "m s"
      refine ⟨_, colAt [r0, r1, r2] y x, rfl, rfl, ?_⟩
      refine ExP.nil ⟨?_, by walk_at "m wk"⟩
      rw [List.range_succ, List.map_append, ← List.append_assoc]
      simp only [List.map_cons, List.map_nil]
      rw [countL_snoc]
      rfl
    · rintro m r ⟨rfl, wk⟩
      refine ExP.nil ⟨?_, wk.trans (by walk_at "m wk")⟩
      simp [coloursOf_succ]
  · rintro m r ⟨rfl, wk⟩
    rw [List.length_map, List.length_range]
    refine ExP.weak wk (ExP.freezeD (x := "found") rfl ?_)
    have hl := kv_len (coloursOf v h [r0, r1, r2])
    have hl2 := coloursOf_part v h [r0, r1, r2] h 0 hv hh (by omega) (by omega) (.inr rfl)
    simp only [List.range_zero, List.map_nil, List.append_nil] at hl2
    refine ExP.cons (S1.ret ?_)
    have hmem : ∀ c ∈ sortedKeys ((countL (coloursOf v h [r0, r1, r2])).map (·.1)), c ∈ (countL (coloursOf v h [r0, r1, r2])).map (·.1) := fun c hc => (sortedKeys_perm _).mem_iff.mp hc
    refine EvP.compM (sortedKeys ((countL (coloursOf v h [r0, r1, r2])).map (·.1))) tupI D.asInts (fun c _ => asInts_tupI c) (fun _ => true) (fun c => pairD (c, ((countL (coloursOf v h [r0, r1, r2])).lookup c).getD 0)) (fun c => [("colour", tupI c)]) hA'.handled (scopeOk_of rfl (by decide) (by rfl)) plain1 (fun _ => rfl) (by rw [(sortedKeys_perm _).length_eq, List.length_map]; omega) ?_ ?_ ?_
    · refine EvIt.lst hA'.handled ?_
      walk_at "m call"
      repeat walk_at "m s"
      refine op_sorted hA'.handled (by omega) (fun p hp => ?_) ⟨_, rfl, rfl⟩
      have := (countL_keys (coloursOf v h [r0, r1, r2]) p.1).mp (List.mem_map_of_mem hp)
      unfold coloursOf at this
      simp only [List.mem_flatMap, List.mem_map] at this
      obtain ⟨_, _, _, _, e⟩ := this
      rw [← e]
      simp [colAt]
    · intro c hc
      refine ⟨tgt1, tau1 rfl, fun L' cs U' => ⟨tau1 (.inl rfl), rfl, fun _ => ?_⟩⟩
      walk_at "m e"
      walk_at "m args"
      walk_at "m e"
      walk_at "m args"
      repeat walk_at "m e"
      obtain ⟨i, hi⟩ : ∃ i, (countL (coloursOf v h [r0, r1, r2])).lookup c = some i := by
        cases q : (countL (coloursOf v h [r0, r1, r2])).lookup c with
        | some i => exact ⟨i, rfl⟩
        | none =>
          exfalso
          obtain ⟨p, hp, e⟩ := List.mem_map.mp (hmem c hc)
          have : ∀ {kv : List (List Int × Int)}, kv.lookup c = none → ∀ p ∈ kv, p.1 ≠ c := by
            intro kv
            induction kv with
            | nil => intro _ p hp; cases hp
            | cons x r ih =>
              obtain ⟨a, b⟩ := x
              intro hn p hp
              rw [lookup_cons'] at hn
              split at hn
              · cases hn
              · rename_i hne
                rcases List.mem_cons.mp hp with rfl | hp
                · exact hne
                · exact ih hn p hp
          exact this q p hp e
      refine SubP.dct hA'.roomy hi ?_
      walk_at "m args"
      refine ⟨by simp, ?_⟩
      show _ = pairD (c, _)
      rw [hi]
      rfl
    · show D.lst _ = cntD _
      unfold cntD countedOf
      rw [List.filter_eq_self.mpr (fun _ _ => rfl), List.map_map]
      rfl
end
noncomputable def minL (l : List Int) : Int := l.min?.getD 0
noncomputable def maxL (l : List Int) : Int := l.max?.getD 0
theorem minL_of {l : List Int} {m : Int} (h1 : m ∈ l) (h2 : ∀ a ∈ l, m ≤ a) : m = minL l := by
  unfold minL
  rw [List.min?_eq_some_iff.mpr ⟨h1, h2⟩]; rfl
theorem maxL_of {l : List Int} {m : Int} (h1 : m ∈ l) (h2 : ∀ a ∈ l, a ≤ m) : m = maxL l := by
  unfold maxL
  rw [List.max?_eq_some_iff.mpr ⟨h1, h2⟩]; rfl
theorem minL_spec {l : List Int} (h : l ≠ []) : minL l ∈ l ∧ ∀ a ∈ l, minL l ≤ a := by
  cases e : l.min? with
  | none => exact absurd (List.min?_eq_none_iff.mp e) h
  | some m =>
    have := List.min?_eq_some_iff.mp e
    unfold minL
    rw [e]; exact this
theorem maxL_spec {l : List Int} (h : l ≠ []) : maxL l ∈ l ∧ ∀ a ∈ l, a ≤ maxL l := by
  cases e : l.max? with
  | none => exact absurd (List.max?_eq_none_iff.mp e) h
  | some m =>
    have := List.max?_eq_some_iff.mp e
    unfold maxL
    rw [e]; exact this
noncomputable abbrev Cnt := List (List Int × Int)
noncomputable def colK (cnt : Cnt) (k : Nat) : List Int := cnt.map fun p => p.1.getD k 0
noncomputable def lowsOf (cnt : Cnt) : List Int := (List.range 3).map fun k => minL (colK cnt k)
noncomputable def highsOf (cnt : Cnt) : List Int := (List.range 3).map fun k => maxL (colK cnt k)
noncomputable def boxN : List Str := ["counted", "low", "high"]
noncomputable def boxD (cnt : Cnt) : D := .obj 138 boxN [cntD cnt, lstI (lowsOf cnt), lstI (highsOf cnt)]
structure CntOk (cnt : Cnt) : Prop where
  ne : cnt ≠ []
  len : cnt.length ≤ 12
  pix : ∀ p ∈ cnt, p.1.length = 3 ∧ ∀ v ∈ p.1, 0 ≤ v ∧ v ≤ 255
  num : ∀ p ∈ cnt, 1 ≤ p.2 ∧ p.2 ≤ 100
noncomputable def totalOf (cnt : Cnt) : Int := (cnt.map (·.2)).sum
noncomputable def sideOf (cnt : Cnt) (k : Nat) : Int := shares.getD k 0 * ((highsOf cnt).getD k 0 - (lowsOf cnt).getD k 0)
noncomputable def spreadOf (cnt : Cnt) : Int := ((List.range 3).map fun k => sq (sideOf cnt k)).sum
noncomputable def bestStep (cnt : Cnt) (b p : Nat) : Nat := if sideOf cnt p > sideOf cnt b then p else b
noncomputable def bestAt (cnt : Cnt) : Nat → Nat
  | 0 => 1
  | 1 => bestStep cnt 1 0
  | _ => bestStep cnt (bestStep cnt 1 0) 2
noncomputable def longestOf (cnt : Cnt) : Nat := bestAt cnt 2
noncomputable def wsumOf (cnt : Cnt) (k : Nat) : Int := (cnt.map fun p => p.1.getD k 0 * p.2).sum
noncomputable def meanOf (cnt : Cnt) : List Int := (List.range 3).map fun k => (wsumOf cnt k + (totalOf cnt).fdiv 2).fdiv (totalOf cnt)
theorem getD_b {l : List Int} (h : ∀ v ∈ l, 0 ≤ v ∧ v ≤ 255) (k : Nat) : 0 ≤ l.getD k 0 ∧ l.getD k 0 ≤ 255 := by
  rw [List.getD_eq_getElem?_getD]
  cases e : l[k]? with
  | none => exact ⟨by decide, by decide⟩
  | some v => exact h v (List.mem_of_getElem? e)
theorem colK_b {cnt : Cnt} (h : CntOk cnt) (k : Nat) : ∀ v ∈ colK cnt k, 0 ≤ v ∧ v ≤ 255 := fun v hv => by
  obtain ⟨p, hp, rfl⟩ := List.mem_map.mp hv
  exact getD_b (h.pix p hp).2 k
theorem colK_ne {cnt : Cnt} (h : CntOk cnt) (k : Nat) : colK cnt k ≠ [] := fun e => h.ne (List.map_eq_nil_iff.mp e)
theorem lows_b {cnt : Cnt} (h : CntOk cnt) (k : Nat) : 0 ≤ (lowsOf cnt).getD k 0 ∧ (lowsOf cnt).getD k 0 ≤ 255 := getD_b (fun v hv => by
  obtain ⟨k, _, rfl⟩ := List.mem_map.mp hv
  exact colK_b h k _ (minL_spec (colK_ne h k)).1) k
theorem highs_b {cnt : Cnt} (h : CntOk cnt) (k : Nat) : 0 ≤ (highsOf cnt).getD k 0 ∧ (highsOf cnt).getD k 0 ≤ 255 := getD_b (fun v hv => by
  obtain ⟨k, _, rfl⟩ := List.mem_map.mp hv
  exact colK_b h k _ (maxL_spec (colK_ne h k)).1) k
theorem bestStep_lt {cnt : Cnt} {b p : Nat} (hb : b < 3) (hp : p < 3) : bestStep cnt b p < 3 := by unfold bestStep; split <;> assumption
theorem bestAt_lt (cnt : Cnt) : ∀ i, bestAt cnt i < 3
  | 0 => (by decide : 1 < 3)
  | 1 => bestStep_lt (by decide) (by decide)
  | n + 2 => bestStep_lt (bestStep_lt (by decide) (by decide)) (by decide)
theorem sum_b {l : List Int} {b : Int} (h : ∀ v ∈ l, 1 ≤ v ∧ v ≤ b) : (l.length : Int) ≤ l.sum ∧ l.sum ≤ l.length * b := by
  induction l with
  | nil => simp
  | cons v l ih =>
    have h1 := ih fun x hx => h x (.tail _ hx)
    have h2 := h v (.head _)
    rw [List.sum_cons, List.length_cons]
    constructor
    · omega
    · rw [show ((l.length + 1 : Nat) : Int) * b = l.length * b + b from by rw [Int.natCast_add, Int.natCast_one, Int.add_mul, Int.one_mul]]
      omega
theorem total_b {cnt : Cnt} (h : CntOk cnt) : 1 ≤ totalOf cnt ∧ totalOf cnt ≤ 1200 := by
  have := sum_b (l := cnt.map (·.2)) (b := 100) fun v hv => by
    obtain ⟨p, hp, rfl⟩ := List.mem_map.mp hv
    exact h.num p hp
  rw [List.length_map] at this
  have h0 : 0 < cnt.length := List.length_pos_iff.mpr h.ne
  have h1 := h.len
  unfold totalOf
  omega
section
variable {prog : Program} {w : World} {hb : Heap} {S : List Addr} {A : Around} {cx : Cx} {mu : List MD} {ρ : Rho}
theorem it_counted {target e : Expr} {cnt : Cnt} {K : List D → Prop} (hh : cx.A.handled = none) (h : EvP prog w cx mu ρ e fun d => d = cntD cnt) (k : K (cnt.map pairD)) : EvIt prog w cx mu ρ target e K :=
  EvIt.lst hh (h.mono fun d e => ⟨_, e, k⟩)
/-- a comprehension over the counted colours that maps each pair to an int -/
theorem ev_overCnt {elt iter : Expr} {x y : Str} {p q tp : Pos} {kk : Nat} {scope : Scope} {pos : Pos} {K : D → Prop} (cnt : Cnt) (f : List Int × Int → Int)
    (hh : cx.A.handled = none) (so : ScopeOk scope cx.env) (hfold : ∀ x, foldedSetIterable iter cx.env x = pure x) (hlen : cnt.length ≤ 1000) (hx : isOwn scope x = true) (hy : isOwn scope y = true)
    (hI : EvP prog w cx mu ρ iter fun d => d = cntD cnt)
    (hE : ∀ r ∈ cnt, ∀ L cs U, (Storable (cx.inner scope L cs U) y ∧ Storable (cx.inner scope L cs U) x) ∧ EvP prog w (cx.inner scope L cs U) [] ([(y, .int r.2), (x, tupI r.1)] ++ cut scope ρ) elt fun d => d = .int (f r))
    (hK : K (.lst ((cnt.map f).map D.int))) : EvP prog w cx mu ρ (.ListComp elt [⟨.Tuple [.Name x p, .Name y q] kk tp, iter, [], 0⟩] scope pos) K := by
  refine EvP.compM cnt pairD D.asPair (fun p _ => asPair_pairD p) (fun _ => true) (fun r => D.int (f r)) (fun r => [(y, .int r.2), (x, tupI r.1)]) hh so plain2 hfold hlen (it_counted hh hI rfl) (fun r hr => ⟨tgt2, tau2 hy hx, fun L cs U => ?_⟩) ?_
  · obtain ⟨⟨h1, h2⟩, h3⟩ := hE r hr L cs U
    exact ⟨tau2 h1 h2, rfl, fun _ => h3⟩
  · rw [List.filter_eq_self.mpr (fun _ _ => rfl), show cnt.map (fun r => D.int (f r)) = (cnt.map f).map D.int from by rw [List.map_map]; rfl]
    exact hK
set_option maxHeartbeats 1000000 in
theorem c_box (G : Gd (hk.heap_1 w.params) hb) (hA : AOk 20 A) (cnt : Cnt) (ok : CntOk cnt) :
    OpN prog w hb S A (fun vs => call (.ref 138) vs) [cntD cnt] fun d => d = boxD cnt := by
  refine cls_at (fI := 113) (ps := ["self", "counted"]) G hA (by decide) (by kernel_rfl) (by kernel_rfl) (by kernel_rfl) (by rfl) (by kernel_rfl) (by rfl) (len2 fun a b => by kernel_rfl) rfl ?_
  intro A' x dx L U hA'
  have hlen := ok.len
  refine ExP.cons (S1.setSelf G rfl (.inl rfl) (by decide) (by decide) rfl (by kernel_rfl) (by kernel_rfl) (by kernel_rfl) (by kernel_rfl) (by decide) rfl (by decide) ?_)
  walk_at "m e"
  refine ExP.cons (S1.setSelf G rfl (.inl rfl) (by decide) (by decide) rfl (by kernel_rfl) (by kernel_rfl) (by kernel_rfl) (by kernel_rfl) (by decide) rfl (by decide) ?_)
  refine EvP.compM (List.range 3) (fun i : Nat => D.int (i : Int)) (fun d => d.asInt.toNat) (fun _ _ => by rfl) (fun _ => true) (fun i => D.int (minL (colK cnt i))) (fun i => [("part", D.int (i : Int))]) hA'.handled (scopeOk_of rfl (by decide) (by rfl)) plain1 (fun _ => rfl) (by decide) (it_range3 G hA'.handled rfl rfl) ?_ ?_
  · intro i hi
    have hi3 : i < 3 := List.mem_range.mp hi
    refine ⟨tgt1, tau1 rfl, fun L' cs U' => ⟨tau1 (storB rfl), rfl, fun _ => ?_⟩⟩
    walk_at "m call"
    walk_at "m args"
    refine ev_overCnt cnt (fun p => p.1.getD i 0) hA'.handled (scopeOk_of rfl (by decide) (by rfl)) (fun _ => rfl) (by omega) rfl rfl ?_ (fun r hr L2 cs2 U2 => ⟨⟨.inl rfl, .inl rfl⟩, ?_⟩) ?_
    · walk_at "m e"; rfl
    · repeat walk_at "m s"
      exact SubP.tupI (by omega) (by rw [(ok.pix r hr).1]; omega) (by rw [(ok.pix r hr).1]; omega) (by simp)
    · walk_at "m args"
      refine OpN.toT (Op1.toN (call_min hA'.handled (by rw [List.length_map]; exact List.length_pos_iff.mpr ok.ne) fun m h1 h2 => ?_))
      rw [minL_of h1 h2]; rfl
  refine ExP.cons (S1.setSelf G rfl (.inl rfl) (by decide) (by decide) rfl (by kernel_rfl) (by kernel_rfl) (by kernel_rfl) (by kernel_rfl) (by decide) rfl (by decide) ?_)
  refine EvP.compM (List.range 3) (fun i : Nat => D.int (i : Int)) (fun d => d.asInt.toNat) (fun _ _ => by rfl) (fun _ => true) (fun i => D.int (maxL (colK cnt i))) (fun i => [("part", D.int (i : Int))]) hA'.handled (scopeOk_of rfl (by decide) (by rfl)) plain1 (fun _ => rfl) (by decide) (it_range3 G hA'.handled rfl rfl) ?_ ?_
  · intro i hi
    have hi3 : i < 3 := List.mem_range.mp hi
    refine ⟨tgt1, tau1 rfl, fun L' cs U' => ⟨tau1 (storB rfl), rfl, fun _ => ?_⟩⟩
    walk_at "m call"
    walk_at "m args"
    refine ev_overCnt cnt (fun p => p.1.getD i 0) hA'.handled (scopeOk_of rfl (by decide) (by rfl)) (fun _ => rfl) (by omega) rfl rfl ?_ (fun r hr L2 cs2 U2 => ⟨⟨.inl rfl, .inl rfl⟩, ?_⟩) ?_
    · walk_at "m e"; rfl
    · repeat walk_at "m s"
      exact SubP.tupI (by omega) (by rw [(ok.pix r hr).1]; omega) (by rw [(ok.pix r hr).1]; omega) (by simp)
    · walk_at "m args"
      refine OpN.toT (Op1.toN (call_max hA'.handled (by rw [List.length_map]; exact List.length_pos_iff.mpr ok.ne) fun m h1 h2 => ?_))
      rw [maxL_of h1 h2]; rfl
  exact ExP.nil ⟨_, _, _, rfl, rfl⟩
end
section
variable {prog : Program} {w : World} {hb : Heap} {S : List Addr} {A : Around} {cx : Cx} {mu : List MD} {ρ : Rho}
theorem ev_boxcnt {o : Expr} {pos : Pos} {cnt : Cnt} {K : D → Prop} (G : Gd (hk.heap_1 w.params) cx.hb)
    (heq : eval (.Attribute o "counted" pos) cx.env = (do
      let v ← eval o cx.env
      standAt pos.atName
      let r ← holding [v] (getAttr v "counted" true)
      letTemporaryGo o v r
      pure r)) (h : EvP prog w cx mu ρ o fun d => d = boxD cnt) (k : K (cntD cnt)) : EvP prog w cx mu ρ (.Attribute o "counted" pos) K :=
  EvP.attr G heq (h.mono fun d e => ⟨138, boxN, _, _, e, by kernel_rfl, by kernel_rfl, (by rfl : findIn (hk.heap_1 w.params) (.ref 138) "counted" = some none), by kernel_rfl, _, rfl, k⟩)
theorem ev_boxlow {o : Expr} {pos : Pos} {cnt : Cnt} {K : D → Prop} (G : Gd (hk.heap_1 w.params) cx.hb)
    (heq : eval (.Attribute o "low" pos) cx.env = (do
      let v ← eval o cx.env
      standAt pos.atName
      let r ← holding [v] (getAttr v "low" true)
      letTemporaryGo o v r
      pure r)) (h : EvP prog w cx mu ρ o fun d => d = boxD cnt) (k : K (.lst ((lowsOf cnt).map D.int))) : EvP prog w cx mu ρ (.Attribute o "low" pos) K :=
  EvP.attr G heq (h.mono fun d e => ⟨138, boxN, _, _, e, by kernel_rfl, by kernel_rfl, (by rfl : findIn (hk.heap_1 w.params) (.ref 138) "low" = some none), by kernel_rfl, _, rfl, k⟩)
theorem ev_boxhigh {o : Expr} {pos : Pos} {cnt : Cnt} {K : D → Prop} (G : Gd (hk.heap_1 w.params) cx.hb)
    (heq : eval (.Attribute o "high" pos) cx.env = (do
      let v ← eval o cx.env
      standAt pos.atName
      let r ← holding [v] (getAttr v "high" true)
      letTemporaryGo o v r
      pure r)) (h : EvP prog w cx mu ρ o fun d => d = boxD cnt) (k : K (.lst ((highsOf cnt).map D.int))) : EvP prog w cx mu ρ (.Attribute o "high" pos) K :=
  EvP.attr G heq (h.mono fun d e => ⟨138, boxN, _, _, e, by kernel_rfl, by kernel_rfl, (by rfl : findIn (hk.heap_1 w.params) (.ref 138) "high" = some none), by kernel_rfl, _, rfl, k⟩)
theorem lows_len (cnt : Cnt) : (lowsOf cnt).length = 3 := by simp [lowsOf]
theorem highs_len (cnt : Cnt) : (highsOf cnt).length = 3 := by simp [highsOf]
theorem side_b {cnt : Cnt} (ok : CntOk cnt) (k : Nat) : (sideOf cnt k).natAbs < 2 ^ 64 := by
  have h1 := lows_b ok k
  have h2 := highs_b ok k
  exact pow_b _ _ _ (shares_b k) (by omega) (by omega)
/-- SHARES[part] * (self.high[part] - self.low[part]) -/
theorem ev_side {x me : Str} {p1 p2 p3 p4 p5 p6 p7 p8 p9 p10 p11 p12 p13 : Pos} {cnt : Cnt} {k : Nat} {K : D → Prop} (G : Gd (hk.heap_1 w.params) cx.hb) (ok : CntOk cnt) (hk : k < 3) (hS : cx.env.kindOf "SHARES" = some .globalImplicit)
    (hx : ∀ p, EvP prog w cx mu ρ (.Name x p) fun d => d = .int (k : Int)) (hme : ∀ p, EvP prog w cx mu ρ (.Name me p) fun d => d = boxD cnt) (h : K (.int (sideOf cnt k))) :
    EvP prog w cx mu ρ (.BinOp (.Subscript (.Name "SHARES" p1) (.Name x p2) p3) .Mult (.BinOp (.Subscript (.Attribute (.Name me p4) "high" p5) (.Name x p6) p7) .Sub (.Subscript (.Attribute (.Name me p8) "low" p9) (.Name x p10) p11) p12) p13) K := by
  walk_at "m e"
  walk_at "m e"
  refine ev_shares G hS ((hx _).mono fun d e => ?_)
  subst e
  refine SubP.tupI (by omega) (by simpa [shares] using hk) (by decide) ?_
  walk_at "m e"
  walk_at "m e"
  refine ev_boxhigh G rfl (hme _) ((hx _).mono fun d e => ?_)
  subst e
  refine SubP.lstI (by omega) (by rw [highs_len]; omega) (by rw [highs_len]; decide) ?_
  walk_at "m e"
  refine ev_boxlow G rfl (hme _) ((hx _).mono fun d e => ?_)
  subst e
  refine SubP.lstI (by omega) (by rw [lows_len]; omega) (by rw [lows_len]; decide) ?_
  refine op_sub ?_
  have h1 := shares_b k
  refine op_mul (mulOk_left (by simp only [Int.toNat_natCast]; omega)) ?_
  simp only [Int.toNat_natCast]
  exact h
set_option maxHeartbeats 1000000 in
theorem c_many (G : Gd (hk.heap_1 w.params) hb) (hA : AOk 20 A) (cnt : Cnt) (ok : CntOk cnt) :
    OpN prog w hb S A (fun vs => call (.ref 118) vs) [boxD cnt] fun d => d = .int (totalOf cnt) := by
  refine fn_at (ps := ["self"]) G hA (by decide) (by rfl) (by kernel_rfl) (by rfl) (len1 fun a => by kernel_rfl) rfl ?_
  intro L U hA'
  have hlen := ok.len
  refine ExP.cons (S1.ret ?_)
  walk_at "m call"
  walk_at "m args"
  refine ev_overCnt cnt (fun p => p.2) hA'.handled (scopeOk_of rfl (by decide) (by rfl)) (fun _ => rfl) (by omega) rfl rfl ?_ (fun r hr L2 cs2 U2 => ⟨⟨.inl rfl, .inl rfl⟩, ?_⟩) ?_
  · exact ev_boxcnt G rfl (by walk_at "m e"; rfl) rfl
  · walk_at "m e"; rfl
  · walk_at "m args"
    exact OpN.toT (Op1.toN (call_sum hA'.handled rfl))
set_option maxHeartbeats 1000000 in
theorem c_spread (G : Gd (hk.heap_1 w.params) hb) (hA : AOk 20 A) (cnt : Cnt) (ok : CntOk cnt) :
    OpN prog w hb S A (fun vs => call (.ref 123) vs) [boxD cnt] fun d => d = .int (spreadOf cnt) := by
  refine fn_at (ps := ["self"]) G hA (by decide) (by rfl) (by kernel_rfl) (by rfl) (len1 fun a => by kernel_rfl) rfl ?_
  intro L U hA'
  have hlen := ok.len
  refine ExP.cons (S1.ret ?_)
  walk_at "m call"
  walk_at "m args"
  refine EvP.compM (List.range 3) (fun i : Nat => D.int (i : Int)) (fun d => d.asInt.toNat) (fun _ _ => by rfl) (fun _ => true) (fun i => D.int (sq (sideOf cnt i))) (fun i => [("part", D.int (i : Int))]) hA'.handled (scopeOk_of rfl (by decide) (by rfl)) plain1 (fun _ => rfl) (by decide) (it_range3 G hA'.handled rfl rfl) ?_ ?_
  · intro i hi
    have hi3 : i < 3 := List.mem_range.mp hi
    refine ⟨tgt1, tau1 rfl, fun L' cs U' => ⟨tau1 (.inl rfl), rfl, fun _ => ?_⟩⟩
    walk_at "m e"
    refine ev_side (k := i) (cnt := cnt) G ok hi3 rfl (fun _ => by walk_at "m e"; rfl) (fun _ => by walk_at "m e"; rfl) ?_
    walk_at "m e"
    exact op_pow (by decide) (by decide) (side_b ok i) rfl
  · walk_at "m args"
    refine OpN.toT (Op1.toN ?_)
    have e : ((List.range 3).filter fun _ => true).map (fun i => D.int (sq (sideOf cnt i))) = ((List.range 3).map fun i => sq (sideOf cnt i)).map D.int := by rfl
    rw [e]
    exact call_sum hA'.handled rfl
set_option maxHeartbeats 1000000 in
theorem c_longest (G : Gd (hk.heap_1 w.params) hb) (hA : AOk 20 A) (cnt : Cnt) (ok : CntOk cnt) :
    OpN prog w hb S A (fun vs => call (.ref 130) vs) [boxD cnt] fun d => d = .int (longestOf cnt : Int) := by
  refine fn_at (ps := ["self"]) G hA (by decide) (by rfl) (by kernel_rfl) (by rfl) (len1 fun a => by kernel_rfl) rfl ?_
  intro L U hA'
  have hlen := ok.len
  refine ExP.cons (S1.assign (.inl rfl) rfl ?_)
  walk_at "m e"
  refine ExP.cons (S1.for hA'.handled plain1 (fun _ => rfl) rfl (EvIt.tup hA'.handled ?_))
  walk_at "m e"
  repeat walk_at "m s"
  refine ⟨by decide, _, rfl, ?_⟩
  refine ⟨fun i m r => m = [] ∧ Wk r [("best", .int (bestAt cnt i : Nat)), ("self", boxD cnt)], ⟨rfl, by walk_at "m wk"⟩, ?_, ?_⟩
  · rintro i d m r hid ⟨rfl, wk⟩
    have hi : ∃ p : Nat, d = .int (p : Int) ∧ p < 3 ∧ bestAt cnt (i + 1) = bestStep cnt (bestAt cnt i) p := by
      match i, hid with
      | 0, hid => exact ⟨0, by simpa using hid.symm, by decide, rfl⟩
      | 1, hid => exact ⟨2, by simpa using hid.symm, by decide, rfl⟩
      | n + 2, hid => simp at hid
    obtain ⟨p, rfl, hp, hst⟩ := hi
    have hbl := bestAt_lt cnt i
    refine ⟨_, tgt1, tau1 (.inl rfl), fun W => ExP.weak (Wk.app _ wk) ?_⟩
    refine ExP.cons (S1.assign (.inl rfl) rfl ?_)
    refine ev_side (k := p) (cnt := cnt) G ok hp rfl (fun _ => by walk_at "m e"; rfl) (fun _ => by walk_at "m e"; rfl) ?_
    refine ExP.cons (S1.ite (TsP.cmp rfl ?_))
    walk_at "m e"
    refine ev_side (k := bestAt cnt i) (cnt := cnt) G ok hbl rfl (fun _ => by walk_at "m e"; rfl) (fun _ => by walk_at "m e"; rfl) ?_
    refine op_gt (Truth.bool ?_)
    cases hc : decide (sideOf cnt p > sideOf cnt (bestAt cnt i)) with
    | true =>
      simp only [if_true]
      refine ExP.cons (S1.assign (.inl rfl) rfl ?_)
      walk_at "m e"
      have e : bestStep cnt (bestAt cnt i) p = p := if_pos (of_decide_eq_true hc)
      refine ExP.nil (ExP.nil ⟨rfl, ?_⟩)
      rw [hst, e]
      walk_at "m wk"
    | false =>
      simp only [Bool.false_eq_true, if_false]
      have e : bestStep cnt (bestAt cnt i) p = bestAt cnt i := if_neg (of_decide_eq_false hc)
      refine ExP.nil (ExP.nil ⟨rfl, ?_⟩)
      rw [hst, e]
      walk_at "m wk"
  · rintro m r ⟨rfl, wk⟩
    refine ExP.weak wk ?_
    refine ExP.cons (S1.ret ?_)
    walk_at "m e"
    rfl
end
noncomputable def middleOf (cnt : Cnt) : Int := ((lowsOf cnt).getD (longestOf cnt) 0 + (highsOf cnt).getD (longestOf cnt) 0).fdiv 2
noncomputable def lowerOf (cnt : Cnt) : Cnt := cnt.filter fun p => decide (p.1.getD (longestOf cnt) 0 ≤ middleOf cnt)
noncomputable def upperOf (cnt : Cnt) : Cnt := cnt.filter fun p => decide (p.1.getD (longestOf cnt) 0 > middleOf cnt)
theorem lows_get (cnt : Cnt) {k : Nat} (hk : k < 3) : (lowsOf cnt).getD k 0 = minL (colK cnt k) := by
  unfold lowsOf
  rw [List.getD_eq_getElem?_getD, List.getElem?_map, List.getElem?_range hk]; rfl
theorem highs_get (cnt : Cnt) {k : Nat} (hk : k < 3) : (highsOf cnt).getD k 0 = maxL (colK cnt k) := by
  unfold highsOf
  rw [List.getD_eq_getElem?_getD, List.getElem?_map, List.getElem?_range hk]; rfl
theorem side_nonneg {cnt : Cnt} (ok : CntOk cnt) {k : Nat} (hk : k < 3) : 0 ≤ sideOf cnt k := by
  unfold sideOf
  rw [lows_get cnt hk, highs_get cnt hk]
  have h1 := (minL_spec (colK_ne ok k)).2 _ (maxL_spec (colK_ne ok k)).1
  exact Int.mul_nonneg (shares_b k).1 (by omega)
theorem bestStep_ge (cnt : Cnt) (b p : Nat) : sideOf cnt b ≤ sideOf cnt (bestStep cnt b p) ∧ sideOf cnt p ≤ sideOf cnt (bestStep cnt b p) := by
  unfold bestStep
  split <;> omega
theorem longest_ge (cnt : Cnt) {k : Nat} (hk : k < 3) : sideOf cnt k ≤ sideOf cnt (longestOf cnt) := by
  have h1 := bestStep_ge cnt 1 0
  have h2 := bestStep_ge cnt (bestStep cnt 1 0) 2
  show sideOf cnt k ≤ sideOf cnt (bestStep cnt (bestStep cnt 1 0) 2)
  match k, hk with
  | 0, _ => omega
  | 1, _ => omega
  | 2, _ => omega
theorem longest_lt (cnt : Cnt) : longestOf cnt < 3 := bestAt_lt cnt 2
theorem sq_pos {x : Int} (h : x ≠ 0) : 0 < sq x := by
  unfold sq
  rw [Int.pow_succ, Int.pow_succ, Int.pow_zero, Int.one_mul]
  rcases Int.lt_or_gt_of_ne h with h1 | h1
  · exact Int.mul_pos_of_neg_of_neg h1 h1
  · exact Int.mul_pos h1 h1
theorem sq_nonneg (x : Int) : 0 ≤ sq x := by
  by_cases h : x = 0
  · subst h; decide
  · exact Int.le_of_lt (sq_pos h)
theorem spread_sum (cnt : Cnt) : spreadOf cnt = sq (sideOf cnt 0) + (sq (sideOf cnt 1) + sq (sideOf cnt 2)) := by
  unfold spreadOf
  simp [List.range_succ]
theorem spread_side {cnt : Cnt} (ok : CntOk cnt) (h : 0 < spreadOf cnt) : 0 < sideOf cnt (longestOf cnt) := by
  by_cases hp : 0 < sideOf cnt (longestOf cnt)
  · exact hp
  · exfalso
    have e : ∀ k, k < 3 → sideOf cnt k = 0 := fun k hk => by
      have h1 := side_nonneg ok hk
      have h2 := longest_ge cnt hk
      omega
    rw [spread_sum, e 0 (by decide), e 1 (by decide), e 2 (by decide)] at h
    exact absurd h (by decide)
theorem gap {cnt : Cnt} (ok : CntOk cnt) (h : 0 < spreadOf cnt) : (lowsOf cnt).getD (longestOf cnt) 0 ≤ middleOf cnt ∧ middleOf cnt < (highsOf cnt).getD (longestOf cnt) 0 := by
  have hs := spread_side ok h
  have h1 := shares_b (longestOf cnt)
  have hlt : (lowsOf cnt).getD (longestOf cnt) 0 < (highsOf cnt).getD (longestOf cnt) 0 := by
    by_cases q : (lowsOf cnt).getD (longestOf cnt) 0 < (highsOf cnt).getD (longestOf cnt) 0
    · exact q
    · exfalso
      unfold sideOf at hs
      have := Int.mul_nonneg h1.1 (show 0 ≤ (lowsOf cnt).getD (longestOf cnt) 0 - (highsOf cnt).getD (longestOf cnt) 0 by omega)
      have e : shares.getD (longestOf cnt) 0 * ((lowsOf cnt).getD (longestOf cnt) 0 - (highsOf cnt).getD (longestOf cnt) 0) = -(shares.getD (longestOf cnt) 0 * ((highsOf cnt).getD (longestOf cnt) 0 - (lowsOf cnt).getD (longestOf cnt) 0)) := by
        rw [← Int.mul_neg, Int.neg_sub]
      omega
  unfold middleOf
  rw [Int.fdiv_eq_ediv_of_nonneg _ (by decide)]
  omega
theorem lower_ne {cnt : Cnt} (ok : CntOk cnt) (h : 0 < spreadOf cnt) : lowerOf cnt ≠ [] := by
  have hg := gap ok h
  rw [lows_get cnt (longest_lt cnt)] at hg
  obtain ⟨p, hp, e⟩ := List.mem_map.mp (minL_spec (colK_ne ok (longestOf cnt))).1
  refine List.ne_nil_of_mem (a := p) (List.mem_filter.mpr ⟨hp, decide_eq_true ?_⟩)
  rw [e]; exact hg.1
theorem upper_ne {cnt : Cnt} (ok : CntOk cnt) (h : 0 < spreadOf cnt) : upperOf cnt ≠ [] := by
  have hg := gap ok h
  rw [highs_get cnt (longest_lt cnt)] at hg
  obtain ⟨p, hp, e⟩ := List.mem_map.mp (maxL_spec (colK_ne ok (longestOf cnt))).1
  refine List.ne_nil_of_mem (a := p) (List.mem_filter.mpr ⟨hp, decide_eq_true ?_⟩)
  rw [e]; exact hg.2
theorem CntOk.filter {cnt : Cnt} (ok : CntOk cnt) {p : List Int × Int → Bool} (h : cnt.filter p ≠ []) : CntOk (cnt.filter p) :=
  ⟨h, Nat.le_trans (List.length_filter_le _ _) ok.len, fun q hq => ok.pix q (List.mem_filter.mp hq).1, fun q hq => ok.num q (List.mem_filter.mp hq).1⟩
section
variable {prog : Program} {w : World} {hb : Heap} {S : List Addr} {A : Around} {cx : Cx} {mu : List MD} {ρ : Rho}
set_option maxHeartbeats 1000000 in
theorem c_mean (G : Gd (hk.heap_1 w.params) hb) (hA : AOk 19 A) (cnt : Cnt) (ok : CntOk cnt) :
    OpN prog w hb S A (fun vs => call (.ref 135) vs) [boxD cnt] fun d => d = tupI (meanOf cnt) := by
  refine fn_at (ps := ["self"]) G hA (by decide) (by rfl) (by kernel_rfl) (by rfl) (len1 fun a => by kernel_rfl) rfl ?_
  intro L U hA'
  have hlen := ok.len
  have ht := total_b ok
  refine ExP.cons (S1.assign (.inl rfl) rfl ?_)
  refine EvP.meth0 G rfl ?_
  walk_at "m e"
  refine ⟨138, boxN, _, 118, rfl, by kernel_rfl, by kernel_rfl, by kernel_rfl, by kernel_rfl, rfl, by decide, OpN.toT ((c_many G hA' cnt ok).mono fun d e => ?_)⟩
  subst e
  refine ExP.cons (S1.newList (.inl rfl) rfl fun a => ?_)
  refine ExP.cons (S1.for hA'.handled plain1 (fun _ => rfl) rfl (it_range3 G hA'.handled rfl ?_))
  refine ⟨fun i m r => m = [.lst a (((List.range i).map fun k => (wsumOf cnt k + (totalOf cnt).fdiv 2).fdiv (totalOf cnt)).map D.int)] ∧ Wk r [("found", .adr a), ("many", .int (totalOf cnt)), ("self", boxD cnt)], ⟨rfl, by walk_at "m wk"⟩, ?_, ?_⟩
  · rintro i d m r hid ⟨rfl, wk⟩
    have hi : i < 3 := by
      have := (List.getElem?_eq_some_iff.mp hid).1
      simpa using this
    have hdi : d = .int (i : Int) := by
      have : ((List.range 3).map fun i : Nat => D.int (i : Int))[i]? = some (.int (i : Int)) := by rw [List.getElem?_map, List.getElem?_range hi]; rfl
      rw [this] at hid
      exact (Option.some.inj hid).symm
    subst hdi
    refine ⟨_, tgt1, tau1 (storB rfl), fun W => ExP.weak (Wk.app _ wk) ?_⟩
    refine ExP.cons (S1.assign (.inl rfl) rfl ?_)
    walk_at "m call"
    walk_at "m args"
    refine ev_overCnt cnt (fun p => p.1.getD i 0 * p.2) hA'.handled (scopeOk_of rfl (by decide) (by rfl)) (fun _ => rfl) (by omega) rfl rfl ?_ (fun r hr L2 cs2 U2 => ⟨⟨.inl rfl, .inl rfl⟩, ?_⟩) ?_
    · exact ev_boxcnt G rfl (by walk_at "m e"; rfl) rfl
    · walk_at "m e"
      walk_at "m e"
      walk_at "m e"
      walk_at "m e"
      refine SubP.tupI (by omega) (by rw [(ok.pix r hr).1]; omega) (by rw [(ok.pix r hr).1]; omega) ?_
      walk_at "m e"
      have hb := getD_b (ok.pix r hr).2 (i : Int).toNat
      refine op_mul (mulOk_left (by omega)) ?_
      simp only [Int.toNat_natCast]
    walk_at "m args"
    refine OpN.toT (Op1.toN (call_sum hA'.handled ?_))
    refine ExP.cons (S1.append rfl (.inl rfl) (by decide) (by decide) rfl rfl rfl rfl rfl (by simp; omega) ?_)
    repeat walk_at "m s"
    refine op_fdiv (by decide) (by decide) ?_
    repeat walk_at "m s"
    refine op_fdiv (by omega) (by omega) ?_
    refine ExP.nil ⟨?_, by walk_at "m wk"⟩
    rw [List.range_succ, List.map_append, List.map_append]
    rfl
  · rintro m r ⟨rfl, wk⟩
    refine ExP.weak wk (ExP.freezeL (x := "found") rfl ?_)
    refine ExP.cons (S1.ret ?_)
    walk_at "m call"
    repeat walk_at "m s"
    exact OpN.toT (Op1.toN (call_tuple (by simp) rfl))
theorem ev_row0 {o i : Expr} {p p' pc : Pos} {kc : Nat} {r : List Int × Int} {k : Nat} {K : D → Prop} (hr : r.1.length = 3) (hk : k < 3) (hs : ∀ u v, ∃ ops, subscripted i false u v = operate ops (getItem u v)) (ho : EvP prog w cx mu ρ o fun d => d = pairD r) (hi : EvP prog w cx mu ρ i fun d => d = .int (k : Int)) (h : K (.int (r.1.getD k 0))) :
    EvP prog w cx mu ρ (.Subscript (.Subscript o (.Constant (.int 0) kc pc) p) i p') K := by
  refine EvP.sub hs (EvP.sub (fun _ _ => ⟨_, rfl⟩) (ho.mono fun d e => ?_))
  subst e
  walk_at "m e"
  refine SubP.tup (ds := [.tup (r.1.map D.int), .int r.2]) (by decide) (by decide) rfl (hi.mono fun d e => ?_)
  subst e
  refine SubP.tupI (by omega) (by rw [hr]; omega) (by rw [hr]; omega) ?_
  simpa using h
set_option maxHeartbeats 1000000 in
theorem c_halves (G : Gd (hk.heap_1 w.params) hb) (hA : AOk 18 A) (cnt : Cnt) (ok : CntOk cnt) (hs : 0 < spreadOf cnt) :
    OpN prog w hb S A (fun vs => call (.ref 147) vs) [boxD cnt] fun d => d = .lst [boxD (lowerOf cnt), boxD (upperOf cnt)] := by
  refine fn_at (ps := ["box"]) G hA (by decide) (by rfl) (by kernel_rfl) (by rfl) (len1 fun a => by kernel_rfl) rfl ?_
  intro L U hA'
  have hlen := ok.len
  have hk := longest_lt cnt
  refine ExP.cons (S1.assign (storB rfl) rfl ?_)
  refine EvP.meth0 G rfl ?_
  walk_at "m e"
  refine ⟨138, boxN, _, 130, rfl, by kernel_rfl, by kernel_rfl, by kernel_rfl, by kernel_rfl, rfl, by decide, OpN.toT ((c_longest G (hA'.to (by decide)) cnt ok).mono fun d e => ?_)⟩
  subst e
  refine ExP.cons (S1.assign (storB rfl) rfl ?_)
  walk_at "m e"
  walk_at "m e"
  walk_at "m e"
  refine ev_boxlow (cnt := cnt) G rfl (by walk_at "m e"; rfl) ?_
  walk_at "m e"
  refine SubP.lstI (by omega) (by rw [lows_len]; omega) (by rw [lows_len]; decide) ?_
  walk_at "m e"
  refine ev_boxhigh (cnt := cnt) G rfl (by walk_at "m e"; rfl) ?_
  walk_at "m e"
  refine SubP.lstI (by omega) (by rw [highs_len]; omega) (by rw [highs_len]; decide) ?_
  walk_at "m o"
  simp only [Int.toNat_natCast]
  walk_at "m e"
  refine op_fdiv (by decide) (by decide) ?_
  change Then _ _ _ _ _ (.next [] (("middle", D.int (middleOf cnt)) :: _))
  refine ExP.cons (S1.compM cnt pairD D.asPair (fun p _ => asPair_pairD p) (fun p => decide (p.1.getD (longestOf cnt) 0 ≤ middleOf cnt)) pairD (fun r => [("row", pairD r)]) hA'.handled (scopeOk_of rfl (by decide) (by rfl)) plain1 (fun _ => rfl) (by omega) (.inl rfl) rfl (it_counted hA'.handled (ev_boxcnt (cnt := cnt) G rfl (by walk_at "m e"; rfl) rfl) rfl) (fun r hr => ⟨tgt1, tau1 rfl, fun L2 cs2 U2 => ⟨tau1 (.inl rfl), ?_, fun _ => ?_⟩⟩) ?_)
  · refine TsP.cmp rfl ?_
    refine ev_row0 (r := r) (k := longestOf cnt) (ok.pix r hr).1 hk (fun _ _ => ⟨_, rfl⟩) (by walk_at "m e"; rfl) (by walk_at "m e"; rfl) ?_
    walk_at "m e"
    exact op_le (Truth.bool rfl)
  · walk_at "m e"; rfl
  refine ExP.cons (S1.compM cnt pairD D.asPair (fun p _ => asPair_pairD p) (fun p => decide (p.1.getD (longestOf cnt) 0 > middleOf cnt)) pairD (fun r => [("row", pairD r)]) hA'.handled (scopeOk_of rfl (by decide) (by rfl)) plain1 (fun _ => rfl) (by omega) (.inl rfl) rfl (it_counted hA'.handled (ev_boxcnt (cnt := cnt) G rfl (by walk_at "m e"; rfl) rfl) rfl) (fun r hr => ⟨tgt1, tau1 rfl, fun L2 cs2 U2 => ⟨tau1 (.inl rfl), ?_, fun _ => ?_⟩⟩) ?_)
  · refine TsP.cmp rfl ?_
    refine ev_row0 (r := r) (k := longestOf cnt) (ok.pix r hr).1 hk (fun _ _ => ⟨_, rfl⟩) (by walk_at "m e"; rfl) (by walk_at "m e"; rfl) ?_
    walk_at "m e"
    exact op_gt (Truth.bool rfl)
  · walk_at "m e"; rfl
  have ok1 : CntOk (lowerOf cnt) := ok.filter (lower_ne ok hs)
  have ok2 : CntOk (upperOf cnt) := ok.filter (upper_ne ok hs)
  refine ExP.cons (S1.ret ?_)
  walk_at "m e"
  walk_at "m args"
  walk_at "m call"
  repeat walk_at "m s"
  refine OpN.toT ((c_box G (hA'.to (by decide)) (lowerOf cnt) ok1).mono fun d e => ?_)
  subst e
  walk_at "m args"
  walk_at "m call"
  repeat walk_at "m s"
  refine OpN.toT ((c_box G (hA'.to (by decide)) (upperOf cnt) ok2).mono fun d e => ?_)
  subst e
  walk_at "m args"
  exact ⟨by simp, rfl⟩
end
noncomputable def OkG {α : Type} (n : Nat) (g : α → D) : Prop := ∀ a, D.ok n (g a) = true
noncomputable def EqG {α : Type} [DecidableEq α] (g : α → D) : Prop := ∀ a b, PyData.eqv (g a).py (g b).py = decide (a = b)
theorem oks_map {α : Type} {n : Nat} {g : α → D} (h : OkG n g) : ∀ l : List α, D.oks n (l.map g) = true
  | [] => rfl
  | a :: l => by rw [List.map_cons]; show (D.ok n (g a) && D.oks n (l.map g)) = true; rw [h a, oks_map h l]; rfl
theorem OkG.lst {α : Type} {n : Nat} {g : α → D} (h : OkG n g) : OkG (n + 1) fun l : List α => .lst (l.map g) := fun l => oks_map h l
theorem OkG.tup {α : Type} {n : Nat} {g : α → D} (h : OkG n g) : OkG (n + 1) fun l : List α => .tup (l.map g) := fun l => oks_map h l
theorem okInt (n : Nat) : OkG n D.int := fun i => by cases n <;> rfl
theorem okTup (n : Nat) : OkG (n + 1) tupI := (okInt n).tup
theorem okLst (n : Nat) : OkG (n + 1) lstI := (okInt n).lst
theorem okPair (n : Nat) : OkG (n + 2) pairD := fun p => by
  show (D.ok (n + 1) (.tup (p.1.map D.int)) && (D.ok (n + 1) (.int p.2) && true)) = true
  rw [show D.ok (n + 1) (.tup (p.1.map D.int)) = true from okTup n p.1, okInt (n + 1) p.2]; rfl
theorem eqvAll_map {α : Type} [DecidableEq α] {g : α → D} (h : EqG g) : ∀ l k : List α, PyData.eqvAll (D.pys (l.map g)) (D.pys (k.map g)) = decide (l = k)
  | [], [] => by simp [D.pys, PyData.eqvAll]
  | [], b :: k => by simp [D.pys, PyData.eqvAll]
  | a :: l, [] => by simp [D.pys, PyData.eqvAll]
  | a :: l, b :: k => by
    rw [List.map_cons, List.map_cons, D.pys, D.pys, PyData.eqvAll, h a b, eqvAll_map h l k]
    by_cases e : a = b
    · subst e; simp
    · simp [e]
theorem EqG.lst {α : Type} [DecidableEq α] {g : α → D} (h : EqG g) : EqG fun l : List α => .lst (l.map g) := fun l k => by
  show PyData.eqv (D.lst (l.map g)).py (D.lst (k.map g)).py = _
  rw [D.py, D.py, PyData.eqv]
  exact eqvAll_map h l k
theorem EqG.tup {α : Type} [DecidableEq α] {g : α → D} (h : EqG g) : EqG fun l : List α => .tup (l.map g) := fun l k => by
  show PyData.eqv (D.tup (l.map g)).py (D.tup (k.map g)).py = _
  rw [D.py, D.py, PyData.eqv]
  exact eqvAll_map h l k
theorem eqInt : EqG D.int := fun a b => by
  rw [D.py, D.py, PyData.eqv]
  by_cases e : a = b <;> simp [e]
theorem eqTup : EqG tupI := eqInt.tup
theorem eqLst : EqG lstI := eqInt.lst
noncomputable abbrev Boxes := List Cnt
noncomputable def worthOf (many : Int) (n : Nat) (cnt : Cnt) : Int := if 2 * (n : Int) ≤ many then totalOf cnt else spreadOf cnt
noncomputable abbrev NB := Option Nat × Int
noncomputable def nbStep (many : Int) (Bs : Boxes) (s : NB) (i : Nat) : NB :=
  if 0 < spreadOf (Bs.getD i []) then (if worthOf many Bs.length (Bs.getD i []) > s.2 then (some i, worthOf many Bs.length (Bs.getD i [])) else s) else s
noncomputable def nbAt (many : Int) (Bs : Boxes) : Nat → NB
  | 0 => (none, 0)
  | i + 1 => nbStep many Bs (nbAt many Bs i) i
noncomputable def nextOf (many : Int) (Bs : Boxes) : Option Nat := (nbAt many Bs Bs.length).1
noncomputable def boxesD (Bs : Boxes) : D := .lst (Bs.map boxD)
noncomputable def optD : Option Nat → D
  | none => .none
  | some i => .int (i : Int)
noncomputable def cutAt (Bs : Boxes) (i : Nat) : Boxes := Bs.take i ++ [lowerOf (Bs.getD i []), upperOf (Bs.getD i [])] ++ Bs.drop (i + 1)
noncomputable def cutGo (many : Int) : Nat → Boxes → Boxes
  | 0, Bs => Bs
  | k + 1, Bs => match nextOf many Bs with
    | none => Bs
    | some i => cutGo many k (cutAt Bs i)
noncomputable def cutOf (many : Nat) (cnt : Cnt) : Boxes := cutGo (many : Int) (many - 1) [cnt]
theorem nbAt_some {many : Int} {Bs : Boxes} : ∀ {n i : Nat}, (nbAt many Bs n).1 = some i → i < n ∧ 0 < spreadOf (Bs.getD i [])
  | 0, i, h => by cases h
  | n + 1, i, h => by
    unfold nbAt nbStep at h
    split at h
    · rename_i hs
      split at h
      · cases h; exact ⟨Nat.lt_succ_self _, hs⟩
      · have := nbAt_some (n := n) h; exact ⟨by omega, this.2⟩
    · have := nbAt_some (n := n) h; exact ⟨by omega, this.2⟩
noncomputable def AllOk (Bs : Boxes) : Prop := ∀ c ∈ Bs, CntOk c
theorem AllOk.get {Bs : Boxes} (h : AllOk Bs) {i : Nat} (hi : i < Bs.length) : CntOk (Bs.getD i []) := by
  rw [List.getD_eq_getElem?_getD, List.getElem?_eq_getElem hi]; exact h _ (List.getElem_mem hi)
theorem AllOk.cut {Bs : Boxes} (h : AllOk Bs) {i : Nat} (hi : i < Bs.length) (hs : 0 < spreadOf (Bs.getD i [])) : AllOk (cutAt Bs i) := by
  intro c hc
  unfold cutAt at hc
  simp only [List.mem_append, List.mem_cons, List.not_mem_nil, or_false] at hc
  rcases hc with (hc | hc | hc) | hc
  · exact h c (List.mem_of_mem_take hc)
  · rw [hc]; exact (h.get hi).filter (lower_ne (h.get hi) hs)
  · rw [hc]; exact (h.get hi).filter (upper_ne (h.get hi) hs)
  · exact h c (List.mem_of_mem_drop hc)
theorem cutAt_len {Bs : Boxes} {i : Nat} (hi : i < Bs.length) : (cutAt Bs i).length = Bs.length + 1 := by
  unfold cutAt
  simp
  omega
section
variable {prog : Program} {w : World} {hb : Heap} {S : List Addr} {A : Around} {cx : Cx} {mu : List MD} {ρ : Rho}
theorem ev_box {x y : Str} {p q pos : Pos} {Bs : Boxes} {i : Nat} {K : D → Prop} (hi : i < Bs.length) (hl : Bs.length ≤ 100) (hx : EvP prog w cx mu ρ (.Name x p) fun d => d = boxesD Bs) (hy : EvP prog w cx mu ρ (.Name y q) fun d => d = .int (i : Int)) (h : K (boxD (Bs.getD i []))) :
    EvP prog w cx mu ρ (.Subscript (.Name x p) (.Name y q) pos) K := by
  refine EvP.sub (fun _ _ => ⟨_, rfl⟩) (hx.mono fun d e => hy.mono fun d' e' => ?_)
  subst e e'
  refine SubP.lstM (by omega) (by simpa using hi) (by omega) ?_
  rw [List.getD_eq_getElem?_getD, List.getElem?_eq_getElem hi] at h
  simpa using h
set_option maxHeartbeats 1000000 in
theorem c_next (G : Gd (hk.heap_1 w.params) hb) (hA : AOk 18 A) (Bs : Boxes) (many : Int) (ok : AllOk Bs) (hl : Bs.length ≤ 100) :
    OpN prog w hb S A (fun vs => call (.ref 154) vs) [boxesD Bs, .int many] fun d => d = optD (nextOf many Bs) := by
  refine fn_at (ps := ["boxes", "many"]) G hA (by decide) (by rfl) (by kernel_rfl) (by rfl) (len2 fun a b => by kernel_rfl) rfl ?_
  intro L U hA'
  refine ExP.cons (S1.assignT hA'.handled rfl rfl ?_)
  repeat walk_at "m s"
  refine ⟨by decide, _, tgt2, tau2 (.inl rfl) (.inl rfl), ?_⟩
  refine ExP.cons (S1.for hA'.handled plain1 (fun _ => rfl) rfl (it_range (n := Bs.length) (by omega) G hA'.handled rfl ?_ rfl ?_))
  · walk_at "m call"
    repeat walk_at "m s"
    exact OpN.toT (Op1.toN (call_len (by rw [List.length_map]; omega) (by rw [List.length_map])))
  refine ⟨fun i m r => m = [] ∧ Wk r [("most", .int (nbAt many Bs i).2), ("best", optD (nbAt many Bs i).1), ("boxes", boxesD Bs), ("many", .int many)], ⟨rfl, by walk_at "m wk"⟩, ?_, ?_⟩
  · rintro i d m r hid ⟨rfl, wk⟩
    have hi : i < Bs.length := by
      have := (List.getElem?_eq_some_iff.mp hid).1
      simpa using this
    have hdi : d = .int (i : Int) := by
      have : ((List.range Bs.length).map fun i : Nat => D.int (i : Int))[i]? = some (.int (i : Int)) := by rw [List.getElem?_map, List.getElem?_range hi]; rfl
      rw [this] at hid
      exact (Option.some.inj hid).symm
    subst hdi
    have okc := ok.get hi
    refine ⟨_, tgt1, tau1 (.inl rfl), fun W => ExP.weak (Wk.app _ wk) ?_⟩
    have hstep : nbAt many Bs (i + 1) = nbStep many Bs (nbAt many Bs i) i := rfl
    generalize hnb : nbAt many Bs i = s at hstep ⊢
    obtain ⟨b, ms⟩ := s
    refine ExP.cons (S1.ite (TsP.cmp rfl ?_))
    refine EvP.meth0 G rfl ?_
    refine ev_box (Bs := Bs) (i := i) hi hl (by walk_at "m e"; rfl) (by walk_at "m e"; rfl) ?_
    refine ⟨138, boxN, _, 123, rfl, by kernel_rfl, by kernel_rfl, by kernel_rfl, by kernel_rfl, rfl, by decide, OpN.toT ((c_spread G (hA'.to (by decide)) _ okc).mono fun d e => ?_)⟩
    subst e
    walk_at "m e"
    refine op_gt (Truth.bool ?_)
    cases hc : decide (spreadOf (Bs.getD i []) > 0) with
    | false =>
      simp only [Bool.false_eq_true, if_false]
      have e : nbStep many Bs (b, ms) i = (b, ms) := if_neg (of_decide_eq_false hc)
      refine ExP.nil (ExP.nil ⟨rfl, ?_⟩)
      rw [hstep, e]
      walk_at "m wk"
    | true =>
      have e : nbStep many Bs (b, ms) i = if worthOf many Bs.length (Bs.getD i []) > ms then (some i, worthOf many Bs.length (Bs.getD i [])) else (b, ms) := if_pos (of_decide_eq_true hc)
      simp only [if_true]
      refine ExP.cons (S1.assign (.inl rfl) rfl ?_)
      refine EvP.mono (K := fun d => d = D.int (worthOf many Bs.length (Bs.getD i []))) ?_ fun d ed => ?_
      · refine EvP.ifexp (TsP.cmp rfl ?_)
        walk_at "m e"
        walk_at "m e"
        walk_at "m call"
        repeat walk_at "m s"
        refine OpN.toT (Op1.toN (call_len (by rw [List.length_map]; omega) ?_))
        rw [List.length_map]
        refine op_mul (mulOk_left (by decide)) ?_
        walk_at "m e"
        refine op_le (Truth.bool ?_)
        cases hcc : decide (2 * (Bs.length : Int) ≤ many) with
        | true =>
          simp only [if_true]
          refine EvP.meth0 G rfl ?_
          refine ev_box (Bs := Bs) (i := i) hi hl (by walk_at "m e"; rfl) (by walk_at "m e"; rfl) ?_
          refine ⟨138, boxN, _, 118, rfl, by kernel_rfl, by kernel_rfl, by kernel_rfl, by kernel_rfl, rfl, by decide, OpN.toT ((c_many G (hA'.to (by decide)) _ okc).mono fun d e => ?_)⟩
          subst e
          unfold worthOf
          rw [if_pos (of_decide_eq_true hcc)]
        | false =>
          simp only [Bool.false_eq_true, if_false]
          refine EvP.meth0 G rfl ?_
          refine ev_box (Bs := Bs) (i := i) hi hl (by walk_at "m e"; rfl) (by walk_at "m e"; rfl) ?_
          refine ⟨138, boxN, _, 123, rfl, by kernel_rfl, by kernel_rfl, by kernel_rfl, by kernel_rfl, rfl, by decide, OpN.toT ((c_spread G (hA'.to (by decide)) _ okc).mono fun d e => ?_)⟩
          subst e
          unfold worthOf
          rw [if_neg (of_decide_eq_false hcc)]
      · subst ed
        refine ExP.cons (S1.ite (TsP.cmp rfl ?_))
        walk_at "m e"
        walk_at "m e"
        refine op_gt (Truth.bool ?_)
        cases hc3 : decide (worthOf many Bs.length (Bs.getD i []) > ms) with
        | true =>
          simp only [if_true]
          refine ExP.cons (S1.assignSw hA'.handled rfl rfl (.inl rfl) (.inl rfl) ?_)
          repeat walk_at "m s"
          refine ⟨by simp, _, _, rfl, ?_⟩
          refine ExP.nil (ExP.nil (ExP.nil ⟨rfl, ?_⟩))
          rw [hstep, e, if_pos (of_decide_eq_true hc3)]
          walk_at "m wk"
        | false =>
          simp only [Bool.false_eq_true, if_false]
          refine ExP.nil (ExP.nil (ExP.nil ⟨rfl, ?_⟩))
          rw [hstep, e, if_neg (of_decide_eq_false hc3)]
          walk_at "m wk"
  · rintro m r ⟨rfl, wk⟩
    rw [List.length_map, List.length_range] at wk
    refine ExP.weak wk ?_
    refine ExP.cons (S1.ret ?_)
    walk_at "m e"
    rfl
end
noncomputable def D.asBox : D → Cnt
  | .obj _ _ (.lst ps :: _) => ps.map D.asPair
  | _ => []
theorem asBox_boxD (cnt : Cnt) : (boxD cnt).asBox = cnt := by
  show (cnt.map pairD).map D.asPair = cnt
  rw [List.map_map]
  exact (List.map_congr_left fun p _ => asPair_pairD p).trans (List.map_id cnt)
-- what counting gives
theorem kvPut_lookup (kv : List (List Int × Int)) (k : List Int) (v : Int) (c : List Int) : (kvPut kv k v).lookup c = if c = k then some v else kv.lookup c := by
  unfold kvPut
  have hmap : ∀ kv : List (List Int × Int), (kv.lookup k).isSome → (kv.map fun p => if p.1 = k then (p.1, v) else p).lookup c = if c = k then some v else kv.lookup c := by
    intro kv
    induction kv with
    | nil => intro h; cases h
    | cons x r ih =>
      obtain ⟨a, b⟩ := x
      intro h
      rw [List.map_cons]
      by_cases e : a = k
      · subst e
        simp only [if_true]
        rw [lookup_cons', lookup_cons']
        by_cases e2 : a = c
        · subst e2; simp
        · rw [if_neg e2, if_neg (fun q => e2 q.symm), if_neg e2]
          have : ∀ r : List (List Int × Int), (r.map fun p => if p.1 = a then (p.1, v) else p).lookup c = r.lookup c := by
            intro r
            induction r with
            | nil => rfl
            | cons y r ih2 =>
              obtain ⟨a2, b2⟩ := y
              rw [List.map_cons]
              by_cases e3 : a2 = a
              · subst e3
                simp only [if_true]
                rw [lookup_cons', lookup_cons', if_neg e2, if_neg e2, ih2]
              · simp only [if_neg e3]
                rw [lookup_cons', lookup_cons', ih2]
          exact this r
      · simp only [if_neg e]
        rw [lookup_cons', lookup_cons']
        rw [lookup_cons', if_neg e] at h
        by_cases e2 : a = c
        · subst e2; simp [e]
        · rw [if_neg e2, if_neg e2]; exact ih h
  split
  · rename_i h; exact hmap kv h
  · rename_i h
    have hn : kv.lookup k = none := by
      cases q : kv.lookup k with
      | none => rfl
      | some i => rw [q] at h; exact absurd rfl h
    have happ : ∀ kv : List (List Int × Int), (kv ++ [(k, v)]).lookup c = (kv.lookup c).or (if c = k then some v else none) := by
      intro kv
      induction kv with
      | nil =>
        rw [List.nil_append, lookup_cons']
        by_cases e : k = c
        · subst e; simp
        · rw [if_neg e, if_neg (fun q => e q.symm)]; rfl
      | cons x r ih =>
        obtain ⟨a, b⟩ := x
        rw [List.cons_append, lookup_cons', lookup_cons', ih]
        split <;> rfl
    rw [happ]
    by_cases e : c = k
    · subst e; simp [hn]
    · simp [e]
theorem countL_lookup (cs : List (List Int)) (c : List Int) : (countL cs).lookup c = if cs.count c = 0 then none else some (cs.count c : Int) := by
  have : ∀ l : List (List Int), ∀ c, (countL l.reverse).lookup c = if l.reverse.count c = 0 then none else some (l.reverse.count c : Int) := by
    intro l
    induction l with
    | nil => intro c; rfl
    | cons a l ih =>
      intro c
      rw [List.reverse_cons, countL_snoc]
      unfold countUp
      rw [kvPut_lookup, List.count_append, ih a, ih c]
      by_cases e : c = a
      · subst e
        rw [if_pos rfl]
        have h1 : List.count c [c] = 1 := by simp
        rw [h1, if_neg (show ¬ (l.reverse.count c + 1 = 0) from Nat.succ_ne_zero _)]
        by_cases h0 : l.reverse.count c = 0
        · rw [if_pos h0, h0]; rfl
        · rw [if_neg h0]; simp
      · rw [if_neg e]
        have h1 : List.count c [a] = 0 := by
          rw [List.count_eq_zero]
          simpa using e
        rw [h1]; simp
  have := this cs.reverse c
  rw [List.reverse_reverse] at this
  exact this
theorem counted_fst (cs : List (List Int)) : (countedOf cs).map (·.1) = sortedKeys ((countL cs).map (·.1)) := by
  unfold countedOf
  rw [List.map_map]
  exact (List.map_congr_left fun _ _ => rfl).trans (List.map_id _)
theorem counted_mem {cs : List (List Int)} {p : List Int × Int} (h : p ∈ countedOf cs) : p.1 ∈ cs ∧ p.2 = (cs.count p.1 : Int) := by
  unfold countedOf at h
  obtain ⟨c, hc, rfl⟩ := List.mem_map.mp h
  have hm := (countL_keys cs c).mp ((sortedKeys_perm _).mem_iff.mp hc)
  refine ⟨hm, ?_⟩
  show ((countL cs).lookup c).getD 0 = _
  rw [countL_lookup, if_neg (by have := List.count_pos_iff.mpr hm; omega)]
  rfl
theorem counted_len (cs : List (List Int)) : (countedOf cs).length ≤ cs.length := by
  have h := kv_len cs
  have e : (countedOf cs).length = (countL cs).length := by
    unfold countedOf
    rw [List.length_map, (sortedKeys_perm _).length_eq, List.length_map]
  omega
theorem counted_has {cs : List (List Int)} {c : List Int} (h : c ∈ cs) : (c, (cs.count c : Int)) ∈ countedOf cs := by
  have h1 : c ∈ (countedOf cs).map (·.1) := by
    rw [counted_fst]
    exact (sortedKeys_perm _).mem_iff.mpr ((countL_keys cs c).mpr h)
  obtain ⟨p, hp, rfl⟩ := List.mem_map.mp h1
  have := (counted_mem hp).2
  rw [← this]
  exact hp
/-- the pixels of a picture -/
structure PixOk (cs : List (List Int)) : Prop where
  ne : cs ≠ []
  len : cs.length ≤ 12
  pix : ∀ c ∈ cs, c.length = 3 ∧ ∀ v ∈ c, 0 ≤ v ∧ v ≤ 255
theorem counted_ok {cs : List (List Int)} (h : PixOk cs) : CntOk (countedOf cs) := by
  refine ⟨?_, Nat.le_trans (counted_len cs) h.len, fun p hp => h.pix p.1 (counted_mem hp).1, fun p hp => ?_⟩
  · obtain ⟨c, hc⟩ := List.exists_mem_of_ne_nil _ h.ne
    exact List.ne_nil_of_mem (counted_has hc)
  · obtain ⟨h1, h2⟩ := counted_mem hp
    have h3 := List.count_pos_iff.mpr h1
    have h4 := List.count_le_length (a := p.1) (l := cs)
    have h5 := h.len
    rw [h2]
    omega
theorem at2_b {v h : Nat} {rows : List (List Int)} (P : PlaneOk v h rows) (y x : Nat) : 0 ≤ at2 rows y x ∧ at2 rows y x ≤ 255 := by
  unfold at2
  refine getD_b (fun u hu => ?_) x
  rw [List.getD_eq_getElem?_getD] at hu
  cases e : rows[y]? with
  | none => rw [e] at hu; cases hu
  | some r => rw [e] at hu; exact P.val r (List.mem_of_getElem? e) u hu
theorem pixOk_of {v h : Nat} {R : List (List (List Int))} (hR : R.length = 3) (hP : ∀ rows ∈ R, PlaneOk v h rows) (hv : 1 ≤ v ∧ v ≤ 4) (hh : 1 ≤ h ∧ h ≤ 3) : PixOk (coloursOf v h R) := by
  have hl := coloursOf_len v h R
  have h1 : h * v ≤ 3 * 4 := Nat.mul_le_mul hh.2 hv.2
  have h2 : 1 * 1 ≤ h * v := Nat.mul_le_mul hh.1 hv.1
  refine ⟨fun e => ?_, by omega, fun c hc => ?_⟩
  · rw [e] at hl; simp at hl; omega
  · unfold coloursOf at hc
    simp only [List.mem_flatMap, List.mem_map] at hc
    obtain ⟨y, _, x, _, rfl⟩ := hc
    refine ⟨by simp [colAt, hR], fun u hu => ?_⟩
    obtain ⟨rows, hr, rfl⟩ := List.mem_map.mp hu
    exact at2_b (hP rows hr) y x
section
variable {prog : Program} {w : World} {hb : Heap} {S : List Addr} {A : Around} {cx : Cx} {mu : List MD} {ρ : Rho}
set_option maxHeartbeats 2000000 in
theorem c_cut (G : Gd (hk.heap_1 w.params) hb) (hA : AOk 16 A) (cnt : Cnt) (ok : CntOk cnt) (many : Nat) (h1 : 1 ≤ many) (h5 : many ≤ 5) :
    OpN prog w hb S A (fun vs => call (.ref 161) vs) [cntD cnt, .int (many : Int)] fun d => d = boxesD (cutOf many cnt) ∧ AllOk (cutOf many cnt) ∧ (cutOf many cnt).length ≤ many := by
  refine fn_at (ps := ["counted", "many"]) G hA (by decide) (by rfl) (by kernel_rfl) (by rfl) (len2 fun a b => by kernel_rfl) rfl ?_
  intro L U hA'
  refine ExP.cons (S1.ite (TsP.or2 (TsP.cmp rfl ?_)))
  repeat walk_at "m s"
  have hd1 : decide ((many : Int) < 1) = false := decide_eq_false (by omega)
  rw [hd1]
  simp only [Bool.false_eq_true, if_false]
  refine TsP.cmp rfl ?_
  repeat walk_at "m s"
  refine ⟨by decide, ?_⟩
  refine op_eqD (b := false) hA'.roomy ((okPair 3).lst cnt) rfl ?_ (Truth.bool ?_)
  · obtain ⟨p, r, e⟩ := List.exists_cons_of_ne_nil ok.ne
    subst e
    show PyData.eqv (D.lst (pairD p :: r.map pairD)).py (D.lst []).py = false
    rw [D.py, D.py, PyData.eqv, D.pys, D.pys, PyData.eqvAll]
  simp only [Bool.false_eq_true, if_false]
  refine ExP.nil ?_
  refine ExP.cons (S1.assign (.inl rfl) rfl ?_)
  repeat walk_at "m s"
  walk_at "m call"
  repeat walk_at "m s"
  refine OpN.toT ((c_box G (hA'.to (by decide)) cnt ok).mono fun d e => ?_)
  subst e
  repeat walk_at "m s"
  refine ⟨by simp, ?_⟩
  refine ExP.cons (S1.while rfl (fun n m r => ∃ Bs : Boxes, m = [] ∧ Wk r [("boxes", boxesD Bs), ("many", .int (many : Int))] ∧ Bs.length + n = many ∧ AllOk Bs ∧ 1 ≤ Bs.length ∧ cutGo (many : Int) n Bs = cutOf many cnt) (many - 1) ⟨[cnt], rfl, by walk_at "m wk", by simp; omega, fun c hc => by rw [List.mem_singleton.mp hc]; exact ok, by simp, rfl⟩ ?_)
  rintro n m r ⟨Bs, rfl, wk, hn, hok, hne, hgo⟩
  have fin : n = 0 → boxesD Bs = boxesD (cutOf many cnt) ∧ AllOk (cutOf many cnt) ∧ (cutOf many cnt).length ≤ many := fun e => by
    subst e
    have : Bs = cutOf many cnt := hgo
    rw [← this]
    exact ⟨rfl, hok, by omega⟩
  refine TsP.cmp rfl ?_
  walk_at "m call"
  walk_at "m args"
  refine EvP.name (wk "boxes" _ rfl) (.inl rfl) (by decide) (by decide) ?_
  walk_at "m args"
  refine OpN.toT (Op1.toN (call_len (by rw [List.length_map]; omega) ?_))
  rw [List.length_map]
  refine EvP.name (wk "many" _ rfl) (.inl rfl) (by decide) (by decide) ?_
  refine op_lt (Truth.bool ?_)
  cases n with
  | zero =>
    rw [decide_eq_false (show ¬ ((Bs.length : Int) < (many : Int)) by omega)]
    simp only [Bool.false_eq_true, if_false]
    refine ExP.weak wk ?_
    refine ExP.cons (S1.ret ?_)
    walk_at "m e"
    exact fin rfl
  | succ n =>
    rw [decide_eq_true (show ((Bs.length : Int) < (many : Int)) by omega)]
    simp only [if_true]
    refine ExP.weak wk ?_
    refine ExP.cons (S1.assign (.inl rfl) rfl ?_)
    walk_at "m call"
    repeat walk_at "m s"
    refine OpN.toT ((c_next G (hA'.to (by decide)) Bs (many : Int) hok (by omega)).mono fun d e => ?_)
    subst e
    have hgo' : (match nextOf (many : Int) Bs with | none => Bs | some i => cutGo (many : Int) n (cutAt Bs i)) = cutOf many cnt := hgo
    have hsp : ∀ i, nextOf (many : Int) Bs = some i → i < Bs.length ∧ 0 < spreadOf (Bs.getD i []) := fun i e => nbAt_some e
    generalize nextOf (many : Int) Bs = nx at hgo' hsp
    refine ExP.cons (S1.ite (TsP.cmp rfl ?_))
    walk_at "m e"
    walk_at "m e"
    refine op_isNone (Truth.bool ?_)
    cases nx with
    | none =>
      show ExP prog w _ _ _ (if true = true then _ else _) _
      simp only [if_true]
      refine ExP.cons (S1.ret ?_)
      walk_at "m e"
      have e : Bs = cutOf many cnt := hgo'
      show boxesD Bs = _ ∧ _
      rw [← e]
      exact ⟨rfl, hok, by omega⟩
    | some i =>
      obtain ⟨hi, hs⟩ := hsp i rfl
      show ExP prog w _ _ _ (if false = true then _ else _) _
      simp only [Bool.false_eq_true, if_false]
      refine ExP.nil ?_
      refine ExP.cons (S1.assign (.inl rfl) rfl ?_)
      walk_at "m e"
      walk_at "m e"
      refine EvP.sliceTo (fun _ _ => rfl) ?_
      walk_at "m e"
      walk_at "m e"
      refine ⟨Bs.map boxD, (i : Int), rfl, rfl, by omega, by rw [List.length_map]; omega, ?_⟩
      walk_at "m call"
      walk_at "m args"
      refine ev_box (Bs := Bs) (i := i) hi (by omega) (by walk_at "m e"; rfl) (by walk_at "m e"; rfl) ?_
      walk_at "m args"
      refine OpN.toT ((c_halves G (hA'.to (by decide)) _ (hok.get hi) hs).mono fun d e => ?_)
      subst e
      refine op_cat (by simp; omega) ?_
      refine EvP.sliceFrom (fun _ _ => rfl) ?_
      walk_at "m e"
      repeat walk_at "m s"
      refine op_add (a := (i : Int)) ?_
      refine ⟨Bs.map boxD, (i : Int) + 1, rfl, rfl, by omega, by rw [List.length_map]; omega, ?_⟩
      have ecut : ((Bs.map boxD).take (i : Int).toNat ++ [boxD (lowerOf (Bs.getD i [])), boxD (upperOf (Bs.getD i []))]) ++ (Bs.map boxD).drop ((i : Int) + 1).toNat = (cutAt Bs i).map boxD := by
        unfold cutAt
        rw [show ((i : Int) + 1).toNat = i + 1 from by omega, show (i : Int).toNat = i from by omega]
        simp [List.map_take, List.map_drop]
      refine op_cat (by simp; omega) ?_
      rw [ecut]
      refine ExP.nil ⟨n, Nat.lt_succ_self _, cutAt Bs i, rfl, by walk_at "m wk", ?_, hok.cut hi hs, ?_, hgo'⟩
      · rw [cutAt_len hi]; omega
      · rw [cutAt_len hi]; omega
end
theorem cutGo_ok (many : Int) : ∀ (n : Nat) (Bs : Boxes), AllOk Bs → 1 ≤ Bs.length → AllOk (cutGo many n Bs) ∧ (cutGo many n Bs).length ≤ Bs.length + n ∧ 1 ≤ (cutGo many n Bs).length
  | 0, Bs, h, h1 => ⟨h, Nat.le_refl _, h1⟩
  | n + 1, Bs, h, h1 => by
    unfold cutGo
    cases e : nextOf many Bs with
    | none => exact ⟨h, by dsimp only; omega, h1⟩
    | some i =>
      obtain ⟨hi, hs⟩ := nbAt_some e
      have hl := cutAt_len hi
      have ih := cutGo_ok many n (cutAt Bs i) (h.cut hi hs) (by omega)
      dsimp only
      exact ⟨ih.1, by omega, ih.2.2⟩
theorem cutOf_ok {many : Nat} {cnt : Cnt} (h1 : 1 ≤ many) (ok : CntOk cnt) : AllOk (cutOf many cnt) ∧ (cutOf many cnt).length ≤ many ∧ 1 ≤ (cutOf many cnt).length := by
  have := cutGo_ok (many : Int) (many - 1) [cnt] (fun c hc => by rw [List.mem_singleton.mp hc]; exact ok) (by simp)
  unfold cutOf
  refine ⟨this.1, ?_, this.2.2⟩
  have h2 := this.2.1
  simp only [List.length_cons, List.length_nil] at h2
  omega
noncomputable def palD (pal : List (List Int)) : D := .lst (pal.map tupI)
noncomputable def palOf (many : Nat) (cnt : Cnt) : List (List Int) := (cutOf many cnt).map meanOf
theorem wsum_b {cnt : Cnt} (ok : CntOk cnt) (k : Nat) : 0 ≤ wsumOf cnt k ∧ wsumOf cnt k ≤ 255 * totalOf cnt := by
  unfold wsumOf totalOf
  have h1 := ok.pix
  have h2 := ok.num
  clear ok
  induction cnt with
  | nil => simp
  | cons p r ih =>
    have ih' := ih (fun q hq => h1 q (.tail _ hq)) (fun q hq => h2 q (.tail _ hq))
    have a := getD_b (h1 p (.head _)).2 k
    have b := h2 p (.head _)
    have c1 := Int.mul_nonneg a.1 (show 0 ≤ p.2 by omega)
    have c2 := Int.mul_le_mul_of_nonneg_right a.2 (show 0 ≤ p.2 by omega)
    rw [List.map_cons, List.map_cons, List.sum_cons, List.sum_cons, Int.mul_add]
    omega
theorem mean_pix {cnt : Cnt} (ok : CntOk cnt) : Pix (meanOf cnt) := by
  refine ⟨by simp [meanOf], fun i => ?_⟩
  have ht := total_b ok
  have hm : ∀ v ∈ meanOf cnt, 0 ≤ v ∧ v ≤ 256 := fun v hv => by
    unfold meanOf at hv
    obtain ⟨k, _, rfl⟩ := List.mem_map.mp hv
    have hw := wsum_b ok k
    rw [Int.fdiv_eq_ediv_of_nonneg _ (show 0 ≤ totalOf cnt by omega), Int.fdiv_eq_ediv_of_nonneg _ (by decide)]
    refine ⟨Int.ediv_nonneg (by omega) (by omega), ?_⟩
    refine Int.le_of_lt_add_one (Int.ediv_lt_of_lt_mul (by omega) ?_)
    omega
  rw [List.getD_eq_getElem?_getD]
  cases e : (meanOf cnt)[i]? with
  | none => exact ⟨by decide, by decide⟩
  | some v => have := hm v (List.mem_of_getElem? e); show -100000 ≤ v ∧ v ≤ 100000; omega
section
variable {prog : Program} {w : World} {hb : Heap} {S : List Addr} {A : Around} {cx : Cx} {mu : List MD} {ρ : Rho}
set_option maxHeartbeats 1000000 in
theorem c_palette (G : Gd (hk.heap_1 w.params) hb) (hA : AOk 14 A) (v h : Nat) (r0 r1 r2 : List (List Int)) (hP : ∀ rows ∈ [r0, r1, r2], PlaneOk v h rows) (hv : 1 ≤ v ∧ v ≤ 4) (hh : 1 ≤ h ∧ h ≤ 3) (many : Nat) (h1 : 1 ≤ many) (h5 : many ≤ 5) :
    OpN prog w hb S A (fun vs => call (.ref 166) vs) [planesD v h [r0, r1, r2], .int (many : Int)] fun d => d = palD (palOf many (countedOf (coloursOf v h [r0, r1, r2]))) := by
  have okc := counted_ok (pixOk_of (R := [r0, r1, r2]) rfl hP hv hh)
  have okb := cutOf_ok h1 okc
  refine fn_at (ps := ["planes", "many"]) G hA (by decide) (by rfl) (by kernel_rfl) (by rfl) (len2 fun a b => by kernel_rfl) rfl ?_
  intro L U hA'
  refine ExP.cons (S1.ret ?_)
  refine EvP.compM (cutOf many (countedOf (coloursOf v h [r0, r1, r2]))) boxD D.asBox (fun c _ => asBox_boxD c) (fun _ => true) (fun c => tupI (meanOf c)) (fun c => [("box", boxD c)]) hA'.handled (scopeOk_of rfl (by decide) (by rfl)) plain1 (fun _ => rfl) (by omega) ?_ ?_ ?_
  · refine EvIt.lst hA'.handled ?_
    walk_at "m call"
    walk_at "m args"
    walk_at "m call"
    repeat walk_at "m s"
    refine OpN.toT ((c_counted G (hA'.to (by decide)) v h r0 r1 r2 hP hv.2 hh.2).mono fun d e => ?_)
    subst e
    repeat walk_at "m s"
    refine OpN.toT ((c_cut G (hA'.to (by decide)) _ okc many h1 h5).mono fun d e => ?_)
    exact ⟨_, e.1, rfl⟩
  · intro c hc
    refine ⟨tgt1, tau1 rfl, fun L' cs U' => ⟨tau1 (.inl rfl), rfl, fun _ => ?_⟩⟩
    refine EvP.meth0 G rfl ?_
    walk_at "m e"
    exact ⟨138, boxN, _, 135, rfl, by kernel_rfl, by kernel_rfl, by kernel_rfl, by kernel_rfl, rfl, by decide, OpN.toT (c_mean G (hA'.to (by decide)) c (okb.1 c hc))⟩
  · show D.lst _ = palD _
    rw [List.filter_eq_self.mpr (fun _ _ => rfl)]
    unfold palD palOf
    rw [List.map_map]; rfl
set_option maxHeartbeats 400000 in
theorem c_apartL (G : Gd (hk.heap_1 w.params) hb) (hA : AOk 20 A) (x y : List Int) (hx : Pix x) (hy : Pix y) :
    OpN prog w hb S A (fun vs => call (.ref 171) vs) [tupI x, lstI y] fun d => d = .int (apartI x y) := by
  refine fn_at (ps := ["one", "other"]) G hA (by decide) (by rfl) (by kernel_rfl) (by rfl) (len2 fun a b => by kernel_rfl) rfl ?_
  intro L U hA'
  refine ExP.cons (S1.ret ?_)
  walk_at "m call"
  walk_at "m args"
  refine EvP.compM (List.range 3) (fun i : Nat => D.int (i : Int)) (fun d => d.asInt.toNat) (fun _ _ => by rfl) (fun _ => true) (fun i => D.int (sq (shares.getD i 0 * (x.getD i 0 - y.getD i 0)))) (fun i => [("part", D.int (i : Int))]) hA'.handled (scopeOk_of rfl (by decide) (by rfl)) plain1 (fun _ => rfl) (by decide) ?_ ?_ ?_
  · exact it_range3 G hA'.handled rfl rfl
  · intro i hi
    have hi3 : i < 3 := List.mem_range.mp hi
    refine ⟨tgt1, tau1 rfl, fun L' cs U' => ⟨tau1 (.inl rfl), rfl, fun _ => ?_⟩⟩
    walk_at "m e"
    walk_at "m e"
    walk_at "m e"
    refine ev_shares G rfl ?_
    walk_at "m e"
    refine SubP.tupI (by omega) (by simpa [shares] using hi3) (by decide) ?_
    walk_at "m e"
    walk_at "m e"
    walk_at "m e"
    walk_at "m e"
    refine SubP.tupI (by omega) (by have := hx.1; omega) (by have := hx.1; omega) ?_
    walk_at "m e"
    walk_at "m e"
    walk_at "m e"
    refine SubP.lstI (by omega) (by have := hy.1; omega) (by have := hy.1; omega) ?_
    walk_at "m o"
    have hxi := hx.2 (i : Int).toNat
    have hyi := hy.2 (i : Int).toNat
    have hsi := shares_b (i : Int).toNat
    refine op_mul (mulOk_left (by omega)) ?_
    walk_at "m e"
    refine op_pow (by decide) (by decide) (pow_b _ _ _ ⟨hsi.1, hsi.2⟩ hxi hyi) rfl
  · walk_at "m args"
    refine OpN.toT (Op1.toN ?_)
    have e : ((List.range 3).filter fun _ => true).map (fun i => D.int (sq (shares.getD i 0 * (x.getD i 0 - y.getD i 0)))) = ((List.range 3).map fun i => sq (shares.getD i 0 * (x.getD i 0 - y.getD i 0))).map D.int := by rfl
    rw [e]
    exact call_sum hA'.handled rfl
end
noncomputable def nrStep (pal : List (List Int)) (c : List Int) (b i : Nat) : Nat := if apartI (pal.getD i []) c < apartI (pal.getD b []) c then i else b
noncomputable def nrAt (pal : List (List Int)) (c : List Int) : Nat → Nat
  | 0 => 0
  | i + 1 => nrStep pal c (nrAt pal c i) (i + 1)
noncomputable def nearestOf (pal : List (List Int)) (c : List Int) : Nat := nrAt pal c (pal.length - 1)
theorem nrAt_le (pal : List (List Int)) (c : List Int) : ∀ i, nrAt pal c i ≤ i
  | 0 => Nat.le_refl _
  | i + 1 => by
    have := nrAt_le pal c i
    show nrStep pal c (nrAt pal c i) (i + 1) ≤ i + 1
    unfold nrStep
    split <;> omega
theorem nrAt_min (pal : List (List Int)) (c : List Int) : ∀ i j, j ≤ i → apartI (pal.getD (nrAt pal c i) []) c ≤ apartI (pal.getD j []) c
  | 0, j, h => by rw [Nat.le_zero.mp h]; exact Int.le_refl _
  | i + 1, j, h => by
    have ih := nrAt_min pal c i
    show apartI (pal.getD (nrStep pal c (nrAt pal c i) (i + 1)) []) c ≤ _
    unfold nrStep
    by_cases hj : j ≤ i
    · have := ih j hj
      split <;> omega
    · have : j = i + 1 := by omega
      subst this
      split <;> omega
theorem nearest_lt {pal : List (List Int)} {c : List Int} (h : 1 ≤ pal.length) : nearestOf pal c < pal.length := by
  have := nrAt_le pal c (pal.length - 1)
  unfold nearestOf
  omega
noncomputable def PalOk (pal : List (List Int)) : Prop := 1 ≤ pal.length ∧ pal.length ≤ 12 ∧ ∀ x ∈ pal, Pix x
theorem PalOk.get {pal : List (List Int)} (h : PalOk pal) {i : Nat} (hi : i < pal.length) : Pix (pal.getD i []) := by
  rw [List.getD_eq_getElem?_getD, List.getElem?_eq_getElem hi]; exact h.2.2 _ (List.getElem_mem hi)
section
variable {prog : Program} {w : World} {hb : Heap} {S : List Addr} {A : Around} {cx : Cx} {mu : List MD} {ρ : Rho}
theorem ev_pal {x y : Str} {p q pos : Pos} {pal : List (List Int)} {i : Nat} {K : D → Prop} (hi : i < pal.length) (hl : pal.length ≤ 100) (hx : EvP prog w cx mu ρ (.Name x p) fun d => d = palD pal) (hy : EvP prog w cx mu ρ (.Name y q) fun d => d = .int (i : Int)) (h : K (tupI (pal.getD i []))) :
    EvP prog w cx mu ρ (.Subscript (.Name x p) (.Name y q) pos) K := by
  refine EvP.sub (fun _ _ => ⟨_, rfl⟩) (hx.mono fun d e => hy.mono fun d' e' => ?_)
  subst e e'
  refine SubP.lstM (by omega) (by simpa using hi) (by omega) ?_
  rw [List.getD_eq_getElem?_getD, List.getElem?_eq_getElem hi] at h
  simpa using h
set_option maxHeartbeats 1000000 in
theorem c_nearest (G : Gd (hk.heap_1 w.params) hb) (hA : AOk 18 A) (pal : List (List Int)) (c : List Int) (hp : PalOk pal) (hc : Pix c) :
    OpN prog w hb S A (fun vs => call (.ref 178) vs) [palD pal, lstI c] fun d => d = .int (nearestOf pal c : Int) := by
  refine fn_at (ps := ["palette", "colour"]) G hA (by decide) (by rfl) (by kernel_rfl) (by rfl) (len2 fun a b => by kernel_rfl) rfl ?_
  intro L U hA'
  have h1 := hp.1
  have h2 := hp.2.1
  refine ExP.cons (S1.assign (.inl rfl) rfl ?_)
  walk_at "m e"
  have items : rngL 1 (pal.length : Int) = (List.range (pal.length - 1)).map fun i : Nat => D.int ((i + 1 : Nat) : Int) := by
    unfold rngL
    rw [show ((pal.length : Int) - 1).toNat = pal.length - 1 from by omega]
    refine List.map_congr_left fun i _ => ?_
    show D.int (1 + (i : Int)) = D.int ((i + 1 : Nat) : Int)
    rw [show (1 + (i : Int)) = ((i + 1 : Nat) : Int) from by omega]
  have small : Builtin.Range.small 1 (pal.length : Int) 1 = true := by
    unfold Builtin.Range.small
    rw [rangeSize1]
    have f1 := fitsN 1 (by decide)
    have f2 := fitsN pal.length (by omega)
    have f3 := fitsN (pal.length - 1) (by omega)
    simp only [Int.natCast_one] at f1
    rw [show ((pal.length : Int) - 1).toNat = pal.length - 1 from by omega]
    simp [f1, f2, f3]
  refine ExP.cons (S1.for hA'.handled plain1 (fun _ => rfl) rfl (EvIt.rng hA'.handled ?_))
  walk_at "m call"
  repeat walk_at "m s"
  walk_at "m call"
  repeat walk_at "m s"
  refine OpN.toT (Op1.toN (call_len (by rw [List.length_map]; omega) ?_))
  rw [List.length_map]
  repeat walk_at "m s"
  refine OpN.toT (Op2.toN (call_range2 ⟨1, (pal.length : Int), rfl, small, ?_⟩))
  rw [items]
  refine ⟨fun i m r => m = [] ∧ Wk r [("best", .int (nrAt pal c i : Nat)), ("palette", palD pal), ("colour", lstI c)], ⟨rfl, by walk_at "m wk"⟩, ?_, ?_⟩
  · rintro i d m r hid ⟨rfl, wk⟩
    have hi : i < pal.length - 1 := by
      have := (List.getElem?_eq_some_iff.mp hid).1
      simpa using this
    have hdi : d = .int ((i + 1 : Nat) : Int) := by
      have : ((List.range (pal.length - 1)).map fun i : Nat => D.int ((i + 1 : Nat) : Int))[i]? = some (.int ((i + 1 : Nat) : Int)) := by rw [List.getElem?_map, List.getElem?_range hi]; rfl
      rw [this] at hid
      exact (Option.some.inj hid).symm
    subst hdi
    have hb1 := nrAt_le pal c i
    refine ⟨_, tgt1, tau1 (.inl rfl), fun W => ExP.weak (Wk.app _ wk) ?_⟩
    refine ExP.cons (S1.ite (TsP.cmp rfl ?_))
    walk_at "m call"
    walk_at "m args"
    refine ev_pal (pal := pal) (i := i + 1) (by omega) (by omega) (by walk_at "m e"; rfl) (by walk_at "m e"; rfl) ?_
    repeat walk_at "m s"
    refine OpN.toT ((c_apartL G (hA'.to (by decide)) _ c (hp.get (by omega)) hc).mono fun d e => ?_)
    subst e
    walk_at "m call"
    walk_at "m args"
    refine ev_pal (pal := pal) (i := nrAt pal c i) (by omega) (by omega) (by walk_at "m e"; rfl) (by walk_at "m e"; rfl) ?_
    repeat walk_at "m s"
    refine OpN.toT ((c_apartL G (hA'.to (by decide)) _ c (hp.get (by omega)) hc).mono fun d e => ?_)
    subst e
    refine op_lt (Truth.bool ?_)
    have hst : nrAt pal c (i + 1) = nrStep pal c (nrAt pal c i) (i + 1) := rfl
    cases hcc : decide (apartI (pal.getD (i + 1) []) c < apartI (pal.getD (nrAt pal c i) []) c) with
    | true =>
      simp only [if_true]
      refine ExP.cons (S1.assign (.inl rfl) rfl ?_)
      walk_at "m e"
      refine ExP.nil (ExP.nil ⟨rfl, ?_⟩)
      rw [hst, show nrStep pal c (nrAt pal c i) (i + 1) = i + 1 from if_pos (of_decide_eq_true hcc)]
      walk_at "m wk"
    | false =>
      simp only [Bool.false_eq_true, if_false]
      refine ExP.nil (ExP.nil ⟨rfl, ?_⟩)
      rw [hst, show nrStep pal c (nrAt pal c i) (i + 1) = nrAt pal c i from if_neg (of_decide_eq_false hcc)]
      walk_at "m wk"
  · rintro m r ⟨rfl, wk⟩
    rw [List.length_map, List.length_range] at wk
    refine ExP.weak wk ?_
    refine ExP.cons (S1.ret ?_)
    walk_at "m e"
    rfl
end
noncomputable def mappedRows (v h : Nat) (R : List (List (List Int))) (pal : List (List Int)) : List (List Int) := (List.range h).map fun y => (List.range v).map fun x => (nearestOf pal (colAt R y x) : Int)
noncomputable def shownRows (pal : List (List Int)) (rows : List (List Int)) (k : Nat) : List (List Int) := rows.map fun row => row.map fun pl => (pal.getD pl.toNat []).getD k 0
theorem colAt_pix {v h : Nat} {R : List (List (List Int))} (hR : R.length = 3) (hP : ∀ rows ∈ R, PlaneOk v h rows) (y x : Nat) : Pix (colAt R y x) := by
  refine ⟨by simp [colAt, hR], fun i => ?_⟩
  have : 0 ≤ (colAt R y x).getD i 0 ∧ (colAt R y x).getD i 0 ≤ 255 := getD_b (fun u hu => by
    obtain ⟨rows, hr, rfl⟩ := List.mem_map.mp hu
    exact at2_b (hP rows hr) y x) i
  omega
section
variable {prog : Program} {w : World} {hb : Heap} {S : List Addr} {A : Around} {cx : Cx} {mu : List MD} {ρ : Rho}
set_option maxHeartbeats 1000000 in
theorem c_mapped (G : Gd (hk.heap_1 w.params) hb) (hA : AOk 14 A) (v h : Nat) (R : List (List (List Int))) (hR : R.length = 3) (hP : ∀ rows ∈ R, PlaneOk v h rows) (hv : v ≤ 4) (hh : h ≤ 3) (pal : List (List Int)) (hp : PalOk pal) :
    OpN prog w hb S A (fun vs => call (.ref 183) vs) [planesD v h R, palD pal] fun d => d = planeD v h (mappedRows v h R pal) := by
  refine fn_at (ps := ["planes", "palette"]) G hA (by decide) (by rfl) (by kernel_rfl) (by rfl) (len2 fun a b => by kernel_rfl) rfl ?_
  intro L U hA'
  refine ExP.cons (S1.newList (.inl rfl) rfl fun a => ?_)
  refine ExP.cons (S1.for hA'.handled plain1 (fun _ => rfl) rfl (it_range (n := h) (by omega) G hA'.handled rfl ?_ rfl ?_))
  · refine ev_height G rfl ?_
    repeat walk_at "m s"
    exact SubP.lstM (by decide) (by simp [hR]) (by omega) ⟨_, _, _, rfl, rfl⟩
  refine ⟨fun i m r => m = [.lst a (((List.range i).map fun y => (List.range v).map fun x => (nearestOf pal (colAt R y x) : Int)).map lstI)] ∧ Wk r [("rows", .adr a), ("palette", palD pal), ("planes", planesD v h R)], ⟨rfl, by walk_at "m wk"⟩, ?_, ?_⟩
  · rintro y d m r hid ⟨rfl, wk⟩
    have hy : y < h := by
      have := (List.getElem?_eq_some_iff.mp hid).1
      simpa using this
    have hdy : d = .int (y : Int) := by
      have : ((List.range h).map fun i : Nat => D.int (i : Int))[y]? = some (.int (y : Int)) := by rw [List.getElem?_map, List.getElem?_range hy]; rfl
      rw [this] at hid
      exact (Option.some.inj hid).symm
    subst hdy
    refine ⟨_, tgt1, tau1 (storB rfl), fun W => ExP.weak (Wk.app _ wk) ?_⟩
    refine ExP.cons (S1.append rfl (.inl rfl) (by decide) (by decide) rfl rfl rfl rfl rfl (by simp; omega) ?_)
    refine EvP.compM (List.range v) (fun i : Nat => D.int (i : Int)) (fun d => d.asInt.toNat) (fun _ _ => by rfl) (fun _ => true) (fun x => D.int (nearestOf pal (colAt R y x) : Int)) (fun i => [("x", D.int (i : Int))]) hA'.handled (scopeOk_of rfl (by decide) (by rfl)) plain1 (fun _ => rfl) (by rw [List.length_range]; omega) ?_ ?_ ?_
    · refine it_range (n := v) (by omega) G hA'.handled rfl ?_ rfl rfl
      refine ev_width G rfl ?_
      repeat walk_at "m s"
      exact SubP.lstM (by decide) (by simp [hR]) (by omega) ⟨_, _, _, rfl, rfl⟩
    · intro x hx
      have hx : x < v := List.mem_range.mp hx
      refine ⟨tgt1, tau1 rfl, fun L' cs U' => ⟨tau1 (storB rfl), rfl, fun _ => ?_⟩⟩
      walk_at "m call"
      repeat walk_at "m s"
      refine EvP.compM R (planeD v h) D.asRows (fun r _ => asRows_plane v h r) (fun _ => true) (fun rows => D.int (at2 rows y x)) (fun rows => [("plane", planeD v h rows)]) hA'.handled (scopeOk_of rfl (by decide) (by rfl)) plain1 (fun _ => rfl) (by omega) ?_ ?_ ?_
      · refine EvIt.lst hA'.handled ?_
        walk_at "m e"
        exact ⟨_, rfl, rfl⟩
      · intro rows hrows
        refine ⟨tgt1, tau1 rfl, fun L' cs U' => ⟨tau1 (.inl rfl), rfl, fun _ => ?_⟩⟩
        refine ev_pix (hP rows hrows) (by omega) (by omega) hy hx (fun _ _ => ⟨_, rfl⟩) (fun _ _ => ⟨_, rfl⟩) ?_ ?_ ?_ rfl
        · refine ev_rows G rfl ?_
          walk_at "m e"
          exact ⟨_, _, _, rfl, rfl⟩
        · walk_at "m e"; rfl
        · walk_at "m e"; rfl
      · walk_at "m args"
        have e : (R.filter fun _ => true).map (fun rows => D.int (at2 rows y x)) = (colAt R y x).map D.int := by
          rw [List.filter_eq_self.mpr (fun _ _ => rfl)]
          unfold colAt
          rw [List.map_map]; rfl
        rw [e]
        exact OpN.toT (c_nearest G (hA'.to (by decide)) pal _ hp (colAt_pix hR hP y x))
    · refine ExP.nil ⟨congrArg (fun l => [MD.lst a l]) ?_, by walk_at "m wk"⟩
      rw [List.range_succ, List.filter_eq_self.mpr (fun _ _ => rfl)]
      simp [lstI] <;> rfl
  · rintro m r ⟨rfl, wk⟩
    rw [List.length_map, List.length_range]
    refine ExP.weak wk (ExP.freezeL (x := "rows") rfl ?_)
    refine ExP.cons (S1.ret ?_)
    walk_at "m call"
    walk_at "m args"
    refine ev_width G rfl ?_
    repeat walk_at "m s"
    refine SubP.lstM (by decide) (by simp [hR]) (by omega) ⟨_, _, _, rfl, ?_⟩
    walk_at "m args"
    refine ev_height G rfl ?_
    repeat walk_at "m s"
    refine SubP.lstM (by decide) (by simp [hR]) (by omega) ⟨_, _, _, rfl, ?_⟩
    repeat walk_at "m s"
    exact OpN.toT (c_plane G (hA'.to (by decide)) _ _ _)
set_option maxHeartbeats 1000000 in
theorem c_shown (G : Gd (hk.heap_1 w.params) hb) (hA : AOk 14 A) (v h : Nat) (rows : List (List Int)) (hl : rows.length ≤ 100) (hrl : ∀ r ∈ rows, r.length ≤ 100) (pal : List (List Int)) (hp : PalOk pal) (hr : ∀ r ∈ rows, ∀ x ∈ r, 0 ≤ x ∧ x < pal.length) :
    OpN prog w hb S A (fun vs => call (.ref 188) vs) [planeD v h rows, palD pal] fun d => d = .lst ((List.range 3).map fun k => planeD v h (shownRows pal rows k)) := by
  refine fn_at (ps := ["plane", "palette"]) G hA (by decide) (by rfl) (by kernel_rfl) (by rfl) (len2 fun a b => by kernel_rfl) rfl ?_
  intro L U hA'
  have hp2 := hp.2.1
  refine ExP.cons (S1.newList (.inl rfl) rfl fun a => ?_)
  refine ExP.cons (S1.for hA'.handled plain1 (fun _ => rfl) rfl (it_range3 G hA'.handled rfl ?_))
  refine ⟨fun i m r => m = [.lst a ((List.range i).map fun k => planeD v h (shownRows pal rows k))] ∧ Wk r [("found", .adr a), ("palette", palD pal), ("plane", planeD v h rows)], ⟨rfl, by walk_at "m wk"⟩, ?_, ?_⟩
  · rintro k d m r hid ⟨rfl, wk⟩
    have hk : k < 3 := by
      have := (List.getElem?_eq_some_iff.mp hid).1
      simpa using this
    have hdk : d = .int (k : Int) := by
      have : ((List.range 3).map fun i : Nat => D.int (i : Int))[k]? = some (.int (k : Int)) := by rw [List.getElem?_map, List.getElem?_range hk]; rfl
      rw [this] at hid
      exact (Option.some.inj hid).symm
    subst hdk
    refine ⟨_, tgt1, tau1 (storB rfl), fun W => ExP.weak (Wk.app _ wk) ?_⟩
    refine ExP.cons (S1.append rfl (.inl rfl) (by decide) (by decide) rfl rfl rfl rfl rfl (by simp; omega) ?_)
    walk_at "m call"
    walk_at "m args"
    refine ev_width G rfl ?_
    walk_at "m e"
    refine ⟨_, _, _, rfl, ?_⟩
    walk_at "m args"
    refine ev_height G rfl ?_
    walk_at "m e"
    refine ⟨_, _, _, rfl, ?_⟩
    walk_at "m args"
    refine EvP.compM rows lstI D.asInts (fun r _ => asInts_lstI r) (fun _ => true) (fun row => lstI (row.map fun pl => (pal.getD pl.toNat []).getD k 0)) (fun row => [("row", lstI row)]) hA'.handled (scopeOk_of rfl (by decide) (by rfl)) plain1 (fun _ => rfl) (by omega) ?_ ?_ ?_
    · refine EvIt.lst hA'.handled ?_
      refine ev_rows G rfl ?_
      walk_at "m e"
      exact ⟨_, _, _, rfl, _, rfl, rfl⟩
    · intro row hrow
      have hrowl := hrl row hrow
      refine ⟨tgt1, tau1 rfl, fun L' cs U' => ⟨tau1 (.inl rfl), rfl, fun _ => ?_⟩⟩
      refine EvP.compM row D.int D.asInt (fun _ _ => rfl) (fun _ => true) (fun pl => D.int ((pal.getD pl.toNat []).getD k 0)) (fun pl => [("place", D.int pl)]) hA'.handled (scopeOk_of rfl (by decide) (by rfl)) plain1 (fun _ => rfl) (by omega) ?_ ?_ ?_
      · refine EvIt.lst hA'.handled ?_
        walk_at "m e"
        exact ⟨_, rfl, rfl⟩
      · intro pl hpl
        have hb := hr row hrow pl hpl
        obtain ⟨n, rfl⟩ := Int.eq_ofNat_of_zero_le hb.1
        have hn : n < pal.length := by omega
        refine ⟨tgt1, tau1 rfl, fun L' cs U' => ⟨tau1 (.inl rfl), rfl, fun _ => ?_⟩⟩
        walk_at "m e"
        refine ev_pal (pal := pal) (i := n) hn (by omega) (by walk_at "m e"; rfl) (by walk_at "m e"; rfl) ?_
        walk_at "m e"
        have hpx := hp.get hn
        refine SubP.tupI (by omega) (by rw [hpx.1]; omega) (by rw [hpx.1]; omega) ?_
        simp
      · show D.lst _ = lstI _
        rw [List.filter_eq_self.mpr (fun _ _ => rfl)]
        unfold lstI
        rw [List.map_map]; rfl
    · walk_at "m args"
      refine OpN.toT ((c_plane G (hA'.to (by decide)) _ _ _).mono fun d e => ?_)
      subst e
      refine ExP.nil ⟨congrArg (fun l => [MD.lst a l]) ?_, by walk_at "m wk"⟩
      rw [List.range_succ, List.filter_eq_self.mpr (fun _ _ => rfl), List.map_append]
      unfold shownRows planeD
      simp [List.map_map] <;> rfl
  · rintro m r ⟨rfl, wk⟩
    refine ExP.weak wk (ExP.freezeL (x := "found") rfl ?_)
    refine ExP.cons (S1.ret ?_)
    walk_at "m e"
    simp
    rfl
end
noncomputable abbrev Lot := List (List Int)
noncomputable def lotD (L : Lot) : D := .lst (L.map tupI)
noncomputable def vals (L : Lot) (k : Nat) : List Int := L.map fun c => c.getD k 0
noncomputable def lside (L : Lot) (k : Nat) : Int := shares.getD k 0 * (maxL (vals L k) - minL (vals L k))
noncomputable def lsides (L : Lot) : List Int := (List.range 3).map fun k => lside L k
noncomputable def lworth (L : Lot) (boxes : Nat) (many : Int) (cs : Lot) : Int := if lsides L = [0, 0, 0] then 0 else if 2 * (boxes : Int) ≤ many then ((cs.filter fun c => decide (c ∈ L)).length : Int) else ((lsides L).map fun s => s * s).sum
theorem vals_b {L : Lot} (h : PixOk L) (k : Nat) : ∀ v ∈ vals L k, 0 ≤ v ∧ v ≤ 255 := fun v hv => by
  obtain ⟨c, hc, rfl⟩ := List.mem_map.mp hv
  exact getD_b (h.pix c hc).2 k
theorem vals_ne {L : Lot} (h : PixOk L) (k : Nat) : vals L k ≠ [] := fun e => h.ne (List.map_eq_nil_iff.mp e)
theorem minV_b {L : Lot} (h : PixOk L) (k : Nat) : 0 ≤ minL (vals L k) ∧ minL (vals L k) ≤ 255 := vals_b h k _ (minL_spec (vals_ne h k)).1
theorem maxV_b {L : Lot} (h : PixOk L) (k : Nat) : 0 ≤ maxL (vals L k) ∧ maxL (vals L k) ≤ 255 := vals_b h k _ (maxL_spec (vals_ne h k)).1
theorem lside_b {L : Lot} (h : PixOk L) (k : Nat) : (lside L k).natAbs ≤ 3 * 255 := by
  have h1 := shares_b k
  have h2 := minV_b h k
  have h3 := maxV_b h k
  unfold lside
  rw [Int.natAbs_mul]
  exact Nat.mul_le_mul (by omega) (by omega)
theorem any_mem (L : Lot) (c : List Int) : ((D.pys (L.map tupI)).any fun y => PyData.eqv y (tupI c).py) = decide (c ∈ L) := by
  induction L with
  | nil => simp [D.pys]
  | cons a L ih =>
    rw [List.map_cons, D.pys, List.any_cons, ih, eqTup a c]
    by_cases e : a = c
    · subst e; simp
    · have : ¬ c = a := fun q => e q.symm
      simp [e, this]
section
variable {prog : Program} {w : World} {hb : Heap} {S : List Addr} {A : Around} {cx : Cx} {mu : List MD} {ρ : Rho}
theorem op_inLot {c : List Int} {L : Lot} {K : D → Prop} (hA : Roomy A) (h : K (.bool (decide (c ∈ L)))) : Op2 prog w hb S A (compareOp .In) (tupI c) (lotD L) K :=
  op_in hA (okTup 4 c) (oks_map (okTup 4) L) (any_mem L c) h
/-- colour[part] of each in a lot -/
theorem ev_overLot {elt iter : Expr} {x : Str} {p : Pos} {ifs : List Expr} {scope : Scope} {pos : Pos} {K : D → Prop} {α : Type} (L : Lot) (pr : List Int → Bool) (f : List Int → α) (g : α → D)
    (hh : cx.A.handled = none) (so : ScopeOk scope cx.env) (hfold : ∀ x, foldedSetIterable iter cx.env x = pure x) (hlen : L.length ≤ 1000) (hx : isOwn scope x = true)
    (hI : EvP prog w cx mu ρ iter fun d => d = lotD L)
    (hE : ∀ c ∈ L, ∀ La cs U, Storable (cx.inner scope La cs U) x ∧ Tests prog w (cx.inner scope La cs U) ([(x, tupI c)] ++ cut scope ρ) ifs (fun b => b = pr c) ∧ (pr c = true → EvP prog w (cx.inner scope La cs U) [] ([(x, tupI c)] ++ cut scope ρ) elt fun d => d = g (f c)))
    (hK : K (.lst (((L.filter pr).map f).map g))) : EvP prog w cx mu ρ (.ListComp elt [⟨.Name x p, iter, ifs, 0⟩] scope pos) K := by
  refine EvP.compM L tupI D.asInts (fun c _ => asInts_tupI c) pr (fun c => g (f c)) (fun c => [(x, tupI c)]) hh so plain1 hfold hlen (EvIt.lst hh (hI.mono fun d e => ⟨_, e, rfl⟩)) (fun c hc => ⟨tgt1, tau1 hx, fun La cs U => ?_⟩) ?_
  · obtain ⟨h1, h2, h3⟩ := hE c hc La cs U
    exact ⟨tau1 h1, h2, h3⟩
  · rw [List.map_map] at hK
    exact hK
theorem s_overLot {elt iter : Expr} {t x : Str} {p pt pos' : Pos} {ifs : List Expr} {scope : Scope} {pos : Pos} {K : Oc → Prop} {α : Type} (L : Lot) (pr : List Int → Bool) (f : List Int → α) (g : α → D)
    (hh : cx.A.handled = none) (so : ScopeOk scope cx.env) (hfold : ∀ x, foldedSetIterable iter cx.env x = pure x) (hlen : L.length ≤ 1000) (hx : isOwn scope x = true) (ht : Storable cx t)
    (hs : swapsWithSole [.Name t pt] (.ListComp elt [⟨.Name x p, iter, ifs, 0⟩] scope pos) pos'.line cx.env = pure true)
    (hI : EvP prog w cx mu ρ iter fun d => d = lotD L)
    (hE : ∀ c ∈ L, ∀ La cs U, Storable (cx.inner scope La cs U) x ∧ Tests prog w (cx.inner scope La cs U) ([(x, tupI c)] ++ cut scope ρ) ifs (fun b => b = pr c) ∧ (pr c = true → EvP prog w (cx.inner scope La cs U) [] ([(x, tupI c)] ++ cut scope ρ) elt fun d => d = g (f c)))
    (hK : K (.next mu ((t, .lst (((L.filter pr).map f).map g)) :: ρ))) : S1 prog w cx mu ρ (.Assign [.Name t pt] (.ListComp elt [⟨.Name x p, iter, ifs, 0⟩] scope pos) pos') K := by
  refine S1.compM L tupI D.asInts (fun c _ => asInts_tupI c) pr (fun c => g (f c)) (fun c => [(x, tupI c)]) hh so plain1 hfold hlen ht hs (EvIt.lst hh (hI.mono fun d e => ⟨_, e, rfl⟩)) (fun c hc => ⟨tgt1, tau1 hx, fun La cs U => ?_⟩) ?_
  · obtain ⟨h1, h2, h3⟩ := hE c hc La cs U
    exact ⟨tau1 h1, h2, h3⟩
  · rw [List.map_map] at hK
    exact hK
/-- one[k] for a colour -/
theorem ev_colk {x y : Str} {p q pos : Pos} {c : List Int} {k : Nat} {K : D → Prop} (hc : c.length = 3) (hk : k < 3) (hx : EvP prog w cx mu ρ (.Name x p) fun d => d = tupI c) (hy : EvP prog w cx mu ρ (.Name y q) fun d => d = .int (k : Int)) (h : K (.int (c.getD k 0))) :
    EvP prog w cx mu ρ (.Subscript (.Name x p) (.Name y q) pos) K := by
  refine EvP.sub (fun _ _ => ⟨_, rfl⟩) (hx.mono fun d e => hy.mono fun d' e' => ?_)
  subst e e'
  exact SubP.tupI (by omega) (by rw [hc]; omega) (by rw [hc]; omega) (by simpa using h)
set_option maxHeartbeats 1000000 in
theorem c_sides (G : Gd (hk.heap_1 w.params) hb) (hA : AOk 20 A) (L : Lot) (ok : PixOk L) :
    OpN prog w hb S A (fun vs => call (.ref 224) vs) [lotD L] fun d => d = lstI (lsides L) := by
  refine fn_at (ps := ["colours"]) G hA (by decide) (by rfl) (by kernel_rfl) (by rfl) (len1 fun a => by kernel_rfl) rfl ?_
  intro La U hA'
  have hlen := ok.len
  refine ExP.cons (S1.newList (.inl rfl) rfl fun a => ?_)
  refine ExP.cons (S1.for hA'.handled plain2 (fun _ => rfl) rfl (EvIt.lst hA'.handled ?_))
  walk_at "m e"
  repeat walk_at "m s"
  refine ⟨by decide, ?_⟩
  repeat walk_at "m s"
  refine ⟨by decide, ?_⟩
  repeat walk_at "m s"
  refine ⟨by decide, ?_⟩
  repeat walk_at "m s"
  refine ⟨by decide, _, rfl, ?_⟩
  refine ⟨fun i m r => m = [.lst a (((List.range i).map fun k => lside L k).map D.int)] ∧ Wk r [("found", .adr a), ("colours", lotD L)], ⟨rfl, by walk_at "m wk"⟩, ?_, ?_⟩
  · rintro k d m r hid ⟨rfl, wk⟩
    have hk : k < 3 ∧ d = .tup [.int (k : Int), .int (shares.getD k 0)] := by
      match k, hid with
      | 0, hid => exact ⟨by decide, by simpa [shares] using hid.symm⟩
      | 1, hid => exact ⟨by decide, by simpa [shares] using hid.symm⟩
      | 2, hid => exact ⟨by decide, by simpa [shares] using hid.symm⟩
      | n + 3, hid => simp at hid
    obtain ⟨hk, rfl⟩ := hk
    refine ⟨_, tgt2, tau2 (.inl rfl) (storB rfl), fun W => ExP.weak (Wk.app _ wk) ?_⟩
    refine ExP.cons (s_overLot L (fun _ => true) (fun c => c.getD k 0) D.int hA'.handled (scopeOk_of rfl (by decide) (by rfl)) (fun _ => rfl) (by omega) rfl (.inl rfl) rfl (by walk_at "m e"; rfl) (fun c hc La cs U => ⟨.inl rfl, rfl, fun _ => ?_⟩) ?_)
    · exact ev_colk (ok.pix c hc).1 hk (by walk_at "m e"; rfl) (by walk_at "m e"; rfl) rfl
    rw [List.filter_eq_self.mpr (fun _ _ => rfl)]
    have hpos : 0 < (vals L k).length := List.length_pos_iff.mpr (vals_ne ok k)
    refine ExP.cons (S1.append rfl (.inl rfl) (by decide) (by decide) rfl rfl rfl rfl rfl (by simp; omega) ?_)
    walk_at "m e"
    walk_at "m e"
    walk_at "m e"
    walk_at "m call"
    repeat walk_at "m s"
    refine OpN.toT (Op1.toN (call_max hA'.handled hpos fun m h1 h2 => ?_))
    rw [show m = maxL (vals L k) from maxL_of h1 h2]
    walk_at "m call"
    repeat walk_at "m s"
    refine OpN.toT (Op1.toN (call_min hA'.handled hpos fun m h1 h2 => ?_))
    rw [show m = minL (vals L k) from minL_of h1 h2]
    walk_at "m o"
    have hs := shares_b k
    refine op_mul (mulOk_left (by omega)) ?_
    refine ExP.nil ⟨?_, by walk_at "m wk"⟩
    rw [List.range_succ, List.map_append, List.map_append]
    rfl
  · rintro m r ⟨rfl, wk⟩
    refine ExP.weak wk (ExP.freezeL (x := "found") rfl ?_)
    refine ExP.cons (S1.ret ?_)
    walk_at "m e"
    rfl
set_option maxHeartbeats 1000000 in
theorem c_worth (G : Gd (hk.heap_1 w.params) hb) (hA : AOk 19 A) (L cs : Lot) (ok : PixOk L) (okc : PixOk cs) (boxes : Nat) (many : Int) :
    OpN prog w hb S A (fun vs => call (.ref 229) vs) [lotD L, .int (boxes : Int), .int many, lotD cs] fun d => d = .int (lworth L boxes many cs) := by
  refine fn_at (ps := ["lot", "boxes", "many", "colours"]) G hA (by decide) (by rfl) (by kernel_rfl) (by rfl) (len4 fun a b c d => by kernel_rfl) rfl ?_
  intro La U hA'
  have hlen := ok.len
  have hlen2 := okc.len
  refine ExP.cons (S1.assign (.inl rfl) rfl ?_)
  walk_at "m call"
  repeat walk_at "m s"
  refine OpN.toT ((c_sides G (hA'.to (by decide)) L ok).mono fun d e => ?_)
  subst e
  refine ExP.cons (S1.ite (TsP.cmp rfl ?_))
  walk_at "m e"
  walk_at "m e"
  repeat walk_at "m s"
  refine ⟨by decide, ?_⟩
  refine op_eqD (e := lstI [0, 0, 0]) hA'.roomy (okLst 5 _) (okLst 5 _) (eqLst _ _) (Truth.bool ?_)
  by_cases h0 : lsides L = [0, 0, 0]
  · rw [decide_eq_true h0]
    simp only [if_true]
    refine ExP.cons (S1.ret ?_)
    walk_at "m e"
    unfold lworth
    rw [if_pos h0]; rfl
  · rw [decide_eq_false h0]
    simp only [Bool.false_eq_true, if_false]
    refine ExP.nil ?_
    refine ExP.cons (S1.ite (TsP.cmp rfl ?_))
    walk_at "m e"
    walk_at "m e"
    walk_at "m e"
    refine op_mul (mulOk_left (by decide)) ?_
    walk_at "m e"
    refine op_le (Truth.bool ?_)
    by_cases h1 : 2 * (boxes : Int) ≤ many
    · rw [decide_eq_true h1]
      simp only [if_true]
      refine ExP.cons (S1.ret ?_)
      walk_at "m call"
      walk_at "m args"
      refine ev_overLot cs (fun c => decide (c ∈ L)) (fun c => c) tupI hA'.handled (scopeOk_of rfl (by decide) (by rfl)) (fun _ => rfl) (by omega) rfl (by walk_at "m e"; rfl) (fun c hc La cs U => ⟨.inl rfl, ?_, fun _ => ?_⟩) ?_
      · refine TsP.cmp rfl ?_
        walk_at "m e"
        walk_at "m e"
        exact op_inLot hA'.roomy (Truth.bool rfl)
      · walk_at "m e"; rfl
      · walk_at "m args"
        have hf := List.length_filter_le (fun c => decide (c ∈ L)) cs
        refine OpN.toT (Op1.toN (call_len (by simp; omega) ?_))
        unfold lworth
        rw [if_neg h0, if_pos h1]
        simp
        rfl
    · rw [decide_eq_false h1]
      simp only [Bool.false_eq_true, if_false]
      refine ExP.nil ?_
      refine ExP.cons (S1.ret ?_)
      walk_at "m call"
      walk_at "m args"
      refine EvP.compM (lsides L) D.int D.asInt (fun _ _ => rfl) (fun _ => true) (fun s => D.int (s * s)) (fun s => [("side", D.int s)]) hA'.handled (scopeOk_of rfl (by decide) (by rfl)) plain1 (fun _ => rfl) (by simp [lsides]) ?_ ?_ ?_
      · refine EvIt.lst hA'.handled ?_
        walk_at "m e"
        exact ⟨_, rfl, rfl⟩
      · intro s hs
        refine ⟨tgt1, tau1 rfl, fun L' cs U' => ⟨tau1 (.inl rfl), rfl, fun _ => ?_⟩⟩
        walk_at "m e"
        walk_at "m e"
        walk_at "m e"
        unfold lsides at hs
        obtain ⟨k, _, rfl⟩ := List.mem_map.mp hs
        have := lside_b ok k
        exact op_mul (mulOk_left (by omega)) rfl
      · walk_at "m args"
        refine OpN.toT (Op1.toN ?_)
        have e : ((lsides L).filter fun _ => true).map (fun s => D.int (s * s)) = ((lsides L).map fun s => s * s).map D.int := by
          rw [List.filter_eq_self.mpr (fun _ _ => rfl), List.map_map]; rfl
        rw [e]
        refine call_sum hA'.handled ?_
        unfold lworth
        rw [if_neg h0, if_neg h1]
        rfl
set_option maxHeartbeats 1000000 in
theorem c_ismean (G : Gd (hk.heap_1 w.params) hb) (hA : AOk 19 A) (L cs : Lot) (c : List Int) (okc : PixOk cs) (hc : Pix c)
    (hm : ∀ k, k < 3 → (2 * (((cs.filter fun c => decide (c ∈ L)).length : Int) * c.getD k 0 - (vals (cs.filter fun c => decide (c ∈ L)) k).sum)).natAbs ≤ (cs.filter fun c => decide (c ∈ L)).length) :
    OpN prog w hb S A (fun vs => call (.ref 239) vs) [lotD L, tupI c, lotD cs] fun d => d = .bool true := by
  refine fn_at (ps := ["box", "colour", "colours"]) G hA (by decide) (by rfl) (by kernel_rfl) (by rfl) (len3 fun a b c => by kernel_rfl) rfl ?_
  intro La U hA'
  have hlen2 := okc.len
  have hf := List.length_filter_le (fun c => decide (c ∈ L)) cs
  refine ExP.cons (s_overLot cs (fun c => decide (c ∈ L)) (fun c => c) tupI hA'.handled (scopeOk_of rfl (by decide) (by rfl)) (fun _ => rfl) (by omega) rfl (.inl rfl) rfl (by walk_at "m e"; rfl) (fun c hc La cs U => ⟨.inl rfl, ?_, fun _ => ?_⟩) ?_)
  · refine TsP.cmp rfl ?_
    walk_at "m e"
    walk_at "m e"
    exact op_inLot hA'.roomy (Truth.bool rfl)
  · walk_at "m e"; rfl
  rw [List.map_id']
  have hpix : ∀ x ∈ cs.filter (fun c => decide (c ∈ L)), x.length = 3 := fun x hx => (okc.pix x (List.mem_filter.mp hx).1).1
  generalize hown : (cs.filter fun c => decide (c ∈ L)) = own at hm hf hpix ⊢
  refine ExP.cons (S1.for hA'.handled plain1 (fun _ => rfl) rfl (it_range3 G hA'.handled rfl ?_))
  refine ⟨fun i m r => m = [] ∧ Wk r [("own", lotD own), ("colour", tupI c)], ⟨rfl, by walk_at "m wk"⟩, ?_, ?_⟩
  · rintro k d m r hid ⟨rfl, wk⟩
    have hk : k < 3 := by
      have := (List.getElem?_eq_some_iff.mp hid).1
      simpa using this
    have hdk : d = .int (k : Int) := by
      have : ((List.range 3).map fun i : Nat => D.int (i : Int))[k]? = some (.int (k : Int)) := by rw [List.getElem?_map, List.getElem?_range hk]; rfl
      rw [this] at hid
      exact (Option.some.inj hid).symm
    subst hdk
    refine ⟨_, tgt1, tau1 (storB rfl), fun W => ExP.weak (Wk.app _ wk) ?_⟩
    refine ExP.cons (S1.assign (.inl rfl) rfl ?_)
    walk_at "m call"
    walk_at "m args"
    refine ev_overLot own (fun _ => true) (fun c => c.getD k 0) D.int hA'.handled (scopeOk_of rfl (by decide) (by rfl)) (fun _ => rfl) (by omega) rfl (by walk_at "m e"; rfl) (fun c hc La cs U => ⟨.inl rfl, rfl, fun _ => ?_⟩) ?_
    · exact ev_colk (hpix c hc) hk (by walk_at "m e"; rfl) (by walk_at "m e"; rfl) rfl
    rw [List.filter_eq_self.mpr (fun _ _ => rfl)]
    walk_at "m args"
    refine OpN.toT (Op1.toN (call_sum hA'.handled ?_))
    refine ExP.cons (S1.ite (TsP.cmp rfl ?_))
    walk_at "m call"
    walk_at "m args"
    walk_at "m e"
    walk_at "m e"
    walk_at "m e"
    walk_at "m e"
    walk_at "m call"
    repeat walk_at "m s"
    refine OpN.toT (Op1.toN (call_len (by simp; omega) ?_))
    rw [List.length_map]
    refine ev_colk hc.1 hk (by walk_at "m e"; rfl) (by walk_at "m e"; rfl) ?_
    refine op_mul (mulOk_left (by omega)) ?_
    repeat walk_at "m s"
    refine op_mul (mulOk_left (by decide)) ?_
    repeat walk_at "m s"
    refine OpN.toT (Op1.toN (call_abs ?_))
    walk_at "m call"
    repeat walk_at "m s"
    refine OpN.toT (Op1.toN (call_len (by simp; omega) ?_))
    rw [List.length_map]
    refine op_gt (Truth.bool ?_)
    have hk' := hm k hk
    have hsum : (own.map fun c => c.getD k 0).sum = (vals own k).sum := rfl
    rw [hsum, decide_eq_false (by split <;> omega)]
    simp only [Bool.false_eq_true, if_false]
    exact ExP.nil (ExP.nil ⟨rfl, by walk_at "m wk"⟩)
  · rintro m r ⟨rfl, wk⟩
    refine ExP.weak wk ?_
    refine ExP.cons (S1.ret ?_)
    walk_at "m e"
    rfl
end
noncomputable def D.asLot : D → Lot
  | .lst ds => ds.map D.asInts
  | _ => []
theorem asLot_lotD (L : Lot) : (lotD L).asLot = L := by
  show (L.map tupI).map D.asInts = L
  rw [List.map_map]
  exact (List.map_congr_left fun p _ => asInts_tupI p).trans (List.map_id L)
noncomputable abbrev Lots := List Lot
noncomputable def lotsD (Ls : Lots) : D := .lst (Ls.map lotD)
noncomputable def lworths (Ls : Lots) (many : Int) (cs : Lot) : List Int := Ls.map fun L => lworth L Ls.length many cs
noncomputable def latOf (Ls : Lots) (many : Int) (cs : Lot) : Nat := (lworths Ls many cs).idxOf (maxL (lworths Ls many cs))
noncomputable def lparts (L : Lot) : List Nat := [1, 0, 2].filter fun k => (lsides L).getD k 0 == maxL (lsides L)
noncomputable def lpart (L : Lot) : Nat := (lparts L).getD 0 0
noncomputable def lmid (L : Lot) : Int := (minL (vals L (lpart L)) + maxL (vals L (lpart L))).fdiv 2
noncomputable def llower (L : Lot) : Lot := L.filter fun c => decide (c.getD (lpart L) 0 ≤ lmid L)
noncomputable def lupper (L : Lot) : Lot := L.filter fun c => decide (c.getD (lpart L) 0 > lmid L)
noncomputable def lcutAt (Ls : Lots) (i : Nat) : Lots := Ls.take i ++ [llower (Ls.getD i []), lupper (Ls.getD i [])] ++ Ls.drop (i + 1)
noncomputable def lcut (Ls : Lots) (many : Int) (cs : Lot) : Lots := lcutAt Ls (latOf Ls many cs)
theorem lsides_get (L : Lot) {k : Nat} (hk : k < 3) : (lsides L).getD k 0 = lside L k := by
  unfold lsides
  rw [List.getD_eq_getElem?_getD, List.getElem?_map, List.getElem?_range hk]; rfl
theorem lparts_ne (L : Lot) : lparts L ≠ [] := by
  have h := (maxL_spec (l := lsides L) (by simp [lsides])).1
  unfold lsides at h
  obtain ⟨k, hk, e⟩ := List.mem_map.mp h
  have hk3 := List.mem_range.mp hk
  have hm : k ∈ [1, 0, 2] := by
    match k, hk3 with
    | 0, _ => simp
    | 1, _ => simp
    | 2, _ => simp
  refine List.ne_nil_of_mem (a := k) (List.mem_filter.mpr ⟨hm, ?_⟩)
  rw [lsides_get L hk3]
  show (lside L k == maxL (lsides L)) = true
  rw [show lside L k = maxL (lsides L) from e]
  simp
theorem lpart_mem (L : Lot) : lpart L ∈ lparts L := by
  unfold lpart
  obtain ⟨a, r, e⟩ := List.exists_cons_of_ne_nil (lparts_ne L)
  rw [e]; simp
theorem lpart_lt (L : Lot) : lpart L < 3 := by
  have := (List.mem_filter.mp (lpart_mem L)).1
  have h : ∀ k ∈ ([1, 0, 2] : List Nat), k < 3 := by decide
  exact h _ this
theorem head0 : ∀ (l : List Nat) (h : (0 : Int).toNat < l.length), l[(0 : Int).toNat] = l.getD 0 0
  | _ :: _, _ => rfl
theorem lat_lt {Ls : Lots} {many : Int} {cs : Lot} (h : Ls ≠ []) : latOf Ls many cs < Ls.length := by
  have hm := (maxL_spec (l := lworths Ls many cs) (fun e => h (List.map_eq_nil_iff.mp e))).1
  have := List.idxOf_lt_length_iff.mpr hm
  unfold latOf
  rw [show (lworths Ls many cs).length = Ls.length from by simp [lworths]] at this
  exact this
section
variable {prog : Program} {w : World} {hb : Heap} {S : List Addr} {A : Around} {cx : Cx} {mu : List MD} {ρ : Rho}
theorem op_index {ns : List Int} {k : Int} {K : D → Prop} (hl : ns.length ≤ 1000) (hk : k ∈ ns) (h : K (.int (ns.idxOf k : Nat))) :
    Op2 prog w hb S A (fun u v => call (.builtin "list.index") [u, v]) (.lst (ns.map D.int)) (.int k) K := fun N u v i j U s E H => by
  cases i with
  | @lst l o vs n _ ho hc hn hd r =>
    cases j with
    | int _ t =>
      obtain ⟨cls, dd, data, sl⟩ := o
      simp only at hc hd
      subst hc hd
      have hi := intsAre_of r
      have hlen := hi.length
      have hj : ns.idxOf k < ns.length := List.idxOf_lt_length_iff.mpr hk
      refine call_meets PySem.F.slot_list_index ⟨_, H.led _ _ ho, rfl⟩ PySem.F.entry_list_index (PySem.F.args_list_index_2 _ _)
        (SeqAt.list_indexAt l vs.toArray n dd sl (.int k t) (isInt k) (ns.idxOf k) (by simpa [hlen] using hj) (by omega) ?_ ?_) ⟨H.led _ _ ho, fun y hy => (eq_isInt k t hi y (by simpa using hy)).at _ _, s.heap, s.toks + 1, N, rfl, Sub.refl N, H, _, .int _ _, h⟩
      · show isInt k vs[ns.idxOf k] = true
        rw [isInt_at k hi _ (by omega) hj]
        simpa using List.getElem_idxOf hj
      · intro j hjs hlt
        show isInt k vs[j] = false
        rw [isInt_at k hi j (by simpa using hjs) (by omega)]
        exact ne_of_lt_idxOf hlt _
theorem ev_lot {x y : Str} {p q pos : Pos} {Ls : Lots} {i : Nat} {K : D → Prop} (hi : i < Ls.length) (hl : Ls.length ≤ 100) (hx : EvP prog w cx mu ρ (.Name x p) fun d => d = lotsD Ls) (hy : EvP prog w cx mu ρ (.Name y q) fun d => d = .int (i : Int)) (h : K (lotD (Ls.getD i []))) :
    EvP prog w cx mu ρ (.Subscript (.Name x p) (.Name y q) pos) K := by
  refine EvP.sub (fun _ _ => ⟨_, rfl⟩) (hx.mono fun d e => hy.mono fun d' e' => ?_)
  subst e e'
  refine SubP.lstM (by omega) (by simpa using hi) (by omega) ?_
  rw [List.getD_eq_getElem?_getD, List.getElem?_eq_getElem hi] at h
  simpa using h
set_option maxHeartbeats 2000000 in
theorem c_lcut (G : Gd (hk.heap_1 w.params) hb) (hA : AOk 18 A) (Ls : Lots) (cs : Lot) (many : Int) (ok : ∀ L ∈ Ls, PixOk L) (okc : PixOk cs) (hne : Ls ≠ []) (hl : Ls.length ≤ 100) :
    OpN prog w hb S A (fun vs => call (.ref 234) vs) [lotsD Ls, .int many, lotD cs] fun d => d = lotsD (lcut Ls many cs) := by
  refine fn_at (ps := ["lots", "many", "colours"]) G hA (by decide) (by rfl) (by kernel_rfl) (by rfl) (len3 fun a b c => by kernel_rfl) rfl ?_
  intro La U hA'
  have hat := lat_lt (many := many) (cs := cs) hne
  have hpos : 0 < (lworths Ls many cs).length := List.length_pos_iff.mpr fun e => hne (List.map_eq_nil_iff.mp e)
  refine ExP.cons (S1.compM Ls lotD D.asLot (fun L _ => asLot_lotD L) (fun _ => true) (fun L => D.int (lworth L Ls.length many cs)) (fun L => [("lot", lotD L)]) hA'.handled (scopeOk_of rfl (by decide) (by rfl)) plain1 (fun _ => rfl) (by omega) (.inl rfl) rfl (EvIt.lst hA'.handled (by walk_at "m e"; exact ⟨_, rfl, rfl⟩)) (fun L hL => ⟨tgt1, tau1 rfl, fun L2 cs2 U2 => ⟨tau1 (.inl rfl), rfl, fun _ => ?_⟩⟩) ?_)
  · walk_at "m call"
    repeat walk_at "m s"
    walk_at "m call"
    repeat walk_at "m s"
    refine OpN.toT (Op1.toN (call_len (by rw [List.length_map]; omega) ?_))
    rw [List.length_map]
    repeat walk_at "m s"
    exact OpN.toT (c_worth G (hA'.to (by decide)) L cs (ok L hL) okc _ _)
  have ew : (Ls.filter fun _ => true).map (fun L => D.int (lworth L Ls.length many cs)) = (lworths Ls many cs).map D.int := by
    rw [List.filter_eq_self.mpr (fun _ _ => rfl)]
    unfold lworths
    rw [List.map_map]; rfl
  rw [ew]
  refine ExP.cons (S1.assign (.inl rfl) rfl ?_)
  refine EvP.methL PySem.F.slot_list_index PySem.F.type_list_index rfl rfl rfl ?_
  walk_at "m e"
  refine ⟨_, rfl, ?_⟩
  walk_at "m call"
  repeat walk_at "m s"
  refine OpN.toT (Op1.toN (call_max hA'.handled hpos fun m h1 h2 => ?_))
  rw [maxL_of h1 h2]
  refine op_index (by simp [lworths]; omega) (maxL_spec (List.length_pos_iff.mp hpos)).1 ?_
  change Then _ _ _ _ _ (.next [] (("at", D.int (latOf Ls many cs : Nat)) :: _))
  generalize hi : latOf Ls many cs = i at hat ⊢
  have okL : PixOk (Ls.getD i []) := by
    rw [List.getD_eq_getElem?_getD, List.getElem?_eq_getElem hat]; exact ok _ (List.getElem_mem hat)
  have hL12 := okL.len
  have hk := lpart_lt (Ls.getD i [])
  refine ExP.cons (S1.assign (storB rfl) rfl ?_)
  walk_at "m call"
  walk_at "m args"
  refine ev_lot (Ls := Ls) (i := i) hat hl (by walk_at "m e"; rfl) (by walk_at "m e"; rfl) ?_
  walk_at "m args"
  refine OpN.toT ((c_sides G (hA'.to (by decide)) _ okL).mono fun d e => ?_)
  subst e
  refine ExP.cons (S1.assign (storB rfl) rfl ?_)
  walk_at "m e"
  refine EvP.compM [1, 0, 2] (fun k : Nat => D.int (k : Int)) (fun d => d.asInt.toNat) (fun _ _ => by rfl) (fun k => (lsides (Ls.getD i [])).getD k 0 == maxL (lsides (Ls.getD i []))) (fun k : Nat => D.int (k : Int)) (fun k => [("one", D.int (k : Int))]) hA'.handled (scopeOk_of rfl (by decide) (by rfl)) plain1 (fun _ => rfl) (by decide) ?_ ?_ ?_
  · refine EvIt.lst hA'.handled ?_
    walk_at "m e"
    repeat walk_at "m s"
    exact ⟨by decide, _, rfl, rfl⟩
  · intro k hk'
    have hk3 : k < 3 := by
      have h : ∀ k ∈ ([1, 0, 2] : List Nat), k < 3 := by decide
      exact h k hk'
    refine ⟨tgt1, tau1 rfl, fun L2 cs2 U2 => ⟨tau1 (.inl rfl), ?_, fun _ => ?_⟩⟩
    · refine TsP.cmp rfl ?_
      walk_at "m e"
      walk_at "m e"
      walk_at "m e"
      refine SubP.lstI (by omega) (by simp [lsides]; omega) (by simp [lsides]) ?_
      walk_at "m call"
      repeat walk_at "m s"
      refine OpN.toT (Op1.toN (call_max hA'.handled (by simp [lsides]) fun m h1 h2 => ?_))
      rw [maxL_of h1 h2]
      simp only [Int.toNat_natCast]
      exact op_eq (Truth.bool rfl)
    · walk_at "m e"; rfl
  walk_at "m e"
  have hlp : 0 < (lparts (Ls.getD i [])).length := List.length_pos_iff.mpr (lparts_ne _)
  have hlp2 : (lparts (Ls.getD i [])).length ≤ 3 := List.length_filter_le _ _
  refine SubP.lstM (c := lparts (Ls.getD i [])) (by decide) hlp (by omega) ?_
  have e0 : (lparts (Ls.getD i []))[(0 : Int).toNat] = lpart (Ls.getD i []) := head0 _ hlp
  rw [e0]
  refine ExP.cons (s_overLot (Ls.getD i []) (fun _ => true) (fun c => c.getD (lpart (Ls.getD i [])) 0) D.int hA'.handled (scopeOk_of rfl (by decide) (by rfl)) (fun _ => rfl) (by omega) rfl (.inl rfl) rfl (ev_lot (Ls := Ls) (i := i) hat hl (by walk_at "m e"; rfl) (by walk_at "m e"; rfl) rfl) (fun c hc La cs U => ⟨.inl rfl, rfl, fun _ => ?_⟩) ?_)
  · exact ev_colk (okL.pix c hc).1 hk (by walk_at "m e"; rfl) (by walk_at "m e"; rfl) rfl
  rw [List.filter_eq_self.mpr (fun _ _ => rfl)]
  have hpos2 : 0 < (vals (Ls.getD i []) (lpart (Ls.getD i []))).length := List.length_pos_iff.mpr (vals_ne okL _)
  refine ExP.cons (S1.assign (storB rfl) rfl ?_)
  walk_at "m e"
  walk_at "m e"
  walk_at "m call"
  repeat walk_at "m s"
  refine OpN.toT (Op1.toN (call_min hA'.handled hpos2 fun m h1 h2 => ?_))
  rw [show m = minL (vals (Ls.getD i []) (lpart (Ls.getD i []))) from minL_of h1 h2]
  walk_at "m call"
  repeat walk_at "m s"
  refine OpN.toT (Op1.toN (call_max hA'.handled hpos2 fun m h1 h2 => ?_))
  rw [show m = maxL (vals (Ls.getD i []) (lpart (Ls.getD i []))) from maxL_of h1 h2]
  repeat walk_at "m s"
  refine op_fdiv (by decide) (by decide) ?_
  change Then _ _ _ _ _ (.next [] (("middle", D.int (lmid (Ls.getD i []))) :: _))
  refine ExP.cons (s_overLot (Ls.getD i []) (fun c => decide (c.getD (lpart (Ls.getD i [])) 0 ≤ lmid (Ls.getD i []))) (fun c => c) tupI hA'.handled (scopeOk_of rfl (by decide) (by rfl)) (fun _ => rfl) (by omega) rfl (.inl rfl) rfl (ev_lot (Ls := Ls) (i := i) hat hl (by walk_at "m e"; rfl) (by walk_at "m e"; rfl) rfl) (fun c hc La cs U => ⟨.inl rfl, ?_, fun _ => ?_⟩) ?_)
  · refine TsP.cmp rfl ?_
    refine ev_colk (okL.pix c hc).1 hk (by walk_at "m e"; rfl) (by walk_at "m e"; rfl) ?_
    walk_at "m e"
    exact op_le (Truth.bool rfl)
  · walk_at "m e"; rfl
  rw [List.map_id']
  refine ExP.cons (s_overLot (Ls.getD i []) (fun c => decide (c.getD (lpart (Ls.getD i [])) 0 > lmid (Ls.getD i []))) (fun c => c) tupI hA'.handled (scopeOk_of rfl (by decide) (by rfl)) (fun _ => rfl) (by omega) rfl (.inl rfl) rfl (ev_lot (Ls := Ls) (i := i) hat hl (by walk_at "m e"; rfl) (by walk_at "m e"; rfl) rfl) (fun c hc La cs U => ⟨.inl rfl, ?_, fun _ => ?_⟩) ?_)
  · refine TsP.cmp rfl ?_
    refine ev_colk (okL.pix c hc).1 hk (by walk_at "m e"; rfl) (by walk_at "m e"; rfl) ?_
    walk_at "m e"
    exact op_gt (Truth.bool rfl)
  · walk_at "m e"; rfl
  rw [List.map_id']
  refine ExP.cons (S1.ret ?_)
  walk_at "m e"
  walk_at "m e"
  refine EvP.sliceTo (fun _ _ => rfl) ?_
  walk_at "m e"
  walk_at "m e"
  refine ⟨Ls.map lotD, (i : Int), rfl, rfl, by omega, by rw [List.length_map]; omega, ?_⟩
  repeat walk_at "m s"
  refine ⟨by simp, ?_⟩
  refine op_cat (by simp; omega) ?_
  refine EvP.sliceFrom (fun _ _ => rfl) ?_
  walk_at "m e"
  repeat walk_at "m s"
  refine ⟨Ls.map lotD, (i : Int) + 1, rfl, rfl, by omega, by rw [List.length_map]; omega, ?_⟩
  refine op_cat (by simp; omega) ?_
  show D.lst _ = lotsD (lcut Ls many cs)
  rw [show lcut Ls many cs = lcutAt Ls i from by unfold lcut; rw [hi]]
  unfold lcutAt lotsD llower lupper
  rw [show ((i : Int) + 1).toNat = i + 1 from by omega, show (i : Int).toNat = i from by omega]
  simp [List.map_take, List.map_drop, lotD]
end
section
variable {prog : Program} {w : World}
mutual
theorem DIn.monoS {S S' : List Addr} {N : Facts} (hs : ∀ a ∈ S, a ∈ S') : ∀ {v : Value} {d : D}, DIn prog w S N v d → DIn prog w S' N v d
  | _, _, .none => .none
  | _, _, .bool b => .bool b
  | _, _, .int i t => .int i t
  | _, _, .tup h c e r => .tup h c e (DAll.monoS hs r)
  | _, _, .lst h c q e r => .lst h c q e (DAll.monoS hs r)
  | _, _, .obj h k f r => .obj h k f (DAll.monoS hs r)
  | _, _, .dct q h k => .dct q h k
  | _, _, .src h => .src (hs _ h)
  | _, _, .adr a => .adr a
  | _, _, .rng t u v h => .rng t u v h
theorem DAll.monoS {S S' : List Addr} {N : Facts} (hs : ∀ a ∈ S, a ∈ S') : ∀ {vs : List Value} {ds : List D}, DAll prog w S N vs ds → DAll prog w S' N vs ds
  | _, _, .nil => .nil
  | _, _, .cons h r => .cons (DIn.monoS hs h) (DAll.monoS hs r)
end
/-- a body told flow by flow -/
noncomputable def RwP (prog : Program) (w : World) (cx : Cx) (mu : List MD) (ρ : Rho) (ss : List Stmt) (P : Facts → Heap → Flow → Prop) : Prop :=
  ∀ N s E, St prog w cx mu ρ N s.heap → wpAny (model prog w) cx.A (execs ss cx.env) (fun f s' => ∃ h tk N', s' = { s with heap := h, toks := tk } ∧ Sub N N' ∧ P N' h f) E s
theorem RwP.cons {cx : Cx} {mu : List MD} {ρ : Rho} {st : Stmt} {rest : List Stmt} {P : Facts → Heap → Flow → Prop} (h : S1 prog w cx mu ρ st fun o => match o with | .next mu' ρ' => RwP prog w cx mu' ρ' rest P | _ => False) : RwP prog w cx mu ρ (st :: rest) P := by
  intro N s E H
  refine wpAny_execs_cons (wpAny_mono (h N s E H) (fun f s' x => ?_) fun _ _ e => e)
  obtain ⟨h', tk, N', rfl, sb, fl⟩ := x
  cases f with
  | next =>
    obtain ⟨mu', ρ', H', k⟩ := fl
    refine wpAny_mono (k N' _ E H') (fun f s'' y => ?_) fun _ _ e => e
    obtain ⟨h'', tk', N'', rfl, sb', p⟩ := y
    exact ⟨h'', tk', N'', rfl, sb.trans sb', p⟩
  | brk => obtain ⟨mu', ρ', H', k⟩ := fl; exact k.elim
  | cont => obtain ⟨mu', ρ', H', k⟩ := fl; exact k.elim
  | ret v => obtain ⟨d, a, b, k⟩ := fl; exact k.elim
theorem S1.mono {cx : Cx} {mu : List MD} {ρ : Rho} {st : Stmt} {K K' : Oc → Prop} (x : S1 prog w cx mu ρ st K) (hk : ∀ o, K o → K' o) : S1 prog w cx mu ρ st K' :=
  fun N s E H => wpAny_mono (x N s E H) (fun _ _ ⟨h, tk, N', e, sb, f⟩ => ⟨h, tk, N', e, sb, f.mono hk⟩) fun _ _ e => e
theorem RwP.weak {cx : Cx} {mu : List MD} {ρ ρ' : Rho} {ss : List Stmt} {P : Facts → Heap → Flow → Prop} (hw : Wk ρ ρ') (h : RwP prog w cx mu ρ' ss P) : RwP prog w cx mu ρ ss P := fun N s E H => h N s E (H.weak hw)
/-- a def of the program is called, its end told by hand -/
theorem fn_atR {Kf : Frag} {hb : Heap} {S : List Addr} {A : Around} {n : Nat} {fa : Addr} {oc : Value} {od : Option Addr} {sl : Array (Option Value)} {name q : Str} {pa : Arguments} {body : List Stmt} {sc : Scope} {dV kV doc pm cd ct : Value} {an : Option Addr} {ps : List Str} {ds : List D} {P : Facts → Heap → Value → Prop} {N : Facts} {vs : List Value} {U : Led} {s : Shared}
    (G : Gd Kf hb) (hA : AOk n A) (hn : n ≤ 40)
    (ho : Kf.lookup fa = some ⟨oc, od, .func ⟨name, q, pa, .stmts body, sc, mainGlobals, [], dV, kV, doc, pm, an, cd, ct, builtinsNs⟩, sl⟩) (hcd : codeIn Kf cd q = true) (hsc : scOk sc ps = true)
    (hb' : ∀ vs : List Value, vs.length = ps.length → bindArgs ⟨name, q, pa, .stmts body, sc, mainGlobals, [], dV, kV, doc, pm, an, cd, ct, builtinsNs⟩ ⟨vs, []⟩ = pure (ps.zip vs)) (hlen : ds.length = ps.length)
    (hv : DAll prog w S N vs ds) (H : Hp hb S U N s.heap)
    (h : ∀ L, AOk (n + 1) (Cx.go hb S A sc q cd L fa U).A → RwP prog w (Cx.go hb S A sc q cd L fa U) [] (ps.zip ds) body fun N' h f => ∃ v, f = .ret v ∧ P N' h v) :
    codeAny (model prog w) A (.call (.ref fa) ⟨vs, []⟩) (fun r s' => ∃ v h tk N', r = .ok (.ret v) ∧ s' = { s with heap := h, toks := tk } ∧ Sub N N' ∧ P N' h v) s := by
  refine fn_raw (mu := []) (Lm := []) (U := U) (fnOk_of G.X ho hcd hsc hb') (Nat.lt_of_succ_lt (hA.room (by omega))) G.nolimit hlen hv rfl H fun L h₁ tk₁ E' st => ?_
  refine wpAny_mono (h L (hA.deeper _) N { s with heap := h₁, toks := tk₁ } E' st) (fun f s' x => ?_) fun _ _ e => e
  obtain ⟨h₂, tk₂, N₂, rfl, sb, v, rfl, p⟩ := x
  exact ⟨v, h₂, tk₂, N₂, rfl, rfl, sb, p⟩
theorem S1.nil_ite {cx : Cx} {mu : List MD} {ρ : Rho} {K : Oc → Prop} (k : K (.next mu ρ)) : ExP prog w cx mu ρ [] K := ExP.nil k
theorem EvP.neg {cx : Cx} {mu : List MD} {ρ : Rho} {e : Expr} {pos : Pos} {i : Int} {K : D → Prop} (h : EvP prog w cx mu ρ e fun d => d = .int i) (k : K (.int (-i))) : EvP prog w cx mu ρ (.UnaryOp .USub e pos) K := by
  intro N s E H
  refine wpAny_UnaryOp (wpAny_mono (h N s E H) (fun a s₁ x => ?_) fun _ _ e => e)
  obtain ⟨h₁, tk₁, N₁, rfl, sb₁, H₁, d₁, i₁, rfl⟩ := x
  cases i₁ with
  | int _ t => exact PyProof.Rows.neg_int ⟨h₁, tk₁ + 1, N₁, rfl, sb₁, H₁, _, .int _ _, k⟩
end
theorem log_of {a b : Int} (h : a.natAbs.log2 < 2 ^ 20 + 10) (hb : b.natAbs ≤ a.natAbs + 1) : b.natAbs.log2 < 2 ^ 21 := by
  by_cases hz : b.natAbs = 0
  · rw [hz]; decide
  · rw [Nat.log2_lt hz]
    by_cases ha : a.natAbs = 0
    · rw [ha] at hb
      exact Nat.lt_of_le_of_lt hb (Nat.lt_of_lt_of_le (by decide : 0 + 1 < 2 ^ 1) (Nat.pow_le_pow_right (by decide) (by decide)))
    · rw [Nat.log2_lt ha] at h
      have h3 : 2 ^ (2 ^ 20 + 10) < 2 ^ (2 ^ 21) := Nat.pow_lt_pow_right (by decide) (by decide)
      exact Nat.lt_of_le_of_lt hb (Nat.lt_of_le_of_lt h h3)
section
variable {prog : Program} {w : World} {hb : Heap} {S : List Addr} {A : Around} {cx : Cx} {mu : List MD} {ρ : Rho}
set_option maxHeartbeats 1000000 in
theorem c_pool (G : Gd (hk.heap_1 w.params) hb) (hA : AOk 15 A) (ns : List Int) (hn : ns.length ≤ 1000) (hbits : ∀ z ∈ ns, z.natAbs.log2 < 2 ^ 20 + 10) (N : Facts) (vs : List Value) (hv : DAll prog w S N vs [lstI ns, .int 0]) (U : Led) (s : Shared) (E : Value → Shared → Prop) (H : Hp hb S U N s.heap) :
    wpAny (model prog w) A (call (.ref 195) vs) (fun v s' => ∃ h tk N', s' = { s with heap := h, toks := tk } ∧ Sub N N' ∧ ∃ a, v = .ref a ∧ Hp hb (a :: S) U N' h) E s := by
  refine wpAny_call (codeAny_mono (fn_atR (ps := ["script", "k"]) (ds := [lstI ns, .int 0]) (U := U) (P := fun N' h v => ∃ a, v = .ref a ∧ Hp hb (a :: S) U N' h) G hA (by decide) (by rfl) (by kernel_rfl) (by rfl) (len2 fun a b => by kernel_rfl) rfl hv H fun L hA' => ?body) fun r s' x => ?post)
  case post =>
    obtain ⟨v, h, tk, N', rfl, rfl, sb, p⟩ := x
    exact ⟨h, tk, N', rfl, sb, p⟩
  refine RwP.cons (S1.assign (.inl rfl) rfl ?_)
  walk_at "m e"
  refine RwP.cons (S1.mono (K := fun o => ∃ (z : Int) (ρ' : Rho), o = .next [] ρ' ∧ z.natAbs.log2 < 2 ^ 20 + 10 ∧ Wk ρ' [("cell", D.int z), ("script", lstI ns), ("k", D.int 0)]) ?_ fun o ho => ?_)
  · refine S1.ite (TsP.cmp rfl ?_)
    walk_at "m e"
    walk_at "m call"
    repeat walk_at "m s"
    refine OpN.toT (Op1.toN (call_len (by rw [List.length_map]; exact hn) ?_))
    rw [List.length_map]
    refine op_lt (Truth.bool ?_)
    cases hc : decide ((0 : Int) < (ns.length : Int)) with
    | true =>
      simp only [if_true]
      have hl : 0 < ns.length := by have := of_decide_eq_true hc; omega
      refine ExP.cons (S1.assign (.inl rfl) rfl ?_)
      repeat walk_at "m s"
      refine SubP.lstI (by decide) hl (by omega) ?_
      have hmem : ns.getD (0 : Int).toNat 0 ∈ ns := by
        rw [List.getD_eq_getElem?_getD, List.getElem?_eq_getElem (show (0 : Int).toNat < ns.length from hl)]
        exact List.getElem_mem _
      exact ExP.nil ⟨_, _, rfl, hbits _ hmem, by walk_at "m wk"⟩
    | false =>
      simp only [Bool.false_eq_true, if_false]
      exact ExP.nil ⟨0, _, rfl, by decide, by walk_at "m wk"⟩
  obtain ⟨z, ρ', rfl, hz, wk⟩ := ho
  refine RwP.weak wk ?_
  refine RwP.cons (S1.assign (.inl rfl) rfl ?_)
  walk_at "m call"
  walk_at "m args"
  walk_at "m call"
  repeat walk_at "m s"
  refine OpN.toT (Op1.toN (call_int ?_))
  walk_at "m args"
  walk_at "m call"
  walk_at "m args"
  walk_at "m e"
  refine EvP.neg (by walk_at "m e"; rfl) ?_
  repeat walk_at "m s"
  refine OpN.toT (Op1.toN (call_int ?_))
  walk_at "m args"
  refine OpN.toT (Op2.toN (call_max2 hA'.handled ?_))
  have hb0 : 0 ≤ max z (-1 - z) := by omega
  have hbl : (max z (-1 - z)).natAbs.log2 < 2 ^ 21 := log_of hz (by omega)
  generalize max z (-1 - z) = big at hb0 hbl ⊢
  refine RwP.cons (S1.assign (.inl rfl) rfl ?_)
  walk_at "m e"
  walk_at "m call"
  walk_at "m args"
  walk_at "m e"
  walk_at "m e"
  walk_at "m e"
  walk_at "m e"
  walk_at "m e"
  walk_at "m call"
  repeat walk_at "m s"
  refine OpN.toT (Op1.toN (call_int ?_))
  walk_at "m e"
  refine op_mod (by decide) ?_
  walk_at "m e"
  walk_at "m e"
  walk_at "m e"
  walk_at "m e"
  refine op_mul (mulOk_left (by decide)) ?_
  walk_at "m e"
  refine op_mul (mulOk_right (by decide)) ?_
  walk_at "m o"
  walk_at "m e"
  walk_at "m e"
  walk_at "m e"
  refine op_mul (mulOk_left (by decide)) ?_
  walk_at "m o"
  walk_at "m e"
  walk_at "m o"
  walk_at "m e"
  refine op_mul (mulOk_right (by decide)) ?_
  walk_at "m args"
  refine OpN.toT (Op1.toN (call_int ?_))
  walk_at "m e"
  have hmix := fmod_b (a := (big.fmod 2147483629 + 7919 * 0 * 0 + 31 * 0 + 17) * 48271) (t := 2147483647) (by decide)
  refine op_mod (by decide) ?_
  generalize ((big.fmod 2147483629 + 7919 * 0 * 0 + 31 * 0 + 17) * 48271).fmod 2147483647 = mixed at hmix ⊢
  -- the return: a new source
  intro N₂ s₂ E₂ H₂
  refine wpAny_execs_cons (wpAny_Return_some (wpAny_List (wpAny_mono ((?args : ArgsP prog w _ _ _ _ (fun ds => ∃ x : Int, ds = [.int x, .int mixed] ∧ 0 ≤ x ∧ x.natAbs.log2 < 2 ^ 21)) N₂ _ s₂ _ H₂) (fun vs s₃ y => ?_) fun _ _ e => e)))
  case args =>
    walk_at "m args"
    walk_at "m e"
    walk_at "m e"
    walk_at "m call"
    walk_at "m args"
    walk_at "m e"
    walk_at "m e"
    repeat walk_at "m s"
    refine op_pow (by decide) (by decide) (by decide) ?_
    refine op_ge ?_
    walk_at "m args"
    refine OpN.toT (Op1.toN (call_intb ?_))
    cases decide (big ≥ 10 ^ (18 : Int).toNat) with
    | true =>
      refine op_mul (mulOk_right (by decide)) ?_
      walk_at "m args"
      walk_at "m e"
      walk_at "m args"
      exact ⟨_, rfl, by simpa using hb0, by simpa using hbl⟩
    | false =>
      refine op_mul (mulOk_right (by decide)) ?_
      walk_at "m args"
      walk_at "m e"
      walk_at "m args"
      exact ⟨_, rfl, by simp, by simp⟩
  obtain ⟨h₃, tk₃, N₃, rfl, sb₃, H₃, ds, is, x, rfl, hx0, hxl⟩ := y
  cases is with
  | cons i1 r1 =>
    cases r1 with
    | cons i2 r2 =>
      cases r2
      cases i1 with
      | int _ t1 =>
        cases i2 with
        | int _ t2 =>
          refine ⟨by rw [sizeLine_eq]; simp, ?_⟩
          have HU : Hp hb S U N₃ h₃ := H₃.hpU
          have H4 := HU.pushU (listOf #[.int x t1, .int mixed t2] 0)
          refine ⟨_, tk₃, N₃, rfl, sb₃, _, rfl, h₃.objs.size, rfl, ?_⟩
          refine ⟨H4.base, H4.led, fun p hp => H4.ledU p (.tail _ hp), HU.nodup, fun b o hb' hm => H4.off b o hb' (.tail _ hm), fun b hb' => ?_⟩
          rcases List.mem_cons.mp hb' with rfl | hb'
          · refine ⟨⟨_, H4.ledU _ (.head _), x, mixed, t1, t2, 0, rfl, rfl, hx0, hxl, hmix.1, hmix.2⟩, HU.freshU (get_none_size h₃), fun o ho => ?_⟩
            have := HU.led _ _ ho
            rw [get_none_size] at this
            cases this
          · obtain ⟨q1, q2, q3⟩ := H4.src b hb'
            exact ⟨q1, fun hm => q2 (.tail _ hm), q3⟩
end
-- the sums over a lot
theorem sum_in (f : List Int → Int) (cs : Lot) : ∀ L : Lot, L.Nodup → ((cs.filter fun c => decide (c ∈ L)).map f).sum = (L.map fun c => (cs.count c : Int) * f c).sum
  | [], _ => by
    rw [List.filter_eq_nil_iff.mpr (by simp)]; rfl
  | a :: L, hn => by
    obtain ⟨h1, h2⟩ := List.nodup_cons.mp hn
    have ih := sum_in f cs L h2
    rw [List.map_cons, List.sum_cons, ← ih]
    clear ih
    induction cs with
    | nil => simp
    | cons c cs ih =>
      by_cases e : c = a
      · subst e
        have hnm : decide (c ∈ L) = false := by simpa using h1
        rw [List.filter_cons, if_pos (by simp), List.filter_cons, if_neg (by simp [h1]), List.map_cons, List.sum_cons, ih, List.count_cons_self]
        rw [Int.natCast_add, Int.natCast_one, Int.add_mul, Int.one_mul]
        omega
      · rw [List.count_cons_of_ne (fun q => e q)]
        by_cases hm : c ∈ L
        · rw [List.filter_cons, if_pos (by simp [hm]), List.filter_cons, if_pos (by simp [hm]), List.map_cons, List.map_cons, List.sum_cons, List.sum_cons, ih]
          omega
        · rw [List.filter_cons, if_neg (by simp [hm, e]), List.filter_cons, if_neg (by simp [hm]), ih]
theorem len_in (cs L : Lot) (h : L.Nodup) : ((cs.filter fun c => decide (c ∈ L)).length : Int) = (L.map fun c => (cs.count c : Int)).sum := by
  have := sum_in (fun _ => 1) cs L h
  rw [show (L.map fun c => (cs.count c : Int) * 1) = L.map fun c => (cs.count c : Int) from List.map_congr_left fun c _ => Int.mul_one _] at this
  rw [← this]
  generalize (cs.filter fun c => decide (c ∈ L)) = l
  induction l with
  | nil => rfl
  | cons a l ih => rw [List.map_cons, List.sum_cons, List.length_cons, ← ih]; omega
noncomputable def keysOf (c : Cnt) : Lot := c.map (·.1)
noncomputable def lotsOf (Bs : Boxes) : Lots := Bs.map keysOf
/-- a part of what was counted -/
structure PartOf (cs : Lot) (c : Cnt) : Prop where
  nd : (keysOf c).Nodup
  num : ∀ p ∈ c, p.2 = (cs.count p.1 : Int)
theorem PartOf.filter {cs : Lot} {c : Cnt} (h : PartOf cs c) (p : List Int × Int → Bool) : PartOf cs (c.filter p) :=
  ⟨List.Nodup.sublist (List.Sublist.map _ List.filter_sublist) h.nd, fun q hq => h.num q (List.mem_filter.mp hq).1⟩
theorem kvPut_nodup {kv : List (List Int × Int)} {k : List Int} {v : Int} (h : (kv.map (·.1)).Nodup) : ((kvPut kv k v).map (·.1)).Nodup := by
  unfold kvPut
  split
  · have e : (kv.map fun p => if p.1 = k then (p.1, v) else p).map (·.1) = kv.map (·.1) := by
      rw [List.map_map]
      refine List.map_congr_left fun p _ => ?_
      show (if p.1 = k then (p.1, v) else p).1 = p.1
      split <;> rfl
    rw [e]; exact h
  · rename_i hn
    rw [List.map_append, List.nodup_append]
    refine ⟨h, by simp, fun a ha b hb e => ?_⟩
    rw [List.map_cons, List.map_nil, List.mem_singleton] at hb
    obtain ⟨p, hp, e2⟩ := List.mem_map.mp ha
    apply hn
    have : ∀ l : List (List Int × Int), p ∈ l → (l.lookup p.1).isSome = true := by
      intro l
      induction l with
      | nil => intro h; cases h
      | cons x r ih =>
        obtain ⟨a', b'⟩ := x
        intro hm
        rw [lookup_cons']
        split
        · rfl
        · rename_i hne
          rcases List.mem_cons.mp hm with rfl | hm
          · exact absurd rfl hne
          · exact ih hm
    have hk : k = p.1 := by
      have e3 : p.1 = a := e2
      have e4 : b = k := hb
      rw [e3, e, e4]
    rw [hk]; exact this kv hp
theorem countL_nodup (cs : Lot) : ((countL cs).map (·.1)).Nodup := by
  unfold countL
  have : ∀ (l : Lot) (kv : List (List Int × Int)), (kv.map (·.1)).Nodup → ((l.foldl countUp kv).map (·.1)).Nodup := by
    intro l
    induction l with
    | nil => intro kv h; exact h
    | cons c l ih => intro kv h; exact ih _ (kvPut_nodup h)
  exact this cs [] List.nodup_nil
theorem counted_part (cs : Lot) : PartOf cs (countedOf cs) := by
  refine ⟨?_, fun p hp => (counted_mem hp).2⟩
  show ((countedOf cs).map (·.1)).Nodup
  rw [counted_fst]
  exact (sortedKeys_perm _).nodup_iff.mpr (countL_nodup cs)
/-- the keys of the dict that the law makes are those of the count -/
theorem dict_keys (cs : Lot) : (kvFold [] (cs.map fun c => (c, 1))).map (·.1) = (countL cs).map (·.1) := by
  unfold kvFold countL
  have key : ∀ (kv kv' : List (List Int × Int)) (c : List Int) (v v' : Int), kv.map (·.1) = kv'.map (·.1) → (kvPut kv c v).map (·.1) = (kvPut kv' c v').map (·.1) := by
    intro kv kv' c v v' h
    have fs : ∀ (kv : List (List Int × Int)) (v : Int), (kv.map fun p => if p.1 = c then (p.1, v) else p).map (·.1) = kv.map (·.1) := by
      intro kv v
      rw [List.map_map]
      refine List.map_congr_left fun p _ => ?_
      show (if p.1 = c then (p.1, v) else p).1 = p.1
      split <;> rfl
    have hs : ∀ (kv kv' : List (List Int × Int)), kv.map (·.1) = kv'.map (·.1) → (kv.lookup c).isSome = (kv'.lookup c).isSome := by
      intro kv
      induction kv with
      | nil => intro kv' h; cases kv' with | nil => rfl | cons _ _ => cases h
      | cons x r ih =>
        intro kv' h
        cases kv' with
        | nil => cases h
        | cons y r' =>
          obtain ⟨a, b⟩ := x
          obtain ⟨a', b'⟩ := y
          simp only [List.map_cons, List.cons.injEq] at h
          obtain ⟨h1, h2⟩ := h
          subst h1
          rw [lookup_cons', lookup_cons']
          split
          · rfl
          · exact ih r' h2
    unfold kvPut
    rw [hs kv kv' h]
    split
    · rw [fs, fs, h]
    · rw [List.map_append, List.map_append, h]; rfl
  have : ∀ (l : Lot) (kv kv' : List (List Int × Int)), kv.map (·.1) = kv'.map (·.1) → ((l.map fun c => ((c, 1) : List Int × Int)).foldl (fun acc p => kvPut acc p.1 p.2) kv).map (·.1) = (l.foldl countUp kv').map (·.1) := by
    intro l
    induction l with
    | nil => intro kv kv' h; exact h
    | cons c l ih => intro kv kv' h; exact ih _ _ (key _ _ _ _ _ h)
  exact this cs [] [] rfl
-- a box and its lot
theorem vals_keys (c : Cnt) (k : Nat) : vals (keysOf c) k = colK c k := by
  unfold vals keysOf colK
  rw [List.map_map]; rfl
theorem lside_keys (c : Cnt) {k : Nat} (hk : k < 3) : lside (keysOf c) k = sideOf c k := by
  unfold lside sideOf
  rw [vals_keys, lows_get c hk, highs_get c hk]
theorem lsides_keys (c : Cnt) : lsides (keysOf c) = [sideOf c 0, sideOf c 1, sideOf c 2] := by
  show [lside (keysOf c) 0, lside (keysOf c) 1, lside (keysOf c) 2] = _
  rw [lside_keys c (by decide), lside_keys c (by decide), lside_keys c (by decide)]
theorem keys_ok {c : Cnt} (h : CntOk c) : PixOk (keysOf c) :=
  ⟨fun e => h.ne (List.map_eq_nil_iff.mp e), by unfold keysOf; rw [List.length_map]; exact h.len, fun x hx => by
    obtain ⟨p, hp, rfl⟩ := List.mem_map.mp hx
    exact h.pix p hp⟩
theorem spread_zero {c : Cnt} (ok : CntOk c) : lsides (keysOf c) = [0, 0, 0] ↔ ¬ 0 < spreadOf c := by
  rw [lsides_keys, spread_sum]
  have h0 := sq_nonneg (sideOf c 0)
  have h1 := sq_nonneg (sideOf c 1)
  have h2 := sq_nonneg (sideOf c 2)
  constructor
  · intro e
    simp only [List.cons.injEq, and_true] at e
    obtain ⟨e0, e1, e2⟩ := e
    rw [e0, e1, e2]
    decide
  · intro h
    have z : ∀ x : Int, ¬ 0 < sq x → x = 0 := fun x hx => by
      by_cases q : x = 0
      · exact q
      · exact absurd (sq_pos q) hx
    rw [z _ (by omega : ¬ 0 < sq (sideOf c 0)), z _ (by omega : ¬ 0 < sq (sideOf c 1)), z _ (by omega : ¬ 0 < sq (sideOf c 2))]
theorem total_in {cs : Lot} {c : Cnt} (h : PartOf cs c) : ((cs.filter fun x => decide (x ∈ keysOf c)).length : Int) = totalOf c := by
  rw [len_in cs _ h.nd]
  unfold keysOf totalOf
  rw [List.map_map]
  refine congrArg List.sum (List.map_congr_left fun p hp => ?_)
  exact (h.num p hp).symm
noncomputable def wt (many : Int) (n : Nat) (c : Cnt) : Int := if 0 < spreadOf c then worthOf many n c else 0
theorem lworth_keys {cs : Lot} {c : Cnt} (ok : CntOk c) (h : PartOf cs c) (n : Nat) (many : Int) : lworth (keysOf c) n many cs = wt many n c := by
  unfold lworth wt worthOf
  by_cases hz : 0 < spreadOf c
  · rw [if_neg (fun e => (spread_zero ok).mp e hz), if_pos hz, total_in h]
    congr 1
    rw [lsides_keys, spread_sum]
    simp [sq, Int.pow_succ]
  · rw [if_pos ((spread_zero ok).mpr hz), if_neg hz]
theorem wt_pos {many : Int} {n : Nat} {c : Cnt} (ok : CntOk c) (h : 0 < spreadOf c) : 0 < wt many n c := by
  unfold wt worthOf
  rw [if_pos h]
  have := total_b ok
  split <;> omega
-- the choice of the box
noncomputable def wAt (many : Int) (Bs : Boxes) (i : Nat) : Int := wt many Bs.length (Bs.getD i [])
theorem nbStep_eq (many : Int) (Bs : Boxes) (s : NB) (i : Nat) (hw : 0 ≤ s.2) : nbStep many Bs s i = if wAt many Bs i > s.2 then (some i, wAt many Bs i) else s := by
  unfold nbStep wAt wt
  by_cases h : 0 < spreadOf (Bs.getD i [])
  · rw [if_pos h, if_pos h]
  · rw [if_neg h, if_neg h, if_neg (by omega)]
theorem nbAt_spec (many : Int) (Bs : Boxes) : ∀ n, 0 ≤ (nbAt many Bs n).2 ∧ (∀ j, j < n → wAt many Bs j ≤ (nbAt many Bs n).2) ∧
    match (nbAt many Bs n).1 with
    | none => (nbAt many Bs n).2 = 0
    | some i => i < n ∧ wAt many Bs i = (nbAt many Bs n).2 ∧ 0 < wAt many Bs i ∧ ∀ j, j < i → wAt many Bs j < wAt many Bs i
  | 0 => ⟨Int.le_refl _, fun j h => absurd h (Nat.not_lt_zero _), rfl⟩
  | n + 1 => by
    obtain ⟨h1, h2, h3⟩ := nbAt_spec many Bs n
    have e : nbAt many Bs (n + 1) = if wAt many Bs n > (nbAt many Bs n).2 then (some n, wAt many Bs n) else nbAt many Bs n := nbStep_eq many Bs _ n h1
    rw [e]
    by_cases hw : wAt many Bs n > (nbAt many Bs n).2
    · rw [if_pos hw]
      refine ⟨by dsimp only; omega, fun j hj => ?_, Nat.lt_succ_self _, rfl, by omega, fun j hj => ?_⟩
      · by_cases q : j = n
        · subst q; exact Int.le_refl _
        · have := h2 j (by omega); dsimp only; omega
      · have := h2 j hj; omega
    · rw [if_neg hw]
      refine ⟨h1, fun j hj => ?_, ?_⟩
      · by_cases q : j = n
        · subst q; omega
        · exact h2 j (by omega)
      · cases q : (nbAt many Bs n).1 with
        | none => rw [q] at h3; exact h3
        | some i => rw [q] at h3; exact ⟨by omega, h3.2⟩
theorem idxOf_first {l : List Int} {m : Int} : ∀ {i : Nat}, l[i]? = some m → (∀ j, j < i → l[j]? ≠ some m) → l.idxOf m = i := by
  induction l with
  | nil => intro i h; simp at h
  | cons a l ih =>
    intro i h hj
    cases i with
    | zero =>
      simp only [List.getElem?_cons_zero, Option.some.injEq] at h
      subst h; simp
    | succ i =>
      have h0 : a ≠ m := fun e => hj 0 (Nat.succ_pos _) (by simp [e])
      have hf : (a == m) = false := by simpa using h0
      rw [List.idxOf_cons, ih (i := i) (by simpa using h) fun j hlt => by simpa using hj (j + 1) (by omega), hf]
      rfl
structure BoxesOk (cs : Lot) (Bs : Boxes) : Prop where
  ok : AllOk Bs
  part : ∀ c ∈ Bs, PartOf cs c
theorem lworths_lots {cs : Lot} {Bs : Boxes} (h : BoxesOk cs Bs) (many : Int) : lworths (lotsOf Bs) many cs = Bs.map fun c => wt many Bs.length c := by
  unfold lworths lotsOf
  rw [List.map_map, List.length_map]
  exact List.map_congr_left fun c hc => lworth_keys (h.ok c hc) (h.part c hc) _ _
theorem lat_eq {cs : Lot} {Bs : Boxes} (h : BoxesOk cs Bs) {many : Int} {i : Nat} (hi : nextOf many Bs = some i) : latOf (lotsOf Bs) many cs = i := by
  have sp := nbAt_spec many Bs Bs.length
  unfold nextOf at hi
  rw [hi] at sp
  obtain ⟨h1, h2, h3, h4, h5, h6⟩ := sp
  have get : ∀ j, j < Bs.length → (Bs.map fun c => wt many Bs.length c)[j]? = some (wAt many Bs j) := fun j hj => by
    rw [List.getElem?_map, List.getElem?_eq_getElem hj]
    unfold wAt
    rw [List.getD_eq_getElem?_getD, List.getElem?_eq_getElem hj]; rfl
  unfold latOf
  rw [lworths_lots h]
  have hm : maxL (Bs.map fun c => wt many Bs.length c) = wAt many Bs i := by
    refine (maxL_of (List.mem_of_getElem? (get i h3)) fun a ha => ?_).symm
    obtain ⟨j, hj⟩ := List.getElem?_of_mem ha
    have hjl : j < Bs.length := by
      have := (List.getElem?_eq_some_iff.mp hj).1
      simpa using this
    rw [get j hjl] at hj
    rw [← Option.some.inj hj, h4]
    exact h2 j hjl
  rw [hm]
  refine idxOf_first (get i h3) fun j hj e => ?_
  rw [get j (by omega)] at e
  have := h6 j hj
  have := Option.some.inj e
  omega
theorem max3 (a b c : Int) : maxL [a, b, c] = max a (max b c) := by
  refine (maxL_of ?_ fun x hx => ?_).symm
  · simp only [List.mem_cons, List.not_mem_nil, or_false]; omega
  · simp only [List.mem_cons, List.not_mem_nil, or_false] at hx; omega
theorem lpart_keys (c : Cnt) : lpart (keysOf c) = longestOf c := by
  unfold lpart lparts
  rw [lsides_keys, max3]
  show _ = bestStep c (bestStep c 1 0) 2
  by_cases h1 : sideOf c 1 = max (sideOf c 0) (max (sideOf c 1) (sideOf c 2))
  · have e1 : bestStep c 1 0 = 1 := if_neg (by omega)
    have e2 : bestStep c 1 2 = 1 := if_neg (by omega)
    rw [e1, e2, List.filter_cons, if_pos (by simpa using h1)]
    rfl
  · rw [List.filter_cons, if_neg (by simpa using h1)]
    by_cases h0 : sideOf c 0 = max (sideOf c 0) (max (sideOf c 1) (sideOf c 2))
    · have e1 : bestStep c 1 0 = 0 := if_pos (by omega)
      have e2 : bestStep c 0 2 = 0 := if_neg (by omega)
      rw [e1, e2, List.filter_cons, if_pos (by simpa using h0)]
      rfl
    · have h2 : sideOf c 2 = max (sideOf c 0) (max (sideOf c 1) (sideOf c 2)) := by omega
      have e2 : ∀ b, b = 0 ∨ b = 1 → bestStep c b 2 = 2 := fun b hb => if_pos (by rcases hb with rfl | rfl <;> omega)
      have e1 : bestStep c 1 0 = 0 ∨ bestStep c 1 0 = 1 := by unfold bestStep; split <;> simp
      rw [e2 _ e1, List.filter_cons, if_neg (by simpa using h0), List.filter_cons, if_pos (by simpa using h2)]
      rfl
theorem lmid_keys (c : Cnt) : lmid (keysOf c) = middleOf c := by
  unfold lmid middleOf
  rw [lpart_keys, vals_keys, lows_get c (longest_lt c), highs_get c (longest_lt c)]
theorem llower_keys (c : Cnt) : llower (keysOf c) = keysOf (lowerOf c) := by
  unfold llower lowerOf keysOf
  rw [List.filter_map]
  show List.map _ (c.filter fun p => decide (p.1.getD (lpart (keysOf c)) 0 ≤ lmid (keysOf c))) = _
  rw [lpart_keys, lmid_keys]
theorem lupper_keys (c : Cnt) : lupper (keysOf c) = keysOf (upperOf c) := by
  unfold lupper upperOf keysOf
  rw [List.filter_map]
  show List.map _ (c.filter fun p => decide (p.1.getD (lpart (keysOf c)) 0 > lmid (keysOf c))) = _
  rw [lpart_keys, lmid_keys]
theorem lotsOf_get (Bs : Boxes) (i : Nat) (hi : i < Bs.length) : (lotsOf Bs).getD i [] = keysOf (Bs.getD i []) := by
  unfold lotsOf
  rw [List.getD_eq_getElem?_getD, List.getElem?_map, List.getD_eq_getElem?_getD, List.getElem?_eq_getElem hi]; rfl
/-- one step of the law is one step of the program -/
theorem lcut_eq {cs : Lot} {Bs : Boxes} (h : BoxesOk cs Bs) {many : Int} {i : Nat} (hi : nextOf many Bs = some i) : lcut (lotsOf Bs) many cs = lotsOf (cutAt Bs i) := by
  have hl := (nbAt_some hi).1
  unfold lcut lcutAt cutAt
  rw [lat_eq h hi, lotsOf_get Bs i hl, llower_keys, lupper_keys]
  unfold lotsOf
  simp [List.map_take, List.map_drop]
theorem BoxesOk.cut {cs : Lot} {Bs : Boxes} (h : BoxesOk cs Bs) {i : Nat} (hi : i < Bs.length) (hs : 0 < spreadOf (Bs.getD i [])) : BoxesOk cs (cutAt Bs i) := by
  refine ⟨h.ok.cut hi hs, fun c hc => ?_⟩
  have hp : PartOf cs (Bs.getD i []) := by
    rw [List.getD_eq_getElem?_getD, List.getElem?_eq_getElem hi]; exact h.part _ (List.getElem_mem hi)
  unfold cutAt at hc
  simp only [List.mem_append, List.mem_cons, List.not_mem_nil, or_false] at hc
  rcases hc with (hc | hc | hc) | hc
  · exact h.part c (List.mem_of_mem_take hc)
  · rw [hc]; exact hp.filter _
  · rw [hc]; exact hp.filter _
  · exact h.part c (List.mem_of_mem_drop hc)
-- how many boxes
noncomputable def sumLen (Bs : Boxes) : Nat := (Bs.map List.length).sum
theorem sumLen_cut {Bs : Boxes} {i : Nat} (hi : i < Bs.length) : sumLen (cutAt Bs i) = sumLen Bs := by
  have split : (lowerOf (Bs.getD i [])).length + (upperOf (Bs.getD i [])).length = (Bs.getD i []).length := by
    unfold lowerOf upperOf
    generalize Bs.getD i [] = c
    generalize longestOf c = k
    generalize middleOf c = m
    induction c with
    | nil => rfl
    | cons p r ih =>
      rw [List.filter_cons, List.filter_cons]
      by_cases h : p.1.getD k 0 ≤ m
      · rw [if_pos (by simpa using h), if_neg (by simpa using h), List.length_cons, List.length_cons]; omega
      · rw [if_neg (by simpa using h), if_pos (decide_eq_true (show p.1.getD k 0 > m by omega)), List.length_cons, List.length_cons]; omega
  have e : Bs = Bs.take i ++ [Bs.getD i []] ++ Bs.drop (i + 1) := by
    rw [List.getD_eq_getElem?_getD, List.getElem?_eq_getElem hi]
    simp
  have el : sumLen Bs = sumLen (Bs.take i ++ [Bs.getD i []] ++ Bs.drop (i + 1)) := by rw [← e]
  rw [el]
  unfold cutAt
  generalize Bs.getD i [] = c at split ⊢
  generalize Bs.take i = x
  generalize Bs.drop (i + 1) = y
  unfold sumLen
  simp
  omega
theorem len_le_sum {Bs : Boxes} (h : AllOk Bs) : Bs.length ≤ sumLen Bs := by
  unfold sumLen
  induction Bs with
  | nil => simp
  | cons c r ih =>
    have := ih fun c hc => h c (.tail _ hc)
    have h1 := List.length_pos_iff.mpr (h c (.head _)).ne
    rw [List.map_cons, List.sum_cons, List.length_cons]; omega
/-- a box without spread holds one colour -/
theorem single {cs : Lot} {c : Cnt} (ok : CntOk c) (h : PartOf cs c) (hs : ¬ 0 < spreadOf c) : c.length = 1 := by
  have hz := (spread_zero ok).mpr hs
  rw [lsides_keys] at hz
  simp only [List.cons.injEq, and_true] at hz
  have same : ∀ k, k < 3 → minL (colK c k) = maxL (colK c k) := fun k hk => by
    have h0 : sideOf c k = 0 := by
      match k, hk with
      | 0, _ => exact hz.1
      | 1, _ => exact hz.2.1
      | 2, _ => exact hz.2.2
    unfold sideOf at h0
    rw [lows_get c hk, highs_get c hk] at h0
    have hsh : shares.getD k 0 ≠ 0 := by
      match k, hk with
      | 0, _ => decide
      | 1, _ => decide
      | 2, _ => decide
    rcases Int.mul_eq_zero.mp h0 with q | q
    · exact absurd q hsh
    · omega
  have eqv : ∀ p ∈ c, ∀ q ∈ c, p.1 = q.1 := fun p hp q hq => by
    have hp3 := (ok.pix p hp).1
    have hq3 := (ok.pix q hq).1
    have ek : ∀ k, k < 3 → p.1.getD k 0 = q.1.getD k 0 := fun k hk => by
      have a1 := (minL_spec (colK_ne ok k)).2 _ (List.mem_map_of_mem (f := fun p : List Int × Int => p.1.getD k 0) hp)
      have a2 := (maxL_spec (colK_ne ok k)).2 _ (List.mem_map_of_mem (f := fun p : List Int × Int => p.1.getD k 0) hp)
      have b1 := (minL_spec (colK_ne ok k)).2 _ (List.mem_map_of_mem (f := fun p : List Int × Int => p.1.getD k 0) hq)
      have b2 := (maxL_spec (colK_ne ok k)).2 _ (List.mem_map_of_mem (f := fun p : List Int × Int => p.1.getD k 0) hq)
      have := same k hk
      omega
    apply List.ext_getElem (by omega)
    intro k h1 h2
    have := ek k (by omega)
    rw [List.getD_eq_getElem?_getD, List.getD_eq_getElem?_getD, List.getElem?_eq_getElem h1, List.getElem?_eq_getElem h2] at this
    exact this
  match c, ok.ne, h.nd, eqv with
  | [p], _, _, _ => rfl
  | p :: q :: r, _, nd, eqv =>
    exfalso
    have := eqv p (.head _) q (.tail _ (.head _))
    unfold keysOf at nd
    rw [List.map_cons, List.map_cons, List.nodup_cons] at nd
    exact nd.1 (by rw [this]; exact .head _)
theorem next_none {many : Int} {cs : Lot} {Bs : Boxes} (h : BoxesOk cs Bs) (hn : nextOf many Bs = none) : Bs.length = sumLen Bs ∧ ∀ c ∈ Bs, c.length = 1 := by
  have sp := nbAt_spec many Bs Bs.length
  unfold nextOf at hn
  rw [hn] at sp
  obtain ⟨h1, h2, h3⟩ := sp
  have one : ∀ c ∈ Bs, c.length = 1 := fun c hc => by
    refine single (h.ok c hc) (h.part c hc) fun hs => ?_
    obtain ⟨j, hj⟩ := List.getElem?_of_mem hc
    have hjl := (List.getElem?_eq_some_iff.mp hj).1
    have := h2 j hjl
    have hw : wAt many Bs j = wt many Bs.length c := by
      unfold wAt
      rw [List.getD_eq_getElem?_getD, hj]; rfl
    have hp := wt_pos (many := many) (n := Bs.length) (h.ok c hc) hs
    rw [hw] at this
    have h3' : (nbAt many Bs Bs.length).2 = 0 := h3
    omega
  refine ⟨?_, one⟩
  unfold sumLen
  clear h hn h1 h2 h3
  induction Bs with
  | nil => rfl
  | cons c r ih =>
    rw [List.map_cons, List.sum_cons, List.length_cons, ← ih fun c hc => one c (.tail _ hc), one c (.head _)]
    omega
-- how many boxes there are at the end
theorem cutGo_full {cs : Lot} {many : Nat} : ∀ (n : Nat) (Bs : Boxes), BoxesOk cs Bs → Bs.length + n = many → BoxesOk cs (cutGo (many : Int) n Bs) ∧ sumLen (cutGo (many : Int) n Bs) = sumLen Bs ∧ (cutGo (many : Int) n Bs).length = min many (sumLen Bs)
  | 0, Bs, h, e => by
    have := len_le_sum h.ok
    refine ⟨h, rfl, ?_⟩
    show Bs.length = _
    omega
  | n + 1, Bs, h, e => by
    have hle := len_le_sum h.ok
    unfold cutGo
    cases q : nextOf (many : Int) Bs with
    | none =>
      have := (next_none h q).1
      exact ⟨h, rfl, by dsimp only; omega⟩
    | some i =>
      obtain ⟨hi, hs⟩ := nbAt_some q
      have hl := cutAt_len hi
      have ih := cutGo_full (many := many) n (cutAt Bs i) (h.cut hi hs) (by omega)
      rw [sumLen_cut hi] at ih
      exact ih
theorem boxes_one {cs : Lot} (h : PixOk cs) : BoxesOk cs [countedOf cs] :=
  ⟨fun c hc => by rw [List.mem_singleton.mp hc]; exact counted_ok h, fun c hc => by rw [List.mem_singleton.mp hc]; exact counted_part cs⟩
theorem cutOf_full {cs : Lot} (h : PixOk cs) {many : Nat} (h1 : 1 ≤ many) : BoxesOk cs (cutOf many (countedOf cs)) ∧ sumLen (cutOf many (countedOf cs)) = (countedOf cs).length ∧ (cutOf many (countedOf cs)).length = min many (countedOf cs).length := by
  have := cutGo_full (many := many) (many - 1) [countedOf cs] (boxes_one h) (by simp; omega)
  have e : sumLen [countedOf cs] = (countedOf cs).length := by simp [sumLen]
  rw [e] at this
  exact this
theorem cutGo_grow (many : Int) : ∀ (n : Nat) (Bs : Boxes), Bs.length ≤ (cutGo many n Bs).length
  | 0, Bs => Nat.le_refl _
  | n + 1, Bs => by
    unfold cutGo
    cases q : nextOf many Bs with
    | none => exact Nat.le_refl _
    | some i =>
      have hl := cutAt_len (nbAt_some q).1
      have := cutGo_grow many n (cutAt Bs i)
      dsimp only
      omega
theorem cutGo_more {many : Int} {n : Nat} {Bs : Boxes} (h : Bs.length < (cutGo many n Bs).length) : ∃ m i, n = m + 1 ∧ nextOf many Bs = some i ∧ cutGo many n Bs = cutGo many m (cutAt Bs i) := by
  cases n with
  | zero => exact absurd h (Nat.lt_irrefl _)
  | succ m =>
    have e : cutGo many (m + 1) Bs = match nextOf many Bs with | none => Bs | some i => cutGo many m (cutAt Bs i) := rfl
    rw [e] at h ⊢
    cases q : nextOf many Bs with
    | none => rw [q] at h; exact absurd h (Nat.lt_irrefl _)
    | some i => exact ⟨m, i, rfl, rfl, rfl⟩
theorem cutGo_done {many : Int} {n : Nat} {Bs : Boxes} (h : ¬ Bs.length < (cutGo many n Bs).length) : cutGo many n Bs = Bs := by
  cases n with
  | zero => rfl
  | succ m =>
    have e : cutGo many (m + 1) Bs = match nextOf many Bs with | none => Bs | some i => cutGo many m (cutAt Bs i) := rfl
    rw [e] at h ⊢
    cases q : nextOf many Bs with
    | none => rfl
    | some i =>
      rw [q] at h
      have hl := cutAt_len (nbAt_some q).1
      have := cutGo_grow many m (cutAt Bs i)
      exact absurd (show Bs.length < (cutGo many m (cutAt Bs i)).length by omega) h
-- the means
theorem round_near {w t : Int} (h : 1 ≤ t) : (2 * (t * (w + t.fdiv 2).fdiv t - w)).natAbs ≤ t.natAbs := by
  rw [Int.fdiv_eq_ediv_of_nonneg _ (show 0 ≤ t by omega), Int.fdiv_eq_ediv_of_nonneg _ (by decide)]
  have h1 := Int.mul_ediv_add_emod (w + t / 2) t
  have h2 := Int.emod_nonneg (w + t / 2) (show t ≠ 0 by omega)
  have h3 := Int.emod_lt_of_pos (w + t / 2) (show 0 < t by omega)
  generalize (w + t / 2) / t = q at *
  generalize (w + t / 2) % t = r at *
  generalize t * q = u at *
  omega
theorem mean_near {cs : Lot} {c : Cnt} (ok : CntOk c) (h : PartOf cs c) {k : Nat} (hk : k < 3) :
    (2 * (((cs.filter fun x => decide (x ∈ keysOf c)).length : Int) * (meanOf c).getD k 0 - (vals (cs.filter fun x => decide (x ∈ keysOf c)) k).sum)).natAbs ≤ (cs.filter fun x => decide (x ∈ keysOf c)).length := by
  have hs : (vals (cs.filter fun x => decide (x ∈ keysOf c)) k).sum = wsumOf c k := by
    unfold vals
    rw [sum_in (fun x => x.getD k 0) cs (keysOf c) h.nd]
    unfold keysOf wsumOf
    rw [List.map_map]
    refine congrArg List.sum (List.map_congr_left fun p hp => ?_)
    show (cs.count p.1 : Int) * p.1.getD k 0 = p.1.getD k 0 * p.2
    rw [h.num p hp, Int.mul_comm]
  have hm : (meanOf c).getD k 0 = (wsumOf c k + (totalOf c).fdiv 2).fdiv (totalOf c) := by
    unfold meanOf
    rw [List.getD_eq_getElem?_getD, List.getElem?_map, List.getElem?_range hk]; rfl
  have ht := total_in h
  have h1 := (total_b ok).1
  rw [hs, hm, ht]
  have := round_near (w := wsumOf c k) h1
  generalize (cs.filter fun x => decide (x ∈ keysOf c)).length = n at ht
  have e : (totalOf c).natAbs = n := by omega
  rw [e] at this
  exact this
-- the nearest
theorem nearest_min {pal : List (List Int)} {c : List Int} (h : 1 ≤ pal.length) : apartI (pal.getD (nearestOf pal c) []) c = minL (pal.map fun x => apartI x c) := by
  have hl := nearest_lt (c := c) h
  refine minL_of ?_ fun a ha => ?_
  · refine List.mem_map.mpr ⟨pal.getD (nearestOf pal c) [], ?_, rfl⟩
    rw [List.getD_eq_getElem?_getD, List.getElem?_eq_getElem hl]
    exact List.getElem_mem hl
  · obtain ⟨x, hx, rfl⟩ := List.mem_map.mp ha
    obtain ⟨j, hj⟩ := List.getElem?_of_mem hx
    have hjl := (List.getElem?_eq_some_iff.mp hj).1
    have := nrAt_min pal c (pal.length - 1) j (by omega)
    rw [List.getD_eq_getElem?_getD (l := pal) (i := j), hj] at this
    exact this
theorem apart_self (c : List Int) : apartI c c = 0 := by
  unfold apartI
  simp [List.range_succ, sq]
theorem apart_zero {x c : List Int} (hx : x.length = 3) (hc : c.length = 3) (h : apartI x c ≤ 0) : x = c := by
  unfold apartI at h
  simp only [List.range_succ, List.range_zero, List.nil_append, List.map_cons, List.map_nil, List.cons_append, List.sum_cons, List.sum_nil] at h
  have n0 := sq_nonneg (shares.getD 0 0 * (x.getD 0 0 - c.getD 0 0))
  have n1 := sq_nonneg (shares.getD 1 0 * (x.getD 1 0 - c.getD 1 0))
  have n2 := sq_nonneg (shares.getD 2 0 * (x.getD 2 0 - c.getD 2 0))
  have z : ∀ k, k < 3 → sq (shares.getD k 0 * (x.getD k 0 - c.getD k 0)) ≤ 0 → x.getD k 0 = c.getD k 0 := fun k hk hz => by
    have h0 : shares.getD k 0 * (x.getD k 0 - c.getD k 0) = 0 := by
      by_cases q : shares.getD k 0 * (x.getD k 0 - c.getD k 0) = 0
      · exact q
      · have := sq_pos q; omega
    have hsh : shares.getD k 0 ≠ 0 := by
      match k, hk with
      | 0, _ => decide
      | 1, _ => decide
      | 2, _ => decide
    rcases Int.mul_eq_zero.mp h0 with q | q
    · exact absurd q hsh
    · omega
  apply List.ext_getElem (by omega)
  intro k h1 h2
  have e : x.getD k 0 = c.getD k 0 := by
    match k, (show k < 3 by omega) with
    | 0, _ => exact z 0 (by decide) (by omega)
    | 1, _ => exact z 1 (by decide) (by omega)
    | 2, _ => exact z 2 (by decide) (by omega)
  rw [List.getD_eq_getElem?_getD, List.getD_eq_getElem?_getD, List.getElem?_eq_getElem h1, List.getElem?_eq_getElem h2] at e
  exact e
-- a picture of few colours comes back
theorem has_cut {Bs : Boxes} {i : Nat} (hi : i < Bs.length) {p : List Int × Int} (h : ∃ b ∈ Bs, p ∈ b) : ∃ b ∈ cutAt Bs i, p ∈ b := by
  obtain ⟨b, hb, hp⟩ := h
  have e : Bs = Bs.take i ++ [Bs.getD i []] ++ Bs.drop (i + 1) := by
    rw [List.getD_eq_getElem?_getD, List.getElem?_eq_getElem hi]
    simp
  rw [e] at hb
  unfold cutAt
  simp only [List.mem_append, List.mem_cons, List.not_mem_nil, or_false] at hb
  rcases hb with (hb | hb) | hb
  · exact ⟨b, by simp [hb], hp⟩
  · subst hb
    by_cases q : p.1.getD (longestOf (Bs.getD i [])) 0 ≤ middleOf (Bs.getD i [])
    · exact ⟨lowerOf (Bs.getD i []), by simp, List.mem_filter.mpr ⟨hp, decide_eq_true q⟩⟩
    · exact ⟨upperOf (Bs.getD i []), by simp, List.mem_filter.mpr ⟨hp, decide_eq_true (by omega)⟩⟩
  · exact ⟨b, by simp [hb], hp⟩
theorem has_go {many : Int} {p : List Int × Int} : ∀ (n : Nat) (Bs : Boxes), (∃ b ∈ Bs, p ∈ b) → ∃ b ∈ cutGo many n Bs, p ∈ b
  | 0, Bs, h => h
  | n + 1, Bs, h => by
    unfold cutGo
    cases q : nextOf many Bs with
    | none => exact h
    | some i => exact has_go n _ (has_cut (nbAt_some q).1 h)
theorem all_one {Bs : Boxes} (h : AllOk Bs) (e : Bs.length = sumLen Bs) : ∀ c ∈ Bs, c.length = 1 := by
  induction Bs with
  | nil => intro c hc; cases hc
  | cons b r ih =>
    have h1 := len_le_sum fun c hc => h c (.tail b hc)
    have h2 := List.length_pos_iff.mpr (h b (.head _)).ne
    have e2 : sumLen (b :: r) = b.length + sumLen r := by simp [sumLen]
    rw [e2, List.length_cons] at e
    intro c hc
    rcases List.mem_cons.mp hc with rfl | hc
    · omega
    · exact ih (fun c hc => h c (.tail b hc)) (by omega) c hc
theorem mean_one {p : List Int × Int} (h3 : p.1.length = 3) (hn : 1 ≤ p.2) : meanOf [p] = p.1 := by
  apply List.ext_getElem (by simp [meanOf, h3])
  intro k h1 h2
  have hk : k < 3 := by omega
  have e1 : wsumOf [p] k = p.1.getD k 0 * p.2 := by simp [wsumOf]
  have e2 : totalOf [p] = p.2 := by simp [totalOf]
  have e3 : p.1.getD k 0 = p.1[k] := by rw [List.getD_eq_getElem?_getD, List.getElem?_eq_getElem h2]; rfl
  simp only [meanOf, List.getElem_map, List.getElem_range]
  rw [e1, e2, e3]
  rw [Int.fdiv_eq_ediv_of_nonneg _ (show 0 ≤ p.2 by omega), Int.fdiv_eq_ediv_of_nonneg _ (by decide)]
  rw [Int.add_comm, Int.add_mul_ediv_right _ _ (by omega), Int.ediv_eq_zero_of_lt (by omega) (by omega)]
  omega
theorem pal_has {cs : Lot} (h : PixOk cs) {many : Nat} (h1 : 1 ≤ many) (hf : (countedOf cs).length ≤ many) {c : List Int} (hc : c ∈ cs) : c ∈ palOf many (countedOf cs) := by
  obtain ⟨a1, a2, a3⟩ := cutOf_full h h1
  have one := all_one a1.ok (by omega)
  obtain ⟨b, hb, hp⟩ := has_go (many := (many : Int)) (many - 1) [countedOf cs] ⟨_, .head _, counted_has hc⟩
  have hb' : b ∈ cutOf many (countedOf cs) := hb
  have hl := one b hb'
  have okb := a1.ok b hb'
  match b, hl, hp, hb', okb with
  | [p], _, hp, hb', okb =>
    rw [List.mem_singleton] at hp
    subst hp
    have := mean_one (okb.pix _ (.head _)).1 (okb.num _ (.head _)).1
    exact List.mem_map.mpr ⟨_, hb', this⟩
theorem pal_ok {cs : Lot} (h : PixOk cs) {many : Nat} (h1 : 1 ≤ many) (h5 : many ≤ 5) : PalOk (palOf many (countedOf cs)) := by
  have := cutOf_ok h1 (counted_ok h)
  refine ⟨by unfold palOf; rw [List.length_map]; exact this.2.2, by unfold palOf; rw [List.length_map]; omega, fun x hx => ?_⟩
  obtain ⟨c, hc, rfl⟩ := List.mem_map.mp hx
  exact mean_pix (this.1 c hc)
theorem nearest_same {pal : List (List Int)} {c : List Int} (hp : PalOk pal) (h3 : c.length = 3) (hc : c ∈ pal) : pal.getD (nearestOf pal c) [] = c := by
  have hl := nearest_lt (c := c) hp.1
  refine apart_zero (hp.get hl).1 h3 ?_
  rw [nearest_min hp.1, ← apart_self c]
  exact (minL_spec (l := pal.map fun x => apartI x c) (List.ne_nil_of_mem (List.mem_map_of_mem (f := fun x => apartI x c) hc))).2 _ (List.mem_map_of_mem (f := fun x => apartI x c) hc)
theorem rows_at {v h : Nat} {rows : List (List Int)} (P : PlaneOk v h rows) : ((List.range h).map fun y => (List.range v).map fun x => at2 rows y x) = rows := by
  apply List.ext_getElem (by simp [P.len])
  intro y h1 h2
  simp only [List.getElem_map, List.getElem_range]
  have hr := P.row _ (List.getElem_mem h2)
  apply List.ext_getElem (by simp [hr])
  intro x h3 h4
  simp only [List.getElem_map, List.getElem_range]
  unfold at2
  rw [List.getD_eq_getElem?_getD (l := rows), List.getElem?_eq_getElem h2, List.getD_eq_getElem?_getD]
  show (rows[y][x]?).getD 0 = _
  rw [List.getElem?_eq_getElem h4]; rfl
theorem col_in {v h : Nat} {R : List (List (List Int))} {y x : Nat} (hy : y < h) (hx : x < v) : colAt R y x ∈ coloursOf v h R := by
  unfold coloursOf
  simp only [List.mem_flatMap, List.mem_map, List.mem_range]
  exact ⟨y, hy, x, hx, rfl⟩
theorem col_at (v : Nat) (R : List (List (List Int))) : ∀ (h : Nat) {y x : Nat}, y < h → x < v → (coloursOf v h R).getD (y * v + x) [] = colAt R y x
  | 0, y, x, hy, _ => absurd hy (Nat.not_lt_zero _)
  | h + 1, y, x, hy, hx => by
    rw [coloursOf_succ, List.getD_eq_getElem?_getD]
    by_cases q : y < h
    · have hlt : y * v + x < (coloursOf v h R).length := by
        rw [coloursOf_len]
        have := Nat.mul_le_mul_right v (show y + 1 ≤ h by omega)
        rw [Nat.succ_mul] at this
        omega
      rw [List.getElem?_append_left hlt, ← List.getD_eq_getElem?_getD]
      exact col_at v R h q hx
    · have e : y = h := by omega
      subst e
      rw [List.getElem?_append_right (by rw [coloursOf_len]; omega), coloursOf_len, show y * v + x - y * v = x from by omega, List.getElem?_map, List.getElem?_range hx]; rfl
theorem shown_back {v h : Nat} {R : List (List (List Int))} (hR : R.length = 3) (hP : ∀ rows ∈ R, PlaneOk v h rows) {pal : List (List Int)} (hp : PalOk pal) (hin : ∀ y, y < h → ∀ x, x < v → colAt R y x ∈ pal) {k : Nat} (hk : k < 3) :
    shownRows pal (mappedRows v h R pal) k = R.getD k [] := by
  have hkl : k < R.length := by omega
  have e : R.getD k [] = R[k] := by rw [List.getD_eq_getElem?_getD, List.getElem?_eq_getElem hkl]; rfl
  rw [e, ← rows_at (hP _ (List.getElem_mem hkl))]
  unfold shownRows mappedRows
  rw [List.map_map]
  refine List.map_congr_left fun y hy => ?_
  show ((List.range v).map fun x => (nearestOf pal (colAt R y x) : Int)).map (fun pl => (pal.getD pl.toNat []).getD k 0) = _
  rw [List.map_map]
  refine List.map_congr_left fun x hx => ?_
  show (pal.getD (nearestOf pal (colAt R y x) : Int).toNat []).getD k 0 = _
  rw [Int.toNat_natCast, nearest_same hp (by simp [colAt, hR]) (hin y (List.mem_range.mp hy) x (List.mem_range.mp hx))]
  unfold colAt
  rw [List.getD_eq_getElem?_getD, List.getElem?_map, List.getElem?_eq_getElem hkl]; rfl
theorem shown_all {v h : Nat} {R : List (List (List Int))} (hR : R.length = 3) (hP : ∀ rows ∈ R, PlaneOk v h rows) {pal : List (List Int)} (hp : PalOk pal) (hin : ∀ y, y < h → ∀ x, x < v → colAt R y x ∈ pal) :
    ((List.range 3).map fun k => shownRows pal (mappedRows v h R pal) k) = R := by
  apply List.ext_getElem (by simp [hR])
  intro k h1 h2
  simp only [List.getElem_map, List.getElem_range]
  rw [shown_back hR hP hp hin (by omega), List.getD_eq_getElem?_getD, List.getElem?_eq_getElem h2]; rfl
theorem zip_same {α β γ : Type} (f : α → β) (g : α → γ) : ∀ l : List α, (l.map f).zip (l.map g) = l.map fun a => (f a, g a)
  | [] => rfl
  | a :: l => by rw [List.map_cons, List.map_cons, List.zip_cons_cons, zip_same f g l]; rfl
theorem count_mem (c : List Int) : ∀ L : Lot, ((D.pys (L.map tupI)).countP fun y => PyData.eqv y (tupI c).py) = L.count c
  | [] => by simp [D.pys]
  | a :: L => by
    rw [List.map_cons, D.pys, List.countP_cons, count_mem c L, eqTup a c, List.count_cons]
    simp only [decide_eq_true_eq, beq_iff_eq]
noncomputable def lpD (p : Lot × List Int) : D := .tup [lotD p.1, tupI p.2]
noncomputable def D.asLp : D → Lot × List Int
  | .tup [a, b] => (a.asLot, b.asInts)
  | _ => ([], [])
theorem asLp_lpD (p : Lot × List Int) : (lpD p).asLp = p := by
  show ((lotD p.1).asLot, (tupI p.2).asInts) = p
  rw [asLot_lotD, asInts_tupI]
theorem mapped_ok {v h : Nat} {R : List (List (List Int))} {pal : List (List Int)} (hp : PalOk pal) : PlaneOk v h (mappedRows v h R pal) := by
  unfold mappedRows
  refine ⟨by simp, fun r hr => ?_, fun r hr u hu => ?_⟩
  · obtain ⟨y, _, rfl⟩ := List.mem_map.mp hr
    simp
  · obtain ⟨y, _, rfl⟩ := List.mem_map.mp hr
    obtain ⟨x, _, rfl⟩ := List.mem_map.mp hu
    have := nearest_lt (c := colAt R y x) hp.1
    have := hp.2.1
    omega
theorem mapped_b {v h : Nat} {R : List (List (List Int))} {pal : List (List Int)} (hp : PalOk pal) : ∀ r ∈ mappedRows v h R pal, ∀ x ∈ r, 0 ≤ x ∧ x < pal.length := fun r hr u hu => by
  unfold mappedRows at hr
  obtain ⟨y, _, rfl⟩ := List.mem_map.mp hr
  obtain ⟨x, _, rfl⟩ := List.mem_map.mp hu
  have := nearest_lt (c := colAt R y x) hp.1
  omega
theorem mapped_at {v h : Nat} {R : List (List (List Int))} {pal : List (List Int)} {y x : Nat} (hy : y < h) (hx : x < v) : at2 (mappedRows v h R pal) y x = (nearestOf pal (colAt R y x) : Int) := by
  unfold at2 mappedRows
  rw [List.getD_eq_getElem?_getD (l := List.map _ (List.range h)), List.getElem?_map, List.getElem?_range hy]
  show (List.map (fun x => (nearestOf pal (colAt R y x) : Int)) (List.range v)).getD x 0 = _
  rw [List.getD_eq_getElem?_getD, List.getElem?_map, List.getElem?_range hx]; rfl
section
variable {prog : Program} {w : World} {hb : Heap} {S : List Addr} {A : Around} {cx : Cx} {mu : List MD} {ρ : Rho}
/-- the keys of what is counted -/
theorem ev_keys {x y : Str} {p q tp pn : Pos} {kk : Nat} {iter : Expr} {scope : Scope} {pos : Pos} {K : D → Prop} (cnt : Cnt)
    (hh : cx.A.handled = none) (so : ScopeOk scope cx.env) (hfold : ∀ x, foldedSetIterable iter cx.env x = pure x) (hlen : cnt.length ≤ 1000) (hx : isOwn scope x = true) (hy : isOwn scope y = true)
    (hE : ∀ (r : List Int × Int) L cs U, (Storable (cx.inner scope L cs U) y ∧ Storable (cx.inner scope L cs U) x) ∧ EvP prog w (cx.inner scope L cs U) [] ([(y, .int r.2), (x, tupI r.1)] ++ cut scope ρ) (.Name x pn) fun d => d = tupI r.1)
    (hI : EvP prog w cx mu ρ iter fun d => d = cntD cnt)
    (hK : K (lotD (keysOf cnt))) : EvP prog w cx mu ρ (.ListComp (.Name x pn) [⟨.Tuple [.Name x p, .Name y q] kk tp, iter, [], 0⟩] scope pos) K := by
  refine EvP.compM cnt pairD D.asPair (fun p _ => asPair_pairD p) (fun _ => true) (fun r => tupI r.1) (fun r => [(y, .int r.2), (x, tupI r.1)]) hh so plain2 hfold hlen (it_counted hh hI rfl) (fun r hr => ⟨tgt2, tau2 hy hx, fun L cs U => ?_⟩) ?_
  · obtain ⟨⟨h1, h2⟩, h3⟩ := hE r L cs U
    exact ⟨tau2 h1 h2, rfl, fun _ => h3⟩
  · rw [List.filter_eq_self.mpr (fun _ _ => rfl)]
    rw [show lotD (keysOf cnt) = .lst (cnt.map fun r => tupI r.1) from by unfold lotD keysOf; rw [List.map_map]; rfl] at hK
    exact hK
theorem pool_st {sc : Scope} {q : Str} {cd : Value} {L0 fa : Addr} {U : Led} {ρ : Rho} {m : Str → Option Value} {F L : Led} {N N' : Facts} {h : Heap} {a : Addr} (Fm : Frame (Cx.go hb S A sc q cd L0 fa U).env (Cx.go hb S A sc q cd L0 fa U).own m F U) (R : RhoIs prog w S N ρ m) (sb : Sub N N') (Mi : MIn prog w S N [] L) (H : Hp hb (a :: S) (F ++ (L ++ U)) N' h) : St prog w (Cx.go hb (a :: S) A sc q cd L0 fa U) [] ρ N' h :=
  ⟨m, F, L, Fm, Mi, H, fun x d hx => let ⟨v, a, b⟩ := R x d hx; ⟨v, a, (b.mono sb).monoS fun _ hm => .tail _ hm⟩⟩
theorem sub_lotN {L : Lot} {i : Nat} {K : D → Prop} (hi : i < L.length) (hl : L.length ≤ 1000) (h : K (tupI (L.getD i []))) : SubP prog w cx (lotD L) (.int (i : Int)) K := by
  refine SubP.lstM (by omega) (by simpa using hi) (by omega) ?_
  rw [List.getD_eq_getElem?_getD, List.getElem?_eq_getElem hi] at h
  simpa using h
set_option maxHeartbeats 4000000 in
theorem c_law (G : Gd (hk.heap_1 w.params) hb) (hA : AOk 1 A) (ns : List Int) (hn : ns.length ≤ 1000) (hbits : ∀ z ∈ ns, z.natAbs.log2 < 2 ^ 20 + 10) (N : Facts) (vs : List Value) (hv : DAll prog w S N vs [lstI ns]) (U : Led) (s : Shared) (H : Hp hb S U N s.heap) :
    codeAny (model prog w) A (.call (.ref 249) ⟨vs, []⟩) (fun r s' => ∃ v h tk N', r = .ok (.ret v) ∧ s' = { s with heap := h, toks := tk } ∧ Sub N N' ∧ v = .bool true ∧ ∀ b o, hb.get? b = some o → h.get? b = some o) s := by
  refine fn_atR (ps := ["script"]) (ds := [lstI ns]) (U := U) (P := fun N' h v => v = .bool true ∧ ∀ b o, hb.get? b = some o → h.get? b = some o) G hA (by decide) (by rfl) (by kernel_rfl) (by rfl) (len1 fun a => by kernel_rfl) rfl hv H fun L hA' => ?_
  intro N1 s1 E1 H1
  refine wpAny_execs_cons (wpAny_Assign_Name (Call_ (name_glob G H1 rfl rfl (by decide) (callWith_K G.X (by kernel_rfl) (wpAny_mono ((?args : ArgsP prog w _ _ _ _ (fun ds => ds = [lstI ns, .int 0])) N1 _ s1 _ H1) (fun vs s2 y => ?_) fun _ _ e => e) rfl rfl))))
  case args =>
    repeat walk_at "m s"
    rfl
  obtain ⟨h2, tk2, N2, rfl, sb2, H2, ds, is, rfl⟩ := y
  refine ⟨G.X.keeps H2.keep, ?_⟩
  obtain ⟨m, F, Lm, Fm, Mi, Hh, R⟩ := H2
  refine wpAny_mono (c_pool G (hA'.to (by decide)) ns hn hbits N2 _ is (F ++ (Lm ++ U)) _ _ Hh) (fun v s3 y => ?_) fun _ _ e => e
  obtain ⟨h3, tk3, N3, rfl, sb3, a, rfl, Hp3⟩ := y
  have St3 := pool_st Fm R sb3 Mi Hp3
  refine store_name (cx := Cx.go hb (a :: S) A _ _ _ L 249 U) (s := { s1 with heap := h3, toks := tk3 }) St3 (.inl rfl) (.src (.head _)) fun h4 tk4 St4 => ?_
  refine wpAny_mono ((?rest : ExP prog w (Cx.go hb (a :: S) A _ _ _ L 249 U) [] [("source", .src), ("script", lstI ns)] _ (fun o => match o with | .ret d => d = .bool true | _ => False)) N3 _ _ St4) (fun f s5 x => ?_) fun _ _ e => e
  case rest =>
    clear St4 St3 Hp3 R Hh Mi Fm is H1 hv H
    refine ExP.cons (S1.assignSw hA'.handled rfl rfl (.inl rfl) (.inl rfl) ?_)
    walk_at "m e"
    walk_at "m args"
    walk_at "m call"
    repeat walk_at "m s"
    refine OpN.toT ((c_picture G (hA'.to (by decide))).mono fun d e => ?_)
    obtain ⟨v, h, ds, rfl, hl3, hv, hh, hg⟩ := e
    obtain ⟨R, rfl, hP⟩ := choose_map hg
    rw [List.length_map] at hl3
    walk_at "m args"
    walk_at "m e"
    walk_at "m e"
    walk_at "m call"
    repeat walk_at "m s"
    refine OpN.toT ((c_take G (hA'.to (by decide)) 5 (by decide) (by decide)).mono fun d e => ?_)
    obtain ⟨i, rfl, hi0, hi5⟩ := e
    refine op_add ?_
    walk_at "m args"
    refine ⟨by simp, _, _, rfl, ?_⟩
    obtain ⟨n, hin⟩ := Int.eq_ofNat_of_zero_le (show 0 ≤ 1 + i by omega)
    rw [hin]
    have hn1 : 1 ≤ n := by omega
    have hn5 : n ≤ 5 := by omega
    match R, hl3, hP with
    | [r0, r1, r2], _, hP =>
    refine ExP.weak (ρ' := [("planes", planesD v h [r0, r1, r2]), ("many", .int (n : Int))]) (by walk_at "m wk") ?_
    refine ExP.cons (S1.assignT hA'.handled rfl rfl ?_)
    walk_at "m e"
    walk_at "m args"
    walk_at "m call"
    repeat walk_at "m s"
    refine OpN.toT ((c_colours G (hA'.to (by decide)) v h [r0, r1, r2] rfl hP hv.2 hh.2).mono fun d e => ?_)
    subst e
    walk_at "m args"
    walk_at "m call"
    repeat walk_at "m s"
    refine OpN.toT ((c_counted G (hA'.to (by decide)) v h r0 r1 r2 hP hv.2 hh.2).mono fun d e => ?_)
    subst e
    walk_at "m args"
    refine ⟨by simp, _, tgt2, tau2 (.inl rfl) (storB rfl), ?_⟩
    have okc : PixOk (coloursOf v h [r0, r1, r2]) := pixOk_of rfl hP hv hh
    have hat : ∀ {y x : Nat}, y < h → x < v → (coloursOf v h [r0, r1, r2]).getD (y * v + x) [] = colAt [r0, r1, r2] y x := fun {y x} hy hx => col_at v [r0, r1, r2] h hy hx
    have hin' : ∀ {y x : Nat}, y < h → x < v → colAt [r0, r1, r2] y x ∈ coloursOf v h [r0, r1, r2] := fun {y x} hy hx => col_in hy hx
    have hcl := coloursOf_len v h [r0, r1, r2]
    generalize hcs : coloursOf v h [r0, r1, r2] = cs at okc hat hin' hcl ⊢
    have h12 := okc.len
    have okn := counted_ok okc
    have n12 := okn.len
    have hmem : ∀ p ∈ countedOf cs, p.2 = (cs.count p.1 : Int) := fun p hp => (counted_mem hp).2
    have hfst : keysOf (countedOf cs) = sortedKeys ((countL cs).map (·.1)) := counted_fst cs
    obtain ⟨bok, bsum, blen⟩ := cutOf_full okc hn1
    have hhas := fun hf c hc => pal_has (many := n) okc hn1 hf (c := c) hc
    have hpal := pal_ok okc hn1 hn5
    have c_cut' := fun {S A} hA => c_cut (prog := prog) (w := w) (hb := hb) (S := S) (A := A) G hA (countedOf cs) okn n hn1 hn5
    refine ExP.weak (ρ' := [("counted", cntD (countedOf cs)), ("colours", lotD cs), ("planes", planesD v h [r0, r1, r2]), ("many", .int (n : Int))]) (by walk_at "m wk") ?_
    -- the keys
    refine ExP.cons (S1.ite (TsP.cmp rfl ?_))
    refine ev_keys (countedOf cs) hA'.handled (scopeOk_of rfl (by decide) (by rfl)) (fun _ => rfl) (by omega) rfl rfl (fun r L' cs' U' => ⟨⟨.inl rfl, .inl rfl⟩, by walk_at "m e"; rfl⟩) (by walk_at "m e"; rfl) ?_
    walk_at "m call"
    walk_at "m args"
    walk_at "m call"
    walk_at "m args"
    refine EvP.compM cs tupI D.asInts (fun c _ => asInts_tupI c) (fun _ => true) (fun c => pairD (c, 1)) (fun c => [("one", tupI c)]) hA'.handled (scopeOk_of rfl (by decide) (by rfl)) plain1 (fun _ => rfl) (by omega) ?_ ?_ ?_
    · refine EvIt.lst hA'.handled ?_
      walk_at "m e"
      exact ⟨_, rfl, rfl⟩
    · intro c hc
      refine ⟨tgt1, tau1 rfl, fun L' cs' U' => ⟨tau1 (.inl rfl), rfl, fun _ => ?_⟩⟩
      repeat walk_at "m s"
      exact ⟨by simp, rfl⟩
    have ed : (cs.filter fun _ => true).map (fun c => pairD (c, 1)) = (cs.map fun c => ((c, 1) : List Int × Int)).map pairD := by
      rw [List.filter_eq_self.mpr (fun _ _ => rfl), List.map_map]; rfl
    rw [ed]
    walk_at "m args"
    refine OpN.toT (Op1.toN (call_dict G hA'.roomy hA'.handled (by rw [List.length_map]; omega) ?_))
    walk_at "m args"
    have dk := dict_keys cs
    have hkl : (kvFold [] (cs.map fun c => ((c, 1) : List Int × Int))).length = (countL cs).length := by
      have := congrArg List.length dk
      rw [List.length_map, List.length_map] at this
      exact this
    have hkv := kv_len cs
    refine op_sorted hA'.handled (by omega) (fun p hp e => ?_) ?_
    · have h1 : p.1 ∈ (countL cs).map (·.1) := by rw [← dk]; exact List.mem_map_of_mem hp
      have h2 := (okc.pix _ ((countL_keys cs p.1).mp h1)).1
      rw [e] at h2
      cases h2
    rw [dk, ← hfst]
    refine op_neD (b := false) (e := lotD (keysOf (countedOf cs))) hA'.roomy ((okTup 4).lst _) ((okTup 4).lst _) (by rw [show PyData.eqv (lotD (keysOf (countedOf cs))).py (lotD (keysOf (countedOf cs))).py = _ from eqTup.lst (keysOf (countedOf cs)) (keysOf (countedOf cs))]; simp) (Truth.bool ?_)
    simp only [Bool.false_eq_true, if_false]
    refine ExP.nil ?_
    -- how often
    refine ExP.cons (S1.ite (TsP.cmp rfl ?_))
    refine EvP.compM (countedOf cs) pairD D.asPair (fun p _ => asPair_pairD p) (fun _ => false) (fun _ => D.int 1) (fun r => [("often", .int r.2), ("one", tupI r.1)]) hA'.handled (scopeOk_of rfl (by decide) (by rfl)) plain2 (fun _ => rfl) (by omega) (it_counted hA'.handled (by walk_at "m e"; rfl) rfl) (fun r hr => ⟨tgt2, tau2 rfl rfl, fun L' cs' U' => ⟨tau2 (.inl rfl) (.inl rfl), ?_, fun h => nomatch h⟩⟩) ?_
    · refine TsP.cmp rfl ?_
      refine EvP.methL PySem.F.slot_list_count PySem.F.type_list_count rfl rfl rfl ?_
      walk_at "m e"
      refine ⟨_, rfl, ?_⟩
      walk_at "m e"
      refine call_count hA'.roomy (okTup 4 _) (oks_map (okTup 4) cs) ?_
      walk_at "m e"
      rw [count_mem r.1 cs, hmem r hr]
      refine op_ne (Truth.bool ?_)
      simp
    rw [List.filter_eq_nil_iff.mpr (by simp)]
    repeat walk_at "m s"
    refine ⟨by simp, ?_⟩
    refine op_neD (b := false) hA'.roomy rfl rfl (by decide) (Truth.bool ?_)
    simp only [Bool.false_eq_true, if_false]
    refine ExP.nil ?_
    -- the lots
    have hpalE : palOf n (countedOf cs) = (cutOf n (countedOf cs)).map meanOf := rfl
    clear hmem hfst hg ed dk hkl hkv hcl hin hi0 hi5
    refine ExP.weak (ρ' := [("counted", cntD (countedOf cs)), ("colours", lotD cs), ("planes", planesD v h [r0, r1, r2]), ("many", .int (n : Int))]) (by walk_at "m wk") ?_
    have hgo0 : cutGo (n : Int) (n - 1) [countedOf cs] = cutOf n (countedOf cs) := rfl
    generalize cutOf n (countedOf cs) = FB at bok bsum blen hpalE c_cut' hgo0
    have hF5 : FB.length ≤ 5 := by omega
    refine ExP.cons (S1.compM FB boxD D.asBox (fun c _ => asBox_boxD c) (fun _ => true) (fun c => lotD (keysOf c)) (fun c => [("box", boxD c)]) hA'.handled (scopeOk_of rfl (by decide) (by rfl)) plain1 (fun _ => rfl) (by omega) (.inl rfl) rfl (EvIt.lst hA'.handled ?_) (fun c hc => ⟨tgt1, tau1 rfl, fun L' cs' U' => ⟨tau1 (.inl rfl), rfl, fun _ => ?_⟩⟩) ?_)
    · walk_at "m call"
      repeat walk_at "m s"
      refine OpN.toT ((c_cut' (hA'.to (by decide))).mono fun d e => ?_)
      obtain ⟨rfl, _, _⟩ := e
      exact ⟨_, rfl, rfl⟩
    · have hc12 := (bok.ok c hc).len
      exact ev_keys c hA'.handled (scopeOk_of rfl (by decide) (by rfl)) (fun _ => rfl) (by omega) rfl rfl (fun r L' cs' U' => ⟨⟨.inl rfl, .inl rfl⟩, by walk_at "m e"; rfl⟩) (ev_boxcnt (cnt := c) G rfl (by walk_at "m e"; rfl) rfl) rfl
    have el : D.lst ((FB.filter fun _ => true).map fun c => lotD (keysOf c)) = lotsD (lotsOf FB) := by
      rw [List.filter_eq_self.mpr (fun _ _ => rfl)]
      unfold lotsD lotsOf
      rw [List.map_map]; rfl
    rw [el]
    have ll : ∀ Bs : Boxes, ((lotsOf Bs).map lotD).length = Bs.length := fun Bs => by simp [lotsOf]
    -- how many
    refine ExP.cons (S1.ite (TsP.cmp rfl ?_))
    walk_at "m call"
    repeat walk_at "m s"
    refine OpN.toT (Op1.toN (call_len (by rw [ll]; omega) ?_))
    rw [ll]
    walk_at "m call"
    repeat walk_at "m s"
    walk_at "m call"
    repeat walk_at "m s"
    refine OpN.toT (Op1.toN (call_len (by rw [List.length_map]; omega) ?_))
    rw [List.length_map]
    walk_at "m args"
    refine OpN.toT (Op2.toN (call_min2 hA'.handled ?_))
    have e0 : ((FB.length : Int) != min (n : Int) ((countedOf cs).length : Int)) = false := by simp; omega
    refine op_ne (Truth.bool ?_)
    rw [e0]
    simp only [Bool.false_eq_true, if_false]
    refine ExP.nil ?_
    -- cut ahead
    refine ExP.cons (S1.assign (.inl rfl) rfl ?_)
    walk_at "m e"
    walk_at "m args"
    refine ev_keys (countedOf cs) hA'.handled (scopeOk_of rfl (by decide) (by rfl)) (fun _ => rfl) (by omega) rfl rfl (fun r L' cs' U' => ⟨⟨.inl rfl, .inl rfl⟩, by walk_at "m e"; rfl⟩) (by walk_at "m e"; rfl) ?_
    walk_at "m args"
    refine ⟨by simp, ?_⟩
    change Then _ _ _ _ _ (.next [] (("ahead", lotsD (lotsOf [countedOf cs])) :: _))
    refine ExP.cons (S1.while rfl (fun k m r => ∃ (j : Nat) (Bs : Boxes), m = [] ∧ Wk r [("ahead", lotsD (lotsOf Bs)), ("lots", lotsD (lotsOf FB)), ("counted", cntD (countedOf cs)), ("colours", lotD cs), ("planes", planesD v h [r0, r1, r2]), ("many", .int (n : Int))] ∧ BoxesOk cs Bs ∧ 1 ≤ Bs.length ∧ Bs.length + k = FB.length ∧ cutGo (n : Int) j Bs = FB) (FB.length - 1) ⟨n - 1, [countedOf cs], rfl, by walk_at "m wk", boxes_one okc, by simp, ?_, hgo0⟩ ?_)
    · have := cutGo_grow (n : Int) (n - 1) [countedOf cs]
      rw [hgo0] at this
      simp only [List.length_cons, List.length_nil] at this ⊢
      omega
    rintro k m r ⟨j, Bs, rfl, wk, bk, hne, hk, hgo⟩
    refine TsP.cmp rfl ?_
    walk_at "m call"
    walk_at "m args"
    refine EvP.name (wk "ahead" _ rfl) (.inl rfl) (by decide) (by decide) ?_
    walk_at "m args"
    refine OpN.toT (Op1.toN (call_len (by rw [ll]; omega) ?_))
    rw [ll]
    walk_at "m call"
    walk_at "m args"
    refine EvP.name (wk "lots" _ rfl) (.inl rfl) (by decide) (by decide) ?_
    walk_at "m args"
    refine OpN.toT (Op1.toN (call_len (by rw [ll]; omega) ?_))
    rw [ll]
    refine op_lt (Truth.bool ?_)
    obtain ⟨k', rfl⟩ | rfl : (∃ k', k = k' + 1) ∨ k = 0 := by
      cases k with
      | zero => exact .inr rfl
      | succ k' => exact .inl ⟨k', rfl⟩
    · rw [decide_eq_true (show (Bs.length : Int) < (FB.length : Int) by omega)]
      simp only [if_true]
      refine ExP.weak wk ?_
      obtain ⟨j', i, rfl, hi, hgo'⟩ := cutGo_more (many := (n : Int)) (n := j) (Bs := Bs) (by rw [hgo]; omega)
      have hil := (nbAt_some hi).1
      refine ExP.cons (S1.assign (.inl rfl) rfl ?_)
      walk_at "m call"
      repeat walk_at "m s"
      refine OpN.toT ((c_lcut G (hA'.to (by decide)) (lotsOf Bs) cs (n : Int) (fun L hL => ?_) okc ?_ ?_).mono fun d e => ?_)
      · obtain ⟨c, hc, rfl⟩ := List.mem_map.mp hL
        exact keys_ok (bk.ok c hc)
      · intro e
        have := congrArg List.length e
        simp [lotsOf] at this
        rw [this] at hne
        exact absurd hne (by decide)
      · show (lotsOf Bs).length ≤ 100
        rw [show (lotsOf Bs).length = Bs.length from List.length_map _]
        omega
      subst e
      rw [lcut_eq bk hi]
      exact ExP.nil ⟨k', Nat.lt_succ_self _, j', cutAt Bs i, rfl, by walk_at "m wk", bk.cut hil (nbAt_some hi).2, by rw [cutAt_len hil]; omega, by rw [cutAt_len hil]; omega, by rw [← hgo']; exact hgo⟩
    rw [decide_eq_false (show ¬ (Bs.length : Int) < (FB.length : Int) by omega)]
    simp only [Bool.false_eq_true, if_false]
    obtain rfl : Bs = FB := by
      have := cutGo_done (many := (n : Int)) (n := j) (Bs := Bs) (by rw [hgo]; omega)
      rw [← this]; exact hgo
    refine ExP.weak wk ?_
    clear wk hgo hgo0 hk hne bk el c_cut'
    -- the palette
    refine ExP.cons (S1.assign (.inl rfl) rfl ?_)
    walk_at "m call"
    repeat walk_at "m s"
    refine OpN.toT ((c_palette G (hA'.to (by decide)) v h r0 r1 r2 hP hv hh n hn1 hn5).mono fun d e => ?_)
    rw [hcs] at e
    subst e
    have hpl : (palOf n (countedOf cs)).length = Bs.length := by rw [hpalE, List.length_map]
    refine ExP.cons (S1.ite (TsP.cmp rfl ?_))
    walk_at "m call"
    repeat walk_at "m s"
    refine OpN.toT (Op1.toN (call_len (by rw [List.length_map]; omega) ?_))
    rw [List.length_map, hpl]
    walk_at "m call"
    repeat walk_at "m s"
    refine OpN.toT (Op1.toN (call_len (by rw [ll]; omega) ?_))
    rw [ll]
    refine op_ne (Truth.bool ?_)
    rw [show ((Bs.length : Int) != (Bs.length : Int)) = false from by simp]
    simp only [Bool.false_eq_true, if_false]
    refine ExP.nil ?_
    -- the boxes and their means
    refine ExP.cons (S1.ite (TsP.or2 (TsP.cmp rfl ?_)))
    walk_at "m e"
    walk_at "m e"
    refine op_neD (b := false) (e := lotsD (lotsOf Bs)) hA'.roomy (((okTup 3).lst).lst (lotsOf Bs)) (((okTup 3).lst).lst (lotsOf Bs)) (by rw [show PyData.eqv (lotsD (lotsOf Bs)).py (lotsD (lotsOf Bs)).py = _ from (eqTup.lst).lst (lotsOf Bs) (lotsOf Bs)]; simp) (Truth.bool ?_)
    simp only [Bool.false_eq_true, if_false]
    refine TsP.cmp rfl ?_
    refine EvP.compM (Bs.map fun c => (keysOf c, meanOf c)) lpD D.asLp (fun p _ => asLp_lpD p) (fun _ => false) (fun _ => D.int 1) (fun p => [("one", tupI p.2), ("box", lotD p.1)]) hA'.handled (scopeOk_of rfl (by decide) (by rfl)) plain2 (fun _ => rfl) (by rw [List.length_map]; omega) ?_ ?_ ?_
    · refine EvIt.zip hA'.handled G rfl rfl (by boot_by_name) rfl rfl rfl rfl ?_
      walk_at "m e"
      walk_at "m e"
      refine ⟨_, _, rfl, rfl, ?_⟩
      rw [hpalE]
      unfold zipD lotsOf
      rw [List.map_map, List.map_map, zip_same, List.map_map, List.map_map]
      rfl
    · intro p hp
      obtain ⟨c, hc, rfl⟩ := List.mem_map.mp hp
      refine ⟨tgt2, tau2 rfl rfl, fun L' cs' U' => ⟨tau2 (.inl rfl) (.inl rfl), ?_, fun h => nomatch h⟩⟩
      refine TsP.not (TsP.value (fun _ => rfl) ?_)
      walk_at "m call"
      repeat walk_at "m s"
      refine OpN.toT ((c_ismean G (hA'.to (by decide)) (keysOf c) cs (meanOf c) okc (mean_pix (bok.ok c hc)) (fun k hk => mean_near (bok.ok c hc) (bok.part c hc) hk)).mono fun d e => ?_)
      subst e
      exact Truth.bool rfl
    rw [List.filter_eq_nil_iff.mpr (by simp)]
    repeat walk_at "m s"
    refine ⟨by simp, ?_⟩
    refine op_neD (b := false) hA'.roomy rfl rfl (by decide) (Truth.bool ?_)
    simp only [Bool.false_eq_true, if_false]
    refine ExP.nil ?_
    -- the picture mapped
    refine ExP.cons (S1.assign (.inl rfl) rfl ?_)
    walk_at "m call"
    repeat walk_at "m s"
    refine OpN.toT ((c_mapped G (hA'.to (by decide)) v h [r0, r1, r2] rfl hP hv.2 hh.2 (palOf n (countedOf cs)) hpal).mono fun d e => ?_)
    subst e
    generalize palOf n (countedOf cs) = pal at hpal hhas
    have hM : PlaneOk v h (mappedRows v h [r0, r1, r2] pal) := mapped_ok hpal
    have hMb := mapped_b (v := v) (h := h) (R := [r0, r1, r2]) hpal
    have hMat : ∀ {y x : Nat}, y < h → x < v → at2 (mappedRows v h [r0, r1, r2] pal) y x = (nearestOf pal (colAt [r0, r1, r2] y x) : Int) := fun hy hx => mapped_at hy hx
    have hback := fun hf => shown_all (v := v) (h := h) (R := [r0, r1, r2]) rfl hP hpal (fun y hy x hx => hhas hf _ (hin' hy hx))
    generalize mappedRows v h [r0, r1, r2] pal = rows at hM hMb hMat hback
    have hp12 := hpal.2.1
    refine ExP.weak (ρ' := [("found", planeD v h rows), ("palette", palD pal), ("counted", cntD (countedOf cs)), ("colours", lotD cs), ("planes", planesD v h [r0, r1, r2]), ("many", .int (n : Int))]) (by walk_at "m wk") ?_
    refine ExP.cons (S1.for hA'.handled plain1 (fun _ => rfl) rfl (it_range (n := h) (by omega) G hA'.handled rfl ?_ rfl ?_))
    · refine ev_height G rfl ?_
      walk_at "m e"
      exact ⟨_, _, _, rfl, rfl⟩
    refine ⟨fun i m r => m = [] ∧ Wk r [("found", planeD v h rows), ("palette", palD pal), ("counted", cntD (countedOf cs)), ("colours", lotD cs), ("planes", planesD v h [r0, r1, r2]), ("many", .int (n : Int))], ⟨rfl, by walk_at "m wk"⟩, ?_, ?_⟩
    · rintro y d m r hid ⟨rfl, wk⟩
      have hy : y < h := by
        have := (List.getElem?_eq_some_iff.mp hid).1
        simpa using this
      have hdy : d = .int (y : Int) := by
        have : ((List.range h).map fun i : Nat => D.int (i : Int))[y]? = some (.int (y : Int)) := by rw [List.getElem?_map, List.getElem?_range hy]; rfl
        rw [this] at hid
        exact (Option.some.inj hid).symm
      subst hdy
      refine ⟨_, tgt1, tau1 (.inl rfl), fun W => ExP.weak (Wk.app _ wk) ?_⟩
      refine ExP.cons (S1.for hA'.handled plain1 (fun _ => rfl) rfl (it_range (n := v) (by omega) G hA'.handled rfl ?_ rfl ?_))
      · refine ev_width G rfl ?_
        walk_at "m e"
        exact ⟨_, _, _, rfl, rfl⟩
      refine ⟨fun i m r => m = [] ∧ Wk r [("y", .int (y : Int)), ("found", planeD v h rows), ("palette", palD pal), ("counted", cntD (countedOf cs)), ("colours", lotD cs), ("planes", planesD v h [r0, r1, r2]), ("many", .int (n : Int))], ⟨rfl, by walk_at "m wk"⟩, ?_, ?_⟩
      · rintro x d m r hid ⟨rfl, wk⟩
        have hx : x < v := by
          have := (List.getElem?_eq_some_iff.mp hid).1
          simpa using this
        have hdx : d = .int (x : Int) := by
          have : ((List.range v).map fun i : Nat => D.int (i : Int))[x]? = some (.int (x : Int)) := by rw [List.getElem?_map, List.getElem?_range hx]; rfl
          rw [this] at hid
          exact (Option.some.inj hid).symm
        subst hdx
        have hcm := hin' hy hx
        have hcat := hat hy hx
        have hca := hMat hy hx
        have hcpix := colAt_pix (R := [r0, r1, r2]) rfl hP y x
        have hlt : y * v + x < cs.length := by
          rw [← hcs, coloursOf_len]
          have := Nat.mul_le_mul_right v (show y + 1 ≤ h by omega)
          rw [Nat.succ_mul] at this
          omega
        generalize colAt [r0, r1, r2] y x = c at hcm hcat hca hcpix
        refine ⟨_, tgt1, tau1 (.inl rfl), fun W => ExP.weak (Wk.app _ wk) ?_⟩
        refine ExP.cons (S1.assignT hA'.handled rfl rfl ?_)
        walk_at "m e"
        walk_at "m args"
        walk_at "m e"
        walk_at "m e"
        walk_at "m e"
        walk_at "m e"
        walk_at "m e"
        refine ev_width G rfl ?_
        walk_at "m e"
        refine ⟨_, _, _, rfl, ?_⟩
        refine op_mul (mulOk_left (by omega)) ?_
        walk_at "m e"
        refine op_add ?_
        rw [show ((y : Int) * (v : Int) + (x : Int)) = ((y * v + x : Nat) : Int) from by rw [Int.natCast_add, Int.natCast_mul]]
        refine sub_lotN hlt (by omega) ?_
        rw [hcat]
        walk_at "m args"
        refine ev_pix hM (by omega) (by omega) hy hx (fun _ _ => ⟨_, rfl⟩) (fun _ _ => ⟨_, rfl⟩) ?_ ?_ ?_ ?_
        · refine ev_rows G rfl ?_
          walk_at "m e"
          exact ⟨_, _, _, rfl, rfl⟩
        · walk_at "m e"; rfl
        · walk_at "m e"; rfl
        rw [hca]
        walk_at "m args"
        refine ⟨by simp, _, tgt2, tau2 (.inl rfl) (storB rfl), ?_⟩
        have hnl := nearest_lt (c := c) hpal.1
        refine ExP.cons (S1.ite (TsP.cmp rfl ?_))
        walk_at "m call"
        walk_at "m args"
        refine ev_pal (pal := pal) (i := nearestOf pal c) hnl (by omega) (by walk_at "m e"; rfl) (by walk_at "m e"; rfl) ?_
        repeat walk_at "m s"
        refine OpN.toT ((c_lapart G (hA'.to (by decide)) _ c (hpal.get hnl) hcpix).mono fun d e => ?_)
        subst e
        walk_at "m call"
        walk_at "m args"
        refine EvP.compM pal tupI D.asInts (fun c _ => asInts_tupI c) (fun _ => true) (fun x => D.int (apartI x c)) (fun x => [("one", tupI x)]) hA'.handled (scopeOk_of rfl (by decide) (by rfl)) plain1 (fun _ => rfl) (by omega) ?_ ?_ ?_
        · refine EvIt.lst hA'.handled ?_
          walk_at "m e"
          exact ⟨_, rfl, rfl⟩
        · intro x hx
          refine ⟨tgt1, tau1 rfl, fun L' cs' U' => ⟨tau1 (.inl rfl), rfl, fun _ => ?_⟩⟩
          walk_at "m call"
          repeat walk_at "m s"
          exact OpN.toT (c_lapart G (hA'.to (by decide)) x c (hpal.2.2 x hx) hcpix)
        walk_at "m args"
        have e1 : (pal.filter fun _ => true).map (fun x => D.int (apartI x c)) = (pal.map fun x => apartI x c).map D.int := by
          rw [List.filter_eq_self.mpr (fun _ _ => rfl), List.map_map]; rfl
        rw [e1]
        refine OpN.toT (Op1.toN (call_min hA'.handled (by rw [List.length_map]; exact hpal.1) fun m h1 h2 => ?_))
        rw [minL_of h1 h2, ← nearest_min hpal.1]
        refine op_ne (Truth.bool ?_)
        rw [bne_self_eq_false]
        simp only [Bool.false_eq_true, if_false]
        exact ExP.nil (ExP.nil ⟨rfl, by walk_at "m wk"⟩)
      · rintro m r ⟨rfl, wk⟩
        exact ExP.nil ⟨rfl, wk.trans (by walk_at "m wk")⟩
    rintro m r ⟨rfl, wk⟩
    refine ExP.weak wk ?_
    -- the picture shown
    refine ExP.cons (S1.assign (.inl rfl) rfl ?_)
    walk_at "m call"
    repeat walk_at "m s"
    refine OpN.toT ((c_shown G (hA'.to (by decide)) v h rows (by have := hM.len; omega) (fun r hr => by have := hM.row r hr; omega) pal hpal hMb).mono fun d e => ?_)
    subst e
    refine ExP.cons (S1.ret ?_)
    refine EvP.or2 ?_
    walk_at "m e"
    walk_at "m call"
    repeat walk_at "m s"
    refine OpN.toT (Op1.toN (call_len (by rw [List.length_map]; omega) ?_))
    rw [List.length_map]
    walk_at "m e"
    refine op_gt (Truth.bool ?_)
    by_cases hcm : ((countedOf cs).length : Int) > (n : Int)
    · rw [decide_eq_true hcm]
      rfl
    rw [decide_eq_false hcm]
    simp only [Bool.false_eq_true, if_false]
    have hb := hback (by omega)
    walk_at "m e"
    refine EvP.compM ((List.range 3).map fun k => shownRows pal rows k) (planeD v h) D.asRows (fun r _ => asRows_plane v h r) (fun _ => true) (fun rows => D.lst (rows.map lstI)) (fun rows => [("plane", planeD v h rows)]) hA'.handled (scopeOk_of rfl (by decide) (by rfl)) plain1 (fun _ => rfl) (by simp) ?_ ?_ ?_
    · refine EvIt.lst hA'.handled ?_
      walk_at "m e"
      exact ⟨_, rfl, by rw [List.map_map]; rfl⟩
    · intro rows' hr
      refine ⟨tgt1, tau1 rfl, fun L' cs' U' => ⟨tau1 (.inl rfl), rfl, fun _ => ?_⟩⟩
      refine ev_rows G rfl ?_
      walk_at "m e"
      exact ⟨_, _, _, rfl, rfl⟩
    rw [hb, List.filter_eq_self.mpr (fun _ _ => rfl)]
    refine EvP.compM [r0, r1, r2] (planeD v h) D.asRows (fun r _ => asRows_plane v h r) (fun _ => true) (fun rows => D.lst (rows.map lstI)) (fun rows => [("plane", planeD v h rows)]) hA'.handled (scopeOk_of rfl (by decide) (by rfl)) plain1 (fun _ => rfl) (by simp) ?_ ?_ ?_
    · refine EvIt.lst hA'.handled ?_
      walk_at "m e"
      exact ⟨_, rfl, rfl⟩
    · intro rows' hr
      refine ⟨tgt1, tau1 rfl, fun L' cs' U' => ⟨tau1 (.inl rfl), rfl, fun _ => ?_⟩⟩
      refine ev_rows G rfl ?_
      walk_at "m e"
      exact ⟨_, _, _, rfl, rfl⟩
    rw [List.filter_eq_self.mpr (fun _ _ => rfl)]
    refine op_eqD (b := true) hA'.roomy (((okLst 3).lst).lst [r0, r1, r2]) (((okLst 3).lst).lst [r0, r1, r2]) ?_ rfl
    rw [show PyData.eqv (D.lst ([r0, r1, r2].map fun rows => D.lst (rows.map lstI))).py (D.lst ([r0, r1, r2].map fun rows => D.lst (rows.map lstI))).py = _ from (eqLst.lst).lst [r0, r1, r2] [r0, r1, r2]]
    simp
  obtain ⟨h5, tk5, N5, rfl, sb5, fl⟩ := x
  refine ⟨h5, tk5, N5, rfl, (sb2.trans sb3).trans sb5, ?_⟩
  cases f with
  | ret v => obtain ⟨d, i, Hu, rfl⟩ := fl; cases i; exact ⟨_, rfl, rfl, Hu.keep⟩
  | next => obtain ⟨_, _, _, k⟩ := fl; exact k.elim
  | brk => obtain ⟨_, _, _, k⟩ := fl; exact k.elim
  | cont => obtain ⟨_, _, _, k⟩ := fl; exact k.elim
end
theorem weight_all : ∀ {ns : List Int}, ∀ z ∈ ns, (PyData.int z).weight ≤ PyData.weightAll (ns.map PyData.int)
  | [], z, h => by cases h
  | a :: ns, z, h => by
    rw [List.map_cons, PyData.weightAll]
    rcases List.mem_cons.mp h with rfl | h
    · omega
    · have := weight_all z h
      omega
theorem ints_all {prog : Program} {w : World} {S : List Addr} {N : Facts} : ∀ {vs : List Value} {ns : List Int}, IntsAre vs ns → DAll prog w S N vs (ns.map D.int)
  | _, _, .nil => .nil
  | _, _, .cons n t r => .cons (.int n t) (ints_all r)
set_option maxHeartbeats 8000000 in
theorem tst : PySem.Challenge.rw_nt0550_01.Holds := by
  refine hd ?_ saidP witP
  intro w s₀ s₁ mg mb G Y fa o pm cd doc dV kV ho hd' hcd hD hmg hg args vals as hpre hlay hrd hwl hlo
  have KX := kIn_of Y
  refine Ground.open G ?_
  intro T B D TE TW
  wrow_args hpre hlay hrd hwl hlo
  rename_i ns hs hlay0 hLL hr1 hl2 as1 as2 l vs as3 hL ra wl r0 hI hr hlen htrue
  have hbits : ∀ z ∈ ns, z.natAbs.log2 < 2 ^ 20 + 10 := fun z hz => by
    have h1 := weight_all z hz
    have h2 : PyData.weightAll (ns.map PyData.int) ≤ 2 ^ 20 := by
      unfold PyData.layable0 at hLL
      simp only [Bool.and_eq_true, decide_eq_true_eq] at hLL
      exact hLL.2
    rw [PyData.weight] at h1
    split at h1
    · rename_i h0
      rw [beq_iff_eq.mp h0]
      decide
    · omega
  obtain rfl : fa = 249 := by
    have e : some (Value.ref fa) = some (Value.ref 249) := hmg.symm.trans (mg_of KX T.g (by rfl))
    cases e
    rfl
  have hv : DAll PySem.Challenge.rw_nt0550_01.row.prog w [] (fun a o => s₁.heap.get? a = some o) [.ref l] [lstI ns] := by
    obtain ⟨o2, ho2, hc2, n2, hd2⟩ := hL
    have ho3 : o2.dict = none := by
      cases wl with
      | list ho _ =>
        rw [ho] at ho2
        cases ho2
        rfl
    exact .one (.lst ho2 hc2 ho3 hd2 (ints_all hI))
  have Gg : Gd (hk.heap_1 w.params) s₁.heap := ⟨KX, ⟨mg, T.g⟩, ⟨mb, T.b, T.builtins⟩, T.nolimit, ⟨249, _, KX 249 _ (by rfl), by decide⟩⟩
  have H : Hp s₁.heap [] [] (fun a o => s₁.heap.get? a = some o) s₁.heap := ⟨fun _ _ e => e, fun _ _ e => e, fun _ h => (nomatch h), List.nodup_nil, fun _ _ _ h => (nomatch h), fun _ h => (nomatch h)⟩
  have hA : AOk 1 callerA := ⟨rfl, by decide, by decide⟩
  refine enter_call (codeAny_mono (c_law Gg hA ns (by omega) hbits _ _ hv [] s₁ H) fun r s' x => ?_)
  obtain ⟨v, h, tk, N', rfl, rfl, sb, rfl, hk⟩ := x
  exact ⟨.inl ⟨_, .bool true, [], rfl, fun _ => rfl, .bool true, by wrow_post, fun _ => ⟨List.nodup_nil, fun _ h => (nomatch h)⟩⟩, .of_keep hk, rfl, .of_eq hg⟩
end Mine
end
theorem PySem.Challenge.cw_nt0550_01_holds : PySem.Challenge.rw_nt0550_01.Holds :=
  Mine.tst

